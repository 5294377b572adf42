import PyProof.Rows.All
import Wide.All
import OpenK.AllK
import Wide.FinOn
import HandS.ForMost
import HandS.ForExc
import HandS.DictTup
import PyProof.DictMoreH
import KE.KDictCopyH
import HandS.TupLen
import HandS.Wide
import HandS.WideBits
import HandS.CallSlots
import HandS.Walk
import HandS.Flow
import HandS.TryOnly
import HandS.TryMany
import HandS.ExcCtx
import HandS.Hot
import HandS.HotCalls
import HandS.SuiteRaise
import HandS.Style
import HandS.Deep
import HandS.ExcOwn
import HandS.ExcIs
import HandS.Comp
import OpenK.KCls
import OpenK.KFacts
import HandS.ExcInit
import HandS.ExcField
import HandS.More
import HandS.SetKeys
import KE.DataFind
import KE.DataEq
import HandS.SetFor
import HandS.Zip
import HandS.Rev
import HandS.SortKw
import KE.DataMinMax
import PyProof.SeqIndex
import HandS.FStrTup
import HandS.StrMore
import KE.KExcIs
import HandS.IsInst
import HandS.TryElse
import HandS.Small
import HandS.Codes
import HandS.Defaults
import HandS.HeadHook1
import HandS.HeadHook2
import HandS.HeadEnd
import KE.KStateDown
import HandS.Head0
import HandS.Head1
import HandS.Head2
import PySem.Challenge.RW_driftmeet_k15_own_bounds
set_option Elab.async false
set_option linter.all false
/-! DSem: a small language of values (D), a store of objects that may change, expressions E, statements S, and what they give. -/
namespace Den
open PySem L2

/-- a value: what may not change is carried whole; loc i is the i-th object of the store -/
inductive D where
  | non | bl (b : Bool) | int (i : Int) | str (s : Str)
  | tup (xs : List D) | lst (xs : List D)
  | dK (kvs : List (Key × D)) | dT (kvs : List (List Key × D))
  | ins (c : Nat) (fs : List (Nat × D))
  | scr (ns : List Int)
  | loc (i : Nat)

inductive Cell where
  | dead | mu (d : D) | lk (d : D)

abbrev Sto := List Cell
/-- what a name holds: nothing, a value, (in an except suite) the exception -/
inductive Sl where
  | no | v (d : D) | x (c : Nat) (fs : List (Nat × D))
abbrev DEnv := List Sl

inductive Res (α : Type) where
  | ok (a : α) (st : Sto)
  | exc (c : Nat) (fs : List (Nat × D)) (st : Sto)
  | stk

def Res.bind {α β : Type} (r : Res α) (f : α → Sto → Res β) : Res β :=
  match r with
  | .ok a st => f a st
  | .exc c fs st => .exc c fs st
  | .stk => .stk

inductive Flow where
  | nx (e : DEnv) | rt (d : D) | bk (e : DEnv) | ct (e : DEnv)

/-- the content of a value: an object of the store is looked up -/
def look (st : Sto) : D → Option D
  | .loc i => match st[i]? with
    | some (.mu d) => some d
    | some (.lk d) => some d
    | _ => none
  | d => some d

/-- a list's or tuple's items -/
def itemsC : D → Option (List D)
  | .lst xs => some xs
  | .tup xs => some xs
  | .scr ns => some (ns.map D.int)
  | _ => none
def items (st : Sto) (d : D) : Option (List D) := (look st d).bind itemsC

def itemsL (st : Sto) (d : D) : Option (List D) :=
  match look st d with
  | some (.lst xs) => some xs
  | some (.scr ns) => some (ns.map D.int)
  | _ => none

/- values without objects of the store from n on -/
mutual
def closed (n : Nat) : D → Bool
  | .tup xs => closedL n xs
  | .lst xs => closedL n xs
  | .dK kvs => closedK n kvs
  | .dT kvs => closedT n kvs
  | .ins _ fs => closedF n fs
  | .loc i => decide (i < n)
  | _ => true
def closedL (n : Nat) : List D → Bool
  | [] => true
  | x :: xs => closed n x && closedL n xs
def closedK (n : Nat) : List (Key × D) → Bool
  | [] => true
  | (_, x) :: xs => closed n x && closedK n xs
def closedT (n : Nat) : List (List Key × D) → Bool
  | [] => true
  | (_, x) :: xs => closed n x && closedT n xs
def closedF (n : Nat) : List (Nat × D) → Bool
  | [] => true
  | (_, x) :: xs => closed n x && closedF n xs
end

/-- how a call's result is taken over -/
inductive Mode where
  | pure | fresh | keep
  deriving DecidableEq

/- values with the store's objects put in -/
mutual
def subD (f : Nat → Option D) : D → Option D
  | .tup xs => (subL f xs).map .tup
  | .lst xs => (subL f xs).map .lst
  | .dK kvs => (subK f kvs).map .dK
  | .dT kvs => (subT f kvs).map .dT
  | .ins c fs => (subF f fs).map (.ins c)
  | .loc i => f i
  | .non => some .non
  | .bl b => some (.bl b)
  | .int i => some (.int i)
  | .str s => some (.str s)
  | .scr ns => some (.scr ns)
def subL (f : Nat → Option D) : List D → Option (List D)
  | [] => some []
  | x :: xs => (subD f x).bind fun y => (subL f xs).map fun ys => y :: ys
def subK (f : Nat → Option D) : List (Key × D) → Option (List (Key × D))
  | [] => some []
  | (k, x) :: xs => (subD f x).bind fun y => (subK f xs).map fun ys => (k, y) :: ys
def subT (f : Nat → Option D) : List (List Key × D) → Option (List (List Key × D))
  | [] => some []
  | (k, x) :: xs => (subD f x).bind fun y => (subT f xs).map fun ys => (k, y) :: ys
def subF (f : Nat → Option D) : List (Nat × D) → Option (List (Nat × D))
  | [] => some []
  | (k, x) :: xs => (subD f x).bind fun y => (subF f xs).map fun ys => (k, y) :: ys
end
/-- the i-th object, frozen with all that it holds, where it isn't below n -/
def fzI (st : Sto) (n : Nat) : Nat → Nat → Option D
  | 0, _ => none
  | k + 1, i => if i < n then some (.loc i) else match st[i]? with
    | some (.mu c) => subD (fzI st n k) c
    | _ => none
def deep (st : Sto) (n : Nat) (d : D) : Option D := subD (fzI st n 8) d
def deepF (st : Sto) (n : Nat) (fs : List (Nat × D)) : Option (List (Nat × D)) := subF (fzI st n 8) fs
/-- behind a call whose own objects go: the result, frozen -/
def sealP (n : Nat) (r : Res D) : Res D :=
  match r with
  | .ok d st => match deep st n d with
    | some d' => .ok d' (st.take n)
    | none => .stk
  | .exc c fs st => match deepF st n fs with
    | some fs' => .exc c fs' (st.take n)
    | none => .stk
  | .stk => .stk
/-- .. the result stays an object of the store -/
def sealF (n : Nat) (r : Res D) : Res D :=
  match r with
  | .ok d st =>
    match d with
    | .loc j => if j < n then .stk else
        match st[j]? with
        | some (.mu c) => match deep (st.set j .dead) n c with
          | some c' => .ok (.loc (st.take n).length) (st.take n ++ [.mu c'])
          | none => .stk
        | _ => .stk
    | _ => .stk
  | .exc c fs st => match deepF st n fs with
    | some fs' => .exc c fs' (st.take n)
    | none => .stk
  | .stk => .stk

/-! ### operators -/
inductive U where | neg deriving DecidableEq
inductive B where | add | sub | mul | fdiv | mod | pow | shr | band deriving DecidableEq
inductive C where | eq | ne | lt | le | gt | ge | isN | notN | inn | nin | isB | notB deriving DecidableEq

def LIM : Nat := 16777216

mutual
def toP : D → Option PyData
  | .non => some .none
  | .bl b => some (.bool b)
  | .int i => some (.int i)
  | .str s => some (.str s)
  | .tup xs => (toPs xs).map .tuple
  | .lst xs => (toPs xs).map .list
  | .scr ns => some (.list (ns.map .int))
  | _ => none
def toPs : List D → Option (List PyData)
  | [] => some []
  | x :: xs => (toP x).bind fun p => (toPs xs).map fun ps => p :: ps
end
def toPS (st : Sto) (d : D) : Option PyData := (look st d).bind toP
def eqD (st : Sto) (a b : D) : Option Bool :=
  (toPS st a).bind fun p => (toPS st b).bind fun q => if SeqAt.shaped p && SeqAt.shaped q then some (PyData.eqv p q) else none

def mulOk (i j : Int) : Bool := decide (i.natAbs.log2 + j.natAbs.log2 < 1000000)
def divOk (j : Int) : Bool := decide (0 < j) && decide (j.natAbs.log2 < 9000)
def powOk (i j : Int) : Bool := decide (0 ≤ j) && decide (j ≤ 1000000) && decide (i.natAbs < 2 ^ 64)

def addC (a b : D) (st : Sto) : Res D :=
  match a, b with
  | .int i, .int j => .ok (.int (i + j)) st
  | .str s, .str t => if s.length + t.length ≤ LIM then .ok (.str (s ++ t)) st else .stk
  | .tup xs, .tup ys => if xs.length + ys.length ≤ LIM ∧ xs.isEmpty = false then .ok (.tup (xs ++ ys)) st else .stk
  | .lst xs, .lst ys => if xs.length + ys.length ≤ LIM then .ok (.lst (xs ++ ys)) st else .stk
  | _, _ => .stk
def mulC (a b : D) (st : Sto) : Res D :=
  match a, b with
  | .int i, .int j => if mulOk i j = true then .ok (.int (i * j)) st else .stk
  | .lst xs, .int k => if 0 ≤ k ∧ k ≤ 1000 ∧ xs.length * k.toNat ≤ LIM then .ok (.lst (List.replicate k.toNat xs).flatten) st else .stk
  | _, _ => .stk
def intC (o : B) (i j : Int) (st : Sto) : Res D :=
  match o with
  | .sub => .ok (.int (i - j)) st
  | .fdiv => if divOk j = true then .ok (.int (i / j)) st else .stk
  | .mod => if 0 < j then .ok (.int (i % j)) st else .stk
  | .pow => if powOk i j = true then .ok (.int (i ^ j.toNat)) st else .stk
  | .shr => if 0 ≤ j then .ok (.int (i / 2 ^ j.toNat)) st else .stk
  | .band => .ok (.int (Builtin.bitAnd i j)) st
  | _ => .stk
def opB (o : B) (a b : D) (st : Sto) : Res D :=
  match o with
  | .add => match look st a, look st b with
    | some c, some d => addC c d st
    | _, _ => .stk
  | .mul => match look st a, look st b with
    | some c, some d => mulC c d st
    | _, _ => .stk
  | o => match a, b with
    | .int i, .int j => intC o i j st
    | _, _ => .stk

def dget {κ : Type} [DecidableEq κ] (kvs : List (κ × D)) (k : κ) : Option D := (kvs.find? fun kv => decide (kv.1 = k)).map (·.2)
def toK : D → Option Key
  | .int i => some (.inl i)
  | .str s => some (.inr s)
  | _ => none
def toKs : List D → Option (List Key)
  | [] => some []
  | x :: xs => (toK x).bind fun p => (toKs xs).map fun ps => p :: ps
def ofK : Key → D
  | .inl i => .int i
  | .inr s => .str s
/-- a dict's look-up: none where it can't be told -/
def dlook (d : D) (k : D) : Option (Option D) :=
  match d with
  | .dK kvs => (toK k).map fun k => dget kvs k
  | .dT kvs => match k with
    | .tup ks => (toKs ks).map fun k => dget kvs k
    | _ => none
  | _ => none

def flatD : D → Option V
  | .non => some .non
  | .bl b => some (.bl b)
  | .int i => some (.int i)
  | .str x => some (.str x)
  | _ => none
def flatDs : List D → Option (List V)
  | [] => some []
  | x :: xs => match flatD x, flatDs xs with
    | some v, some vs => some (v :: vs)
    | _, _ => none
def inL (p : PyData) (ps : List PyData) : Option Bool := if SeqAt.shaped p && SeqAt.shaped (.list ps) then some (ps.any fun z => PyData.eqv z p) else none
def inC (st : Sto) (a : D) (c : D) : Option Bool :=
  match c with
  | .lst xs => match toPS st a, toPs xs with
    | some p, some ps => inL p ps
    | _, _ => none
  | .scr ns => match toPS st a with
    | some p => inL p (ns.map .int)
    | none => none
  | .tup xs => match flatD a, flatDs xs with
    | some v, some vs => some (inV v vs)
    | _, _ => none
  | .dK kvs => match dlook (.dK kvs) a with
    | some o => some o.isSome
    | none => none
  | .dT kvs => match dlook (.dT kvs) a with
    | some o => some o.isSome
    | none => none
  | .str t => match a with
    | .str s => some (!(Builtin.Str.occurrences t s 0 t.length 1).isEmpty)
    | _ => none
  | _ => none
def inD (st : Sto) (a b : D) : Option Bool :=
  match look st b with
  | some c => inC st a c
  | none => none

def cmpI (o : C) (i j : Int) : Option Bool :=
  match o with
  | .lt => some (decide (i < j))
  | .le => some (decide (i ≤ j))
  | .gt => some (decide (j < i))
  | .ge => some (decide (j ≤ i))
  | _ => none
def isNon : D → Bool
  | .non => true
  | _ => false
def cmpD (o : C) (st : Sto) (a b : D) : Option Bool :=
  match o with
  | .eq => eqD st a b
  | .ne => (eqD st a b).map fun e => !e
  | .inn => inD st a b
  | .nin => (inD st a b).map fun e => !e
  | .isN => if isNon b = true then some (isNon a) else none
  | .notN => if isNon b = true then some (!isNon a) else none
  | .isB => match a, b with
    | .bl i, .bl j => some (decide (i = j))
    | _, _ => none
  | .notB => match a, b with
    | .bl i, .bl j => some (!decide (i = j))
    | _, _ => none
  | o => match a, b with
    | .int i, .int j => cmpI o i j
    | _, _ => none
def opC (o : C) (a b : D) (st : Sto) : Res D :=
  match cmpD o st a b with
  | some e => .ok (.bl e) st
  | none => .stk

def opU (o : U) (a : D) (st : Sto) : Res D :=
  match o, a with
  | .neg, .int i => .ok (.int (-i)) st
  | _, _ => .stk

/-- a place of a list of n items -/
def ixD {α : Type} (xs : List α) (i : Int) : Option α :=
  if 0 ≤ i then xs[i.toNat]? else if -(xs.length : Int) ≤ i then xs[(i + xs.length).toNat]? else none
def cutD {α : Type} (xs : List α) (lo hi : Option Int) : List α :=
  (xs.drop (HT.sIx xs.length 0 lo)).take (HT.sIx xs.length xs.length hi - HT.sIx xs.length 0 lo)

def idxC (c k : D) : Option D :=
  match c with
  | .lst xs => match k with
    | .int i => ixD xs i
    | _ => none
  | .tup xs => match k with
    | .int i => ixD xs i
    | _ => none
  | .scr ns => match k with
    | .int i => (ixD ns i).map D.int
    | _ => none
  | .str s => match k with
    | .int i => if s.length ≤ LIM then (ixD s.cps.toList i).map fun c => .str ⟨#[c]⟩ else none
    | _ => none
  | .dK kvs => (dlook (.dK kvs) k).bind id
  | .dT kvs => (dlook (.dT kvs) k).bind id
  | _ => none
def idxD (a b : D) (st : Sto) : Res D :=
  match look st a with
  | some c => match idxC c b with
    | some d => .ok d st
    | none => .stk
  | none => .stk

def wholeD (n : Nat) (lo hi : Option Int) : Bool := decide (HT.sIx n 0 lo = 0) && decide (HT.sIx n n hi = n)
def slcC (c : D) (lo hi : Option Int) : Option D :=
  match c with
  | .lst xs => some (.lst (cutD xs lo hi))
  | .scr ns => some (.lst ((cutD ns lo hi).map D.int))
  | .tup xs => if wholeD xs.length lo hi = true then none else some (.tup (cutD xs lo hi))
  | .str s => if s.length ≤ LIM then some (.str (L2.cutS s lo hi)) else none
  | _ => none
def slcD (a : D) (lo hi : Option Int) (st : Sto) : Res D :=
  match look st a with
  | some c => match slcC c lo hi with
    | some d => .ok d st
    | none => .stk
  | none => .stk

/-! ### built-in functions on values -/
inductive P where
  | len | abs | max2 | min2 | max1 | min1 | sum | lst | tup | divmod | int | strI | all | any | sorted
  deriving DecidableEq

def allInts : List D → Option (List Int)
  | [] => some []
  | .int i :: xs => (allInts xs).map fun r => i :: r
  | _ => none
def allBls : List D → Option (List Bool)
  | [] => some []
  | .bl i :: xs => (allBls xs).map fun r => i :: r
  | _ => none
def maxL : Int → List Int → Int
  | m, [] => m
  | m, x :: xs => maxL (if x > m then x else m) xs
def minL : Int → List Int → Int
  | m, [] => m
  | m, x :: xs => minL (if x < m then x else m) xs

def lenD (st : Sto) (d : D) : Option Nat :=
  match look st d with
  | some (.lst xs) => some xs.length
  | some (.tup xs) => some xs.length
  | some (.scr ns) => some ns.length
  | some (.str s) => if s.length ≤ LIM then some s.length else none
  | some (.dK kvs) => some kvs.length
  | some (.dT kvs) => some kvs.length
  | _ => none

def prim (p : P) (as : List D) (st : Sto) : Res D :=
  match p with
  | .len => match as with
    | [d] => match lenD st d with
      | some n => .ok (.int n) st
      | none => .stk
    | _ => .stk
  | .abs => match as with
    | [.int i] => .ok (.int (if i < 0 then -i else i)) st
    | _ => .stk
  | .max2 => match as with
    | [.int i, .int j] => .ok (.int (if j > i then j else i)) st
    | _ => .stk
  | .min2 => match as with
    | [.int i, .int j] => .ok (.int (if j < i then j else i)) st
    | _ => .stk
  | .max1 => match as with
    | [d] => match (itemsL st d).bind allInts with
      | some (x :: xs) => .ok (.int (maxL x xs)) st
      | _ => .stk
    | _ => .stk
  | .min1 => match as with
    | [d] => match (itemsL st d).bind allInts with
      | some (x :: xs) => .ok (.int (minL x xs)) st
      | _ => .stk
    | _ => .stk
  | .sum => match as with
    | [d] => match (itemsL st d).bind allInts with
      | some xs => .ok (.int xs.sum) st
      | none => .stk
    | _ => .stk
  | .all => match as with
    | [d] => match (itemsL st d).bind allBls with
      | some xs => .ok (.bl (xs.all id)) st
      | none => .stk
    | _ => .stk
  | .any => match as with
    | [d] => match (itemsL st d).bind allBls with
      | some xs => .ok (.bl (xs.any id)) st
      | none => .stk
    | _ => .stk
  | .lst => match as with
    | [d] => match items st d with
      | some xs => .ok (.lst xs) st
      | none => .stk
    | _ => .stk
  | .tup => match as with
    | [d] => match look st d with
      | some (.lst xs) => .ok (.tup xs) st
      | some (.tup xs) => .ok (.tup xs) st
      | _ => .stk
    | _ => .stk
  | .int => match as with
    | [.int i] => .ok (.int i) st
    | [.bl b] => .ok (.int (if b then 1 else 0)) st
    | _ => .stk
  | .strI => match as with
    | [.int i] => if i.natAbs.log2 < 1920 then .ok (.str (toString i : String)) st else .stk
    | _ => .stk
  | .divmod => match as with
    | [.int i, .int j] => if divOk j = true then .ok (.tup [.int (i / j), .int (i % j)]) st else .stk
    | _ => .stk
  | .sorted => .stk

end Den
/-! DLang: the language: expressions E, targets T, statements S; what they give (evE, evS); a list of functions (run). -/
namespace Den
open PySem L2

/-- what a loop walks -/
inductive IK where
  | seq | tupl | rng1 | rng2 | rng3 | enum | zip | keys | keysM | vals | items | rev | str
  deriving DecidableEq

inductive T where
  | nm (i : Nat) | nil | cons (a b : T) | tp (a : T)

/-- a kind that isinstance asks for: a built-in class, an exception's class -/
inductive Ty where
  | bool | int | str | tuple | list | dict | valueError
  deriving DecidableEq
inductive TC where
  | ty (n : Ty) | ec (c : Nat) | cl (c : Nat)
  deriving DecidableEq

/-- methods of built-in classes -/
inductive M where
  | append | clear | reverse | extend | pop | popAt | remove | insert | index | count
  | get1 | get2 | setdef | dpop1 | dpop2 | update
  | join | split | partition | startswith | replace | zfill | upper | isdigit
  deriving DecidableEq

inductive E where
  | var (i : Nat)
  | cst (d : D)
  | gl (k : Nat)
  | un (o : U) (a : E)
  | bin (o : B) (a b : E)
  | cmp (o : C) (a b : E)
  | chn (o o' : C) (a b c : E)
  | not (a : E)
  | and (as : E)
  | or (as : E)
  | ife (c a b : E)
  | nil
  | cons (a as : E)
  | tup (as : E)
  | lst (m : Bool) (as : E)
  | dnew (m t : Bool)
  | idx (a b : E)
  | slc (a : E) (lo hi : E)
  | revl (a : E)
  | fld (a : E) (f : Nat)
  | call (f : Nat) (md : Mode) (as : E)
  | meth (a : E) (m : Nat) (md : Mode) (as : E)
  | make (c : Nat) (md : Mode) (as : E)
  | pr (p : P) (as : E)
  | bm (m : M) (a : E) (as : E)
  | lc (m : Bool) (own : List Nat) (tg : T) (k : IK) (as : E) (cnd elt : E)
  | isi (a : E) (t : TC)
  | isx (i : Nat) (t : TC)
  | fldx (i f : Nat)
  | fz (a : E)
  /-- a new list (dict) that stays an object -/
  | own (a : E)
  /-- a dict written with its entries: key, value, key, value .. -/
  | ddsp (m t : Bool) (as : E)
  /-- isinstance(a, C), C an own class, a an instance -/
  | iso (a : E) (c : Nat)
  /-- l.index(x) where x may be none of l: ValueError -/
  | idxx (a x : E)
  /-- max(a, default=d), min(a, default=d) -/
  | mxd (mx : Bool) (a d : E)

inductive S where
  | skip
  | seq (a b : S)
  | expr (e : E)
  | asg (t : T) (e : E)
  | seti (a i e : E)
  | setf (a : E) (f : Nat) (e : E)
  | aug (i : Nat) (o : B) (e : E)
  | augi (a i : E) (o : B) (e : E)
  | ret (e : E)
  | retN
  | ife (c : E) (a b : S)
  | whl (n : Nat) (c : E) (b : S)
  | for (t : T) (k : IK) (as : E) (b : S)
  | brk
  | cnt
  | rais (c : Nat) (as : E)
  | try (b : S) (h : S) (orelse : S)
  /-- an except clause: the class, the name's slot, the suite, the further ones -/
  | exc (t : TC) (n : Option Nat) (b : S) (more : S)
  /-- an except clause without name whose suite raises: of a clean exception alone -/
  | excR (t : TC) (b : S) (more : S)
  /-- a name's object changes no more -/
  | frz (i : Nat)
  /-- names that are not read any more -/
  | kill (l : List Nat)

/-- what the program is around: a class's methods, its __init__, exceptions under one another, the functions -/
structure Pg where
  mt : Nat → Nat → Option Nat
  ini : Nat → Option Nat
  sub : Nat → TC → Option Bool
  xf : Nat → Option (Option Nat)
  gv : Nat → Option D
  /-- a class's instances have attributes of that name -/
  fa : Nat → Nat → Bool
  /-- isinstance of a caught exception; exceptions that are raised alone where nothing is handled -/
  kit : Nat → TC → Option Bool
  cln : Nat → Bool
  /-- ValueError's number -/
  vE : Option Nat
  /-- an own class's instances are instances of another one -/
  isc : Nat → Nat → Option Bool
  fns : Nat → List D → Sto → Nat → Res D

mutual
def asgT : T → D → DEnv → Sto → Option DEnv
  | .nm i, d, ρ, _ => if i < ρ.length then some (ρ.set i (.v d)) else none
  | .tp ts, d, ρ, st => match d with
    | .tup xs => asgTs ts xs ρ st
    | _ => none
  | _, _, _, _ => none
def asgTs : T → List D → DEnv → Sto → Option DEnv
  | .nil, [], ρ, _ => some ρ
  | .cons t ts, x :: xs, ρ, st => (asgT t x ρ st).bind fun ρ' => asgTs ts xs ρ' st
  | _, _, _, _ => none
end

/-- locks: objects of the store that may not change while they are walked -/
abbrev Lk := List (Nat × D)
def lockOf (st : Sto) : D → Lk
  | .loc i => match st[i]? with
    | some (.mu d) => [(i, d)]
    | _ => []
  | _ => []
def lkSt (st : Sto) : Lk → Sto
  | [] => st
  | (i, d) :: r => lkSt (st.set i (.lk d)) r
def unSt (st : Sto) : Lk → Option Sto
  | [] => some st
  | (i, d) :: r => match unSt st r with
    | some st' => match st'[i]? with
      | some (.lk _) => some (st'.set i (.mu d))
      | _ => none
    | none => none

def rangeD (lo : Int) (n : Nat) (c : Int) : List D := (List.range n).map fun i => .int (lo + (i : Nat) * c)
def smallI (i : Int) : Bool := decide (i.natAbs < 2 ^ 62)
theorem smallI_ok {i : Int} (h : smallI i = true) : -(2 ^ 62) ≤ i ∧ i < 2 ^ 62 := by
  have h1 : i.natAbs < 2 ^ 62 := of_decide_eq_true h
  have h2 : (2 : Nat) ^ 62 = 4611686018427387904 := by decide
  have h3 : (2 : Int) ^ 62 = 4611686018427387904 := by decide
  rw [h3]
  omega
def zipD : List D → List D → List D
  | x :: xs, y :: ys => .tup [x, y] :: zipD xs ys
  | _, _ => []
def enumD : Nat → List D → List D
  | n, x :: xs => .tup [.int (n : Nat), x] :: enumD (n + 1) xs
  | _, [] => []
def strD (s : Str) : List D := s.cps.toList.map fun c => .str ⟨#[c]⟩
def one? (vs : List D) : Option D := match vs with
  | [d] => some d
  | _ => none
def two? (vs : List D) : Option (D × D) := match vs with
  | [d, e] => some (d, e)
  | _ => none
def three? (vs : List D) : Option (D × D × D) := match vs with
  | [d, e, f] => some (d, e, f)
  | _ => none
def rng3Ok (i j c : Int) : Bool := decide (c.natAbs - 1 < 1000000) && (!decide (c.natAbs = 0)) && decide (i.natAbs < 2 ^ 40) && decide (j.natAbs < 2 ^ 40)
/-- what a dict's walk gives: its keys, its pairs -/
def keysD : D → Option (List D)
  | .dK kvs => some (kvs.map fun kv => ofK kv.1)
  | .dT kvs => some (kvs.map fun kv => .tup (kv.1.map ofK))
  | _ => none
def itemsD : D → Option (List D)
  | .dK kvs => some (kvs.map fun kv => .tup [ofK kv.1, kv.2])
  | .dT kvs => some (kvs.map fun kv => .tup [.tup (kv.1.map ofK), kv.2])
  | _ => none
def evIt (k : IK) (vs : List D) (st : Sto) : Option (List D × Lk) :=
  match k with
  | .seq => (one? vs).bind fun d => match look st d with
    | some (.lst xs) => some (xs, lockOf st d)
    | some (.scr ns) => some (ns.map .int, [])
    | _ => none
  | .tupl => (one? vs).bind fun d => match look st d with
    | some (.tup xs) => some (xs, [])
    | _ => none
  | .rng1 => (one? vs).bind fun d => match d with
    | .int j => if smallI j = true then some (rangeD 0 j.toNat 1, []) else none
    | _ => none
  | .rng2 => (two? vs).bind fun p => match p with
    | (.int i, .int j) => if smallI i = true ∧ smallI j = true then some (rangeD i (j - i).toNat 1, []) else none
    | _ => none
  | .rng3 => (three? vs).bind fun p => match p with
    | (.int i, .int j, .int c) => if rng3Ok i j c = true then some (rangeD i (Builtin.Range.rangeSize i j c).toNat c, []) else none
    | _ => none
  | .enum => (one? vs).bind fun d => match look st d with
    | some (.lst xs) => some (enumD 0 xs, lockOf st d)
    | some (.scr ns) => some (enumD 0 (ns.map .int), [])
    | _ => none
  | .zip => (two? vs).bind fun p => match look st p.1, look st p.2 with
    | some (.lst xs), some (.lst ys) => some (zipD xs ys, lockOf st p.1 ++ lockOf (lkSt st (lockOf st p.1)) p.2)
    | _, _ => none
  | .rev => (one? vs).bind fun d => match look st d with
    | some (.lst xs) => some (xs.reverse, lockOf st d)
    | _ => none
  | .str => (one? vs).bind fun d => match d with
    | .str s => some (strD s, [])
    | _ => none
  | .keys => (one? vs).bind fun d => match (look st d).bind keysD with
    | some xs => some (xs, lockOf st d)
    | none => none
  | .items => (one? vs).bind fun d => match (look st d).bind itemsD with
    | some xs => some (xs, lockOf st d)
    | none => none
  | _ => none

def wipeD (ρ : DEnv) : List Nat → DEnv
  | [] => ρ
  | i :: r => (wipeD ρ r).set i .no

def callM (pg : Pg) (f : Nat) (md : Mode) (as : List D) (st : Sto) (bs : Nat) : Res D :=
  match md with
  | .pure => sealP st.length (pg.fns f as st st.length)
  | .fresh => sealF st.length (pg.fns f as st st.length)
  | .keep => pg.fns f as st bs

def clsOf (st : Sto) (d : D) (m : Nat) : Option Nat :=
  match look st d with
  | some (.ins c fs) => if (fs.lookup m).isNone then some c else none
  | _ => none
def fldD (pg : Pg) (st : Sto) (d : D) (f : Nat) : Option D :=
  match look st d with
  | some (.ins c fs) => if pg.fa c f then fs.lookup f else none
  | _ => none
def ownD (r : Res D) : Res D :=
  match r with
  | .ok (.lst xs) st => .ok (.loc st.length) (st ++ [.mu (.lst xs)])
  | .ok _ _ => .stk
  | r => r
def pairsK : List D → Option (List (Key × D))
  | [] => some []
  | k :: v :: r => (toK k).bind fun k => (pairsK r).map fun l => (k, v) :: l
  | _ => none
def pairsT : List D → Option (List (List Key × D))
  | [] => some []
  | .tup ks :: v :: r => (toKs ks).bind fun k => (pairsT r).map fun l => (k, v) :: l
  | _ => none

def isiD (st : Sto) (d : D) (t : TC) : Option Bool :=
  match t with
  | .ty n => match look st d with
    | some .non => some false
    | some (.bl _) => some (n == .bool || n == .int)
    | some (.int _) => some (n == .int)
    | some (.str _) => some (n == .str)
    | some (.tup _) => some (n == .tuple)
    | some (.lst _) => some (n == .list)
    | some (.scr _) => some (n == .list)
    | some (.dK _) => some (n == .dict)
    | _ => none
  | .ec _ => none
  | .cl _ => none

def isoD (pg : Pg) (st : Sto) (d : D) (c : Nat) : Option Bool :=
  match look st d with
  | some (.ins k _) => pg.isc k c
  | _ => none

def dput {κ : Type} [DecidableEq κ] (kvs : List (κ × D)) (k : κ) (v : D) : List (κ × D) :=
  if kvs.any (fun kv => decide (kv.1 = k)) then kvs.map fun kv => if kv.1 = k then (kv.1, v) else kv else kvs ++ [(k, v)]
def ddrop {κ : Type} [DecidableEq κ] (kvs : List (κ × D)) (k : κ) : List (κ × D) := kvs.filter fun kv => decide (kv.1 ≠ k)
def dputD (d k v : D) : Option D :=
  match d, k with
  | .dK kvs, k => (toK k).bind fun k => if kvs.length < LIM then some (.dK (dput kvs k v)) else none
  | .dT kvs, .tup ks => (toKs ks).bind fun k => if kvs.length < LIM then some (.dT (dput kvs k v)) else none
  | _, _ => none

def ddropD (d k : D) : D :=
  match d, k with
  | .dK kvs, k => match toK k with
    | some k => .dK (ddrop kvs k)
    | none => .dK kvs
  | .dT kvs, .tup ks => match toKs ks with
    | some k => .dT (ddrop kvs k)
    | none => .dT kvs
  | d, _ => d
def dsz : D → Nat
  | .dK kvs => kvs.length
  | .dT kvs => kvs.length
  | _ => LIM
def isLoc (i : Nat) : D → Bool
  | .loc j => j == i
  | _ => false
def dmerge (kvs more : List (List Key × D)) : List (List Key × D) := more.foldl (fun d p => dput d p.1 p.2) kvs
/-- where in a list a value stands first -/
def plD (st : Sto) (c x : D) : Option Nat :=
  match toP c, toPS st x with
  | some (.list ps), some p => if SeqAt.shaped p && SeqAt.shaped (.list ps) then ps.findIdx? fun z => PyData.eqv z p else none
  | _, _ => none

/-- a name whose text may be told -/
def idxOk : PyData → Bool
  | .tuple [.int i, .int j] => decide (i.natAbs.log2 < 1920) && decide (j.natAbs.log2 < 1920)
  | _ => false
/-- .. or that it stands nowhere -/
def plF (st : Sto) (c x : D) : Option (Option Nat) :=
  match toP c, toPS st x with
  | some (.list ps), some p => if SeqAt.shaped p && SeqAt.shaped (.list ps) then (match ps.findIdx? fun z => PyData.eqv z p with
    | some j => some (some j)
    | none => if idxOk p then some none else none) else none
  | _, _ => none
def idxxD (vE : Option Nat) (o x : D) (st : Sto) : Res D :=
  match (look st o).bind fun d => plF st d x with
  | some (some j) => .ok (.int (j : Nat)) st
  | some none => (match vE with
    | some c => .exc c [] st
    | none => .stk)
  | none => .stk

/-- what may be stored into the i-th object by a frame whose own objects begin at bs -/
def fits (bs i : Nat) (d : D) : Bool := decide (bs ≤ i) || closed i d

def lstM (m : M) : Bool := match m with
  | .append | .clear | .reverse | .extend | .pop | .popAt | .remove | .insert | .index | .count => true
  | _ => false
def dicM (m : M) : Bool := match m with
  | .get1 | .get2 | .setdef | .dpop1 | .dpop2 | .update => true
  | _ => false
def strM (m : M) : Bool := match m with
  | .join | .split | .partition | .startswith | .replace | .zfill | .upper | .isdigit => true
  | _ => false
/-- a dict's methods that change it -/
def dicW (m : M) : Bool := match m with
  | .setdef | .dpop1 | .dpop2 | .update => true
  | _ => false
def isMu (st : Sto) (o : D) : Bool := match o with
  | .loc i => (match st[i]? with
    | some (.mu _) => true
    | _ => false)
  | _ => false
/-- the object has such methods -/
def bmT (m : M) (st : Sto) (o : D) : Bool := match look st o with
  | some (.lst _) => lstM m
  | some (.dK _) => dicM m && (!dicW m || isMu st o)
  | some (.dT _) => dicM m && (!dicW m || isMu st o)
  | some (.str _) => strM m
  | _ => false
/-- methods of built-in classes -/
def bmeth (m : M) (o : D) (as : List D) (st : Sto) (bs : Nat) : Res D :=
  match m with
  | .append => match o, as with
    | .loc i, [x] => match st[i]? with
      | some (.mu (.lst xs)) => if xs.length < LIM && fits bs i x then .ok .non (st.set i (.mu (.lst (xs ++ [x])))) else .stk
      | _ => .stk
    | _, _ => .stk
  | .clear => match o, as with
    | .loc i, [] => match st[i]? with
      | some (.mu (.lst _)) => .ok .non (st.set i (.mu (.lst [])))
      | _ => .stk
    | _, _ => .stk
  | .reverse => match o, as with
    | .loc i, [] => match st[i]? with
      | some (.mu (.lst xs)) => .ok .non (st.set i (.mu (.lst xs.reverse)))
      | _ => .stk
    | _, _ => .stk
  | .extend => match o, as with
    | .loc i, [d] => match st[i]?, look st d with
      | some (.mu (.lst xs)), some (.lst ys) => if xs.length + ys.length ≤ LIM && (ys.all fun y => fits bs i y) then .ok .non (st.set i (.mu (.lst (xs ++ ys)))) else .stk
      | _, _ => .stk
    | _, _ => .stk
  | .pop => match o, as with
    | .loc i, [] => match st[i]? with
      | some (.mu (.lst xs)) => match xs[xs.length - 1]? with
        | some y => .ok y (st.set i (.mu (.lst xs.dropLast)))
        | none => .stk
      | _ => .stk
    | _, _ => .stk
  | .insert => match o, as with
    | .loc i, [.int k, x] => match st[i]? with
      | some (.mu (.lst xs)) => if smallI k && decide (0 ≤ k) && decide (k.toNat ≤ xs.length) && decide (xs.length < LIM) && fits bs i x then .ok .non (st.set i (.mu (.lst (xs.take k.toNat ++ x :: xs.drop k.toNat)))) else .stk
      | _ => .stk
    | _, _ => .stk
  | .setdef => match o, as with
    | .loc i, [k, x] => match st[i]? with
      | some (.mu d) => match dlook d k with
        | some (some v) => if dsz d < LIM then .ok v st else .stk
        | some none => if fits bs i x then (match dputD d k x with
          | some d' => .ok x (st.set i (.mu d'))
          | none => .stk) else .stk
        | none => .stk
      | _ => .stk
    | _, _ => .stk
  | .dpop1 => match o, as with
    | .loc i, [k] => match st[i]? with
      | some (.mu d) => match dlook d k with
        | some (some v) => .ok v (st.set i (.mu (ddropD d k)))
        | _ => .stk
      | _ => .stk
    | _, _ => .stk
  | .update => match o, as with
    | .loc i, [e] => if isLoc i e then .stk else match st[i]?, look st e with
      | some (.mu (.dT kvs)), some (.dT ms) => if !kvs.isEmpty && decide (kvs.length + ms.length ≤ LIM) && (ms.all fun p => fits bs i p.2) then .ok .non (st.set i (.mu (.dT (dmerge kvs ms)))) else .stk
      | _, _ => .stk
    | _, _ => .stk
  | .index => match as with
    | [x] => match (look st o).bind fun d => plD st d x with
      | some j => .ok (.int (j : Nat)) st
      | none => .stk
    | _ => .stk
  | .remove => match o, as with
    | .loc i, [x] => match st[i]? with
      | some (.mu (.lst xs)) => match plD st (.lst xs) x with
        | some j => .ok .non (st.set i (.mu (.lst (xs.eraseIdx j))))
        | none => .stk
      | _ => .stk
    | _, _ => .stk
  | .get1 => match as with
    | [k] => match (look st o).bind fun d => dlook d k with
      | some v => .ok (v.getD .non) st
      | none => .stk
    | _ => .stk
  | .upper => match o, as with
    | .str s, [] => if s.length ≤ 1000 then .ok (.str (PySem.Txt.upper s)) st else .stk
    | _, _ => .stk
  | .get2 => match as with
    | [k, x] => match (look st o).bind fun d => dlook d k with
      | some v => .ok (v.getD x) st
      | none => .stk
    | _ => .stk
  | _ => .stk

def augB (o : B) : Bool := match o with
  | .add => true
  | _ => false

/-- a comprehension's turns; what is raised within is not told -/
def lcD (body : D → Sto → Res (Option D)) : List D → List D → Sto → Res (List D)
  | [], acc, st => .ok acc st
  | x :: xs, acc, st => match body x st with
    | .ok (some y) st => lcD body xs (acc ++ [y]) st
    | .ok none st => lcD body xs acc st
    | _ => .stk

def mxD (mx : Bool) (x y : D) (st : Sto) : Res D := match (itemsL st x).bind allInts with
  | some [] => .ok y st
  | some (n :: r) => .ok (.int (if mx then maxL n r else minL n r)) st
  | none => .stk
def dspD (m t : Bool) (xs : List D) (st : Sto) : Res D :=
  match (if t then (pairsT xs).bind fun l => if l.length ≤ 15 then some (Den.D.dT (l.foldl (fun d p => dput d p.1 p.2) [])) else none
    else (pairsK xs).bind fun l => if l.length ≤ 15 then some (Den.D.dK (l.foldl (fun d p => dput d p.1 p.2) [])) else none) with
  | some d => if m then .ok (.loc st.length) (st ++ [.mu d]) else .ok d st
  | none => .stk
section
variable (pg : Pg) (bs : Nat)
mutual
def evE : E → DEnv → Sto → Res D
  | .var i, ρ, st => match ρ[i]? with
    | some (.v d) => .ok d st
    | _ => .stk
  | .isx i t, ρ, st => match ρ[i]? with
    | some (.x c _) => match pg.kit c t with
      | some r => .ok (.bl r) st
      | none => .stk
    | _ => .stk
  | .fldx i f, ρ, st => match ρ[i]? with
    | some (.x c fs) => match (if pg.xf c = some (some f) then fs.lookup f else none) with
      | some d => .ok d st
      | none => .stk
    | _ => .stk
  | .cst d, _, st => .ok d st
  | .gl k, _, st => match pg.gv k with
    | some d => .ok d st
    | none => .stk
  | .un o a, ρ, st => (evE a ρ st).bind fun x st => opU o x st
  | .bin o a b, ρ, st => (evE a ρ st).bind fun x st => (evE b ρ st).bind fun y st => opB o x y st
  | .cmp o a b, ρ, st => (evE a ρ st).bind fun x st => (evE b ρ st).bind fun y st => opC o x y st
  | .chn o o' a b c, ρ, st => (evE a ρ st).bind fun x st => (evE b ρ st).bind fun y st => (opC o x y st).bind fun z st => match z with
    | .bl true => (evE c ρ st).bind fun w st => opC o' y w st
    | .bl false => .ok (.bl false) st
    | _ => .stk
  | .not a, ρ, st => (evE a ρ st).bind fun x st => match x with
    | .bl b => .ok (.bl (!b)) st
    | _ => .stk
  | .and as, ρ, st => evAnd as ρ st
  | .or as, ρ, st => evOr as ρ st
  | .ife c a b, ρ, st => (evE c ρ st).bind fun x st => match x with
    | .bl true => evE a ρ st
    | .bl false => evE b ρ st
    | _ => .stk
  | .nil, _, _ => .stk
  | .cons _ _, _, _ => .stk
  | .tup as, ρ, st => (evA as ρ st).bind fun xs st => if xs.length ≤ LIM then .ok (.tup xs) st else .stk
  | .lst m as, ρ, st => (evA as ρ st).bind fun xs st => if xs.length ≤ LIM then (if m then .ok (.loc st.length) (st ++ [.mu (.lst xs)]) else .ok (.lst xs) st) else .stk
  | .dnew m t, _, st => if m then .ok (.loc st.length) (st ++ [.mu (if t then .dT [] else .dK [])]) else .ok (if t then .dT [] else .dK []) st
  | .idx a b, ρ, st => (evE a ρ st).bind fun x st => (evE b ρ st).bind fun y st => idxD x y st
  | .slc a lo hi, ρ, st => (evE a ρ st).bind fun x st => (evO lo ρ st).bind fun l st => (evO hi ρ st).bind fun h st => slcD x l h st
  | .revl a, ρ, st => (evE a ρ st).bind fun x st => match look st x with
    | some (.lst xs) => .ok (.lst xs.reverse) st
    | some (.scr ns) => .ok (.lst (ns.map D.int).reverse) st
    | _ => .stk
  | .fld a f, ρ, st => (evE a ρ st).bind fun x st => match fldD pg st x f with
    | some d => .ok d st
    | none => .stk
  | .call f md as, ρ, st => (evA as ρ st).bind fun xs st => callM pg f md xs st bs
  | .meth a m md as, ρ, st => (evE a ρ st).bind fun x st => match clsOf st x m with
    | some c => match pg.mt c m with
      | some f => (evA as ρ st).bind fun xs st => callM pg f md (x :: xs) st bs
      | none => .stk
    | none => .stk
  | .make c md as, ρ, st => (evA as ρ st).bind fun xs st => match pg.ini c with
    | some f =>
      let n := st.length
      let r := (pg.fns f (.loc n :: xs) (st ++ [.mu (.ins c [])]) (match md with | .keep => bs | _ => n)).bind fun d st => match d with
        | .non => Res.ok (D.loc n) st
        | _ => .stk
      match md with
      | .pure => sealP n r
      | .fresh => sealF n r
      | .keep => r
    | none => .stk
  | .pr p as, ρ, st => (evA as ρ st).bind fun xs st => prim p xs st
  | .bm m a as, ρ, st => (evE a ρ st).bind fun x st => if bmT m st x then (evA as ρ st).bind fun xs st => bmeth m x xs st bs else .stk
  | .lc m own tg k as cnd elt, ρ, st => (evA as ρ st).bind fun vs st => match evIt k vs st with
    | none => .stk
    | some (xs, lk) => if xs.length ≤ LIM then
      (lcD (fun x st => match asgT tg x (wipeD ρ own) st with
        | none => .stk
        | some ρ' => (evE cnd ρ' st).bind fun b st => match b with
            | .bl true => (evE elt ρ' st).bind fun y st => .ok (some y) st
            | .bl false => .ok none st
            | _ => .stk) xs [] (lkSt st lk)).bind fun ys st => match unSt st lk with
        | some st => if m then .ok (.loc st.length) (st ++ [.mu (.lst ys)]) else .ok (.lst ys) st
        | none => .stk
      else .stk
  | .isi a t, ρ, st => (evE a ρ st).bind fun x st => match isiD st x t with
    | some b => .ok (.bl b) st
    | none => .stk
  | .fz a, ρ, st => (evE a ρ st).bind fun x st => match x with
    | .loc i => match st[i]? with
      | some (.mu d) => .ok d (st.set i .dead)
      | _ => .stk
    | d => .ok d st
  | .own a, ρ, st => ownD (evE a ρ st)
  | .ddsp m t as, ρ, st => (evA as ρ st).bind fun xs st => dspD m t xs st
  | .iso a c, ρ, st => (evE a ρ st).bind fun x st => match isoD pg st x c with
    | some b => .ok (.bl b) st
    | none => .stk
  | .idxx a b, ρ, st => (evE a ρ st).bind fun x st => if bmT .index st x then (evE b ρ st).bind fun y st => idxxD pg.vE x y st else .stk
  | .mxd mx a d, ρ, st => (evE a ρ st).bind fun x st => (evE d ρ st).bind fun y st => mxD mx x y st
def evA : E → DEnv → Sto → Res (List D)
  | .nil, _, st => .ok [] st
  | .cons a as, ρ, st => (evE a ρ st).bind fun x st => (evA as ρ st).bind fun xs st => .ok (x :: xs) st
  | _, _, _ => .stk
def evAnd : E → DEnv → Sto → Res D
  | .nil, _, st => .ok (.bl true) st
  | .cons a as, ρ, st => (evE a ρ st).bind fun x st => match x with
    | .bl true => evAnd as ρ st
    | .bl false => .ok (.bl false) st
    | _ => .stk
  | _, _, _ => .stk
def evOr : E → DEnv → Sto → Res D
  | .nil, _, st => .ok (.bl false) st
  | .cons a as, ρ, st => (evE a ρ st).bind fun x st => match x with
    | .bl false => evOr as ρ st
    | .bl true => .ok (.bl true) st
    | _ => .stk
  | _, _, _ => .stk
def evO : E → DEnv → Sto → Res (Option Int)
  | .nil, _, st => .ok none st
  | .cons a _, ρ, st => (evE a ρ st).bind fun x st => match x with
    | .int i => .ok (some i) st
    | _ => .stk
  | _, _, _ => .stk
end
end

/-- what a statement gives -/
inductive SR where
  | nx (ρ : DEnv) (st : Sto) | rt (d : D) (st : Sto) | bk (ρ : DEnv) (st : Sto) | ct (ρ : DEnv) (st : Sto)
  | exc (c : Nat) (fs : List (Nat × D)) (ρ : DEnv) (st : Sto)
  | stk
/-- from an expression's result -/
def Res.sr {α : Type} (r : Res α) (ρ : DEnv) (f : α → Sto → SR) : SR :=
  match r with
  | .ok a st => f a st
  | .exc c fs st => .exc c fs ρ st
  | .stk => .stk
def SR.seq (r : SR) (f : DEnv → Sto → SR) : SR :=
  match r with
  | .nx ρ st => f ρ st
  | r => r
/-- behind a loop: the locks go -/
def SR.un (r : SR) (lk : Lk) : SR :=
  match r with
  | .nx ρ st => match unSt st lk with
    | some st => .nx ρ st
    | none => .stk
  | .rt d st => match unSt st lk with
    | some st => .rt d st
    | none => .stk
  | .bk _ _ => .stk
  | .ct _ _ => .stk
  | .exc c fs ρ st => .exc c fs ρ st
  | .stk => .stk
def forD (body : D → DEnv → Sto → SR) : List D → DEnv → Sto → SR
  | [], ρ, st => .nx ρ st
  | x :: xs, ρ, st => match body x ρ st with
    | .nx ρ st => forD body xs ρ st
    | .ct ρ st => forD body xs ρ st
    | .bk ρ st => .nx ρ st
    | r => r
def whD (cond : DEnv → Sto → Res D) (body : DEnv → Sto → SR) : Nat → DEnv → Sto → SR
  | 0, _, _ => .stk
  | n + 1, ρ, st => (cond ρ st).sr ρ fun b st => match b with
    | .bl false => .nx ρ st
    | .bl true => match body ρ st with
      | .nx ρ st => whD cond body n ρ st
      | .ct ρ st => whD cond body n ρ st
      | .bk ρ st => .nx ρ st
      | r => r
    | _ => .stk
/-- behind an except suite: the name goes -/
def goneD (ρ : DEnv) (n : Option Nat) : DEnv :=
  let ρ' := ρ.map fun o => match o with
    | .x _ _ => .no
    | o => o
  match n with
  | some i => ρ'.set i .no
  | none => ρ'
def SR.gone (r : SR) (n : Option Nat) : SR :=
  match r with
  | .nx ρ st => .nx (goneD ρ n) st
  | .bk ρ st => .bk (goneD ρ n) st
  | .ct ρ st => .ct (goneD ρ n) st
  | .exc _ _ _ _ => .stk
  | r => r
def SR.goneR (r : SR) : SR :=
  match r with
  | .exc c fs ρ st => .exc c fs (goneD ρ none) st
  | r => r.gone none
def setiD (st : Sto) (bs : Nat) (o k v : D) : Option Sto :=
  match o, k with
  | .loc i, k => match st[i]? with
    | some (.mu (.lst xs)) => match k with
      | .int j => if fits bs i v then
          (if 0 ≤ j then (if j < xs.length then some (st.set i (.mu (.lst (xs.set j.toNat v)))) else none)
           else (if -(xs.length : Int) ≤ j then some (st.set i (.mu (.lst (xs.set (j + xs.length).toNat v)))) else none)) else none
      | _ => none
    | some (.mu d) => if fits bs i v then (dputD d k v).map fun d' => st.set i (.mu d') else none
    | _ => none
  | _, _ => none
def putD (f : Nat) (v : D) : List (Nat × D) → List (Nat × D)
  | [] => [(f, v)]
  | (g, u) :: r => if g = f then (g, v) :: r else (g, u) :: putD f v r
def setfD (pg : Pg) (st : Sto) (bs : Nat) (o : D) (f : Nat) (v : D) : Option Sto :=
  match o with
  | .loc i => match st[i]? with
    | some (.mu (.ins c fs)) => if pg.fa c f && fits bs i v && decide (fs.length < 1000) then some (st.set i (.mu (.ins c (putD f v fs)))) else none
    | _ => none
  | _ => none

/-- an item of an object of the store -/
def idxL (x k : D) (st : Sto) : Res D := match x with
  | .loc _ => idxD x k st
  | _ => .stk
section
variable (pg : Pg) (bs : Nat)
mutual
def evS : S → DEnv → Sto → SR
  | .skip, ρ, st => .nx ρ st
  | .seq a b, ρ, st => (evS a ρ st).seq fun ρ st => evS b ρ st
  | .expr e, ρ, st => (evE pg bs e ρ st).sr ρ fun _ st => .nx ρ st
  | .asg t e, ρ, st => (evE pg bs e ρ st).sr ρ fun d st => match asgT t d ρ st with
    | some ρ => .nx ρ st
    | none => .stk
  | .seti a i e, ρ, st => (evE pg bs e ρ st).sr ρ fun v st => (evE pg bs a ρ st).sr ρ fun o st => (evE pg bs i ρ st).sr ρ fun k st => match setiD st bs o k v with
    | some st => .nx ρ st
    | none => .stk
  | .setf a f e, ρ, st => (evE pg bs e ρ st).sr ρ fun v st => (evE pg bs a ρ st).sr ρ fun o st => match setfD pg st bs o f v with
    | some st => .nx ρ st
    | none => .stk
  | .aug i o e, ρ, st => match ρ[i]? with
    | some (.v (.int x)) => (evE pg bs e ρ st).sr ρ fun d st => match o, d with
      | .add, .int y => .nx (ρ.set i (.v (.int (x + y)))) st
      | _, _ => .stk
    | _ => .stk
  | .augi a i o e, ρ, st => (evE pg bs a ρ st).sr ρ fun x st => (evE pg bs i ρ st).sr ρ fun k st => (idxL x k st).sr ρ fun u st => (evE pg bs e ρ st).sr ρ fun v st =>
    match o, u, v with
    | .add, .int m, .int n => match setiD st bs x k (.int (m + n)) with
      | some st => .nx ρ st
      | none => .stk
    | _, _, _ => .stk
  | .ret e, ρ, st => (evE pg bs e ρ st).sr ρ fun d st => .rt d st
  | .retN, _, st => .rt .non st
  | .ife c a b, ρ, st => (evE pg bs c ρ st).sr ρ fun d st => match d with
    | .bl true => evS a ρ st
    | .bl false => evS b ρ st
    | _ => .stk
  | .whl n c b, ρ, st => whD (evE pg bs c) (evS b) n ρ st
  | .for t k as b, ρ, st => (evA pg bs as ρ st).sr ρ fun vs st => match evIt k vs st with
    | some (xs, lk) => (forD (fun x ρ st => match asgT t x ρ st with
      | some ρ => evS b ρ st
      | none => .stk) xs ρ (lkSt st lk)).un lk
    | none => .stk
  | .brk, ρ, st => .bk ρ st
  | .cnt, ρ, st => .ct ρ st
  | .rais c as, ρ, st => match pg.xf c with
    | some none => (match as with
      | .nil => .exc c [] ρ st
      | _ => .stk)
    | some (some f) => (evA pg bs as ρ st).sr ρ fun xs st => match one? xs with
      | some x => .exc c [(f, x)] ρ st
      | none => .stk
    | none => .stk
  | .try b h e, ρ, st => match evS b ρ st with
    | .nx ρ st => evS e ρ st
    | .exc c fs ρ st => evH h c fs ρ st
    | r => r
  | .exc _ _ _ _, _, _ => .stk
  | .excR _ _ _, _, _ => .stk
  | .frz i, ρ, st => match ρ[i]? with
    | some (.v (.loc j)) => match st[j]? with
      | some (.mu d) => .nx (ρ.set i (.v d)) (st.set j .dead)
      | _ => .stk
    | some (.v _) => .nx ρ st
    | _ => .stk
  | .kill l, ρ, st => .nx (wipeD ρ l) st
def evH : S → Nat → List (Nat × D) → DEnv → Sto → SR
  | .exc t n b more, c, fs, ρ, st => match pg.sub c t with
    | some true => (match n with
       | some i => (evS b (ρ.set i (.x c fs)) st).gone (some i)
       | none => (evS b ρ st).gone none)
    | some false => evH more c fs ρ st
    | none => .stk
  | .excR t b more, c, fs, ρ, st => match pg.sub c t with
    | some true => if pg.cln c then (evS b ρ st).goneR else .stk
    | some false => evH more c fs ρ st
    | none => .stk
  | .skip, c, fs, ρ, st => .exc c fs ρ st
  | _, _, _, _, _ => .stk
end
end

/-- a function: how many parameters, how many names, the body -/
structure Fn where
  np : Nat
  nn : Nat
  body : S

def runF (pg : Pg) (f : Fn) (as : List D) (st : Sto) (bs : Nat) : Res D :=
  if as.length = f.np then
    match evS pg bs f.body (as.map Sl.v ++ List.replicate (f.nn - f.np) .no) st with
    | .nx _ st => .ok .non st
    | .rt d st => .ok d st
    | .exc c fs _ st => .exc c fs st
    | _ => .stk
  else .stk

/-- the functions' table: the i-th from the end is number i; each calls lower ones alone -/
structure Cls where
  mt : Nat → Nat → Option Nat
  ini : Nat → Option Nat
  sub : Nat → TC → Option Bool
  xf : Nat → Option (Option Nat)
  gv : Nat → Option D
  fa : Nat → Nat → Bool
  kit : Nat → TC → Option Bool
  cln : Nat → Bool
  vE : Option Nat
  isc : Nat → Nat → Option Bool
def run (k : Cls) : List Fn → Nat → List D → Sto → Nat → Res D
  | [], _, _, _, _ => .stk
  | f :: fs, i, as, st, bs => if i = fs.length then runF ⟨k.mt, k.ini, k.sub, k.xf, k.gv, k.fa, k.kit, k.cln, k.vE, k.isc, run k fs⟩ f as st bs else run k fs i as st bs

end Den
set_option maxHeartbeats 2000000
/-! DX: a dict whose keys are tuples, each key an object that is tracked, or one of the written part. -/
namespace Den
open PySem L2 PySem.Spec PyProof.Rows

/-- a tuple of the written part -/
def KTup (K : PySem.W.Frag) (a : Addr) (xs : List V) : Prop := ∃ (o : Obj) (its : Array Value) (n : Nat), K.lookup a = some o ∧ o.cls = .type "tuple" ∧ o.data = .seq its n ∧ its.size ≤ sizeLine ∧ Vals xs its.toList
theorem KTup.sq {K : PySem.W.Frag} {H : Hp} {a : Addr} {xs : List V} (h : KTup K a xs) : SqT K H a xs := .inr h
/-- what is known of the written part, and a key's hash -/
structure Kx where
  K : PySem.W.Frag
  hs : List Key → Int
def kxX (X : Cx) : Kx := ⟨X.K, (tupleKind (mixKind X.prog X.w)).hash⟩
/-- a tuple that is a key -/
def KeyX (K : PySem.W.Frag) (H : Hp) (b : Addr) (k : List Key) : Prop := H b = some (.tup (k.map kV)) ∨ KTup K b (k.map kV)
theorem KeyX.mono {K : PySem.W.Frag} {H H' : Hp} {b : Addr} {k : List Key} (h : KeyX K H b k) (ht : ∀ b ys, H b = some (.tup ys) → H' b = some (.tup ys)) : KeyX K H' b k := h.imp (ht _ _) id
abbrev XE := List Key × Addr × V
def KeysX (K : PySem.W.Frag) (H : Hp) (us : List XE) : Prop := ∀ p ∈ us, KeyX K H p.2.1 p.1
abbrev KT2 : List XE → List (List Key × Addr × Value) → Prop := Paired fun (p : XE) (q : List Key × Addr × Value) => p.1 = q.1 ∧ p.2.1 = q.2.1 ∧ RelV p.2.2 q.2.2
def entX (hs : List Key → Int) (x : List Key × Addr × Value) : DictEntry := ⟨hs x.1, .ref x.2.1, x.2.2⟩
def DXs (hs : List Key → Int) (a : Addr) (us : List XE) (h : Heap) : Prop := us.length ≤ sizeLine ∧ (a == sysModules) = false ∧ ∃ xs : List (List Key × Addr × Value), KT2 us xs ∧
  ∃ o es ep, h.get? a = some o ∧ o.ExactDict ∧ o.data = .dict es ep ∧ es.toList = xs.map (entX hs) ∧ (xs.map (·.1)).Nodup
/-- a dict with tuple keys -/
abbrev dX (hs : List Key → Int) (a : Addr) (us : List XE) : HO := .ext (DXs hs a us)
def valX (us : List XE) (k : List Key) : Option V := (us.find? fun p => decide (p.1 = k)).map fun p => p.2.2
def putX (us : List XE) (k : List Key) (b : Addr) (v : V) : List XE := if (us.any fun p => decide (p.1 = k)) = true then us.map fun p => if p.1 = k then (p.1, p.2.1, v) else p else us ++ [(k, b, v)]
def dropX (us : List XE) (k : List Key) : List XE := us.filter fun p => decide (p.1 ≠ k)
theorem valX_pos {p : XE} {us : List XE} {k : List Key} (e : p.1 = k) : valX (p :: us) k = some p.2.2 := by simp [valX, List.find?_cons, e]
theorem valX_neg {p : XE} {us : List XE} {k : List Key} (e : ¬ p.1 = k) : valX (p :: us) k = valX us k := by simp [valX, List.find?_cons, e]
theorem valX_any {us : List XE} {k : List Key} : (us.any fun p => decide (p.1 = k)) = (valX us k).isSome := by
  induction us with
  | nil => rfl
  | cons p us ih =>
    by_cases e : p.1 = k
    · rw [valX_pos e]; simp [e]
    · rw [valX_neg e, ← ih]; simp [e]
theorem putX_len (us : List XE) (k : List Key) (b : Addr) (v : V) : (putX us k b v).length ≤ us.length + 1 := by
  unfold putX; split <;> simp
theorem dropX_le (us : List XE) (k : List Key) : (dropX us k).length ≤ us.length := List.length_filter_le _ _
theorem KeysX.put {K : PySem.W.Frag} {H : Hp} {us : List XE} {k : List Key} {b : Addr} {v : V} (h : KeysX K H us) (hb : KeyX K H b k) : KeysX K H (putX us k b v) := fun p hp => by
  unfold putX at hp
  split at hp
  · obtain ⟨q, hq, rfl⟩ := List.mem_map.mp hp
    have := h q hq
    split <;> exact this
  · rcases List.mem_append.mp hp with hp | hp
    · exact h p hp
    · simp at hp; subst hp; exact hb
theorem KeysX.drop {K : PySem.W.Frag} {H : Hp} {us : List XE} {k : List Key} (h : KeysX K H us) : KeysX K H (dropX us k) := fun p hp => h p (List.mem_filter.mp hp).1
theorem KeysX.mono {K : PySem.W.Frag} {H H' : Hp} {us : List XE} (h : KeysX K H us) (ht : ∀ b ys, H b = some (.tup ys) → H' b = some (.tup ys)) : KeysX K H' us := fun p hp => (h p hp).mono ht

section
variable {us : List XE} {xs : List (List Key × Addr × Value)}
theorem KT2.val (r : KT2 us xs) (k : List Key) : RelO (valX us k) ((atKey xs k).map (·.2)) := by
  induction r with
  | nil => exact True.intro
  | @cons p q ps qs h t ih =>
    obtain ⟨h1, _, h2⟩ := h
    by_cases e : p.1 = k
    · have e' : q.1 = k := h1.symm.trans e
      have b : atKey (q :: qs) k = some q.2 := by simp [atKey, List.find?_cons, e']
      rw [valX_pos e, b]; exact h2
    · have e' : ¬ q.1 = k := fun z => e (h1.trans z)
      have b : atKey (q :: qs) k = atKey qs k := by simp [atKey, List.find?_cons, e']
      rw [valX_neg e, b]; exact ih
theorem KT2.repl (r : KT2 us xs) (k : List Key) {y : V} {u : Value} (ry : RelV y u) : KT2 (us.map fun p => if p.1 = k then (p.1, p.2.1, y) else p) (xs.map (putAt k u)) := by
  induction r with
  | nil => exact .nil
  | @cons p q ps qs h t ih =>
    rw [List.map_cons, List.map_cons]
    refine .cons ?_ ih
    obtain ⟨h1, h2, h3⟩ := h
    unfold putAt
    by_cases e : p.1 = k
    · rw [if_pos e, if_pos (h1.symm.trans e)]; exact ⟨h1, h2, ry⟩
    · rw [if_neg e, if_neg (fun z => e (h1.trans z))]; exact ⟨h1, h2, h3⟩
theorem KT2.put (r : KT2 us xs) (k : List Key) {b : Addr} {y : V} {u : Value} (ry : RelV y u) : KT2 (putX us k b y) (storedH xs k b u) := by
  have e : (us.any fun p => decide (p.1 = k)) = (atKey xs k).isSome := by
    rw [valX_any, (r.val k).isSome_eq, Option.isSome_map]
  unfold putX storedH
  rw [e]
  by_cases q : (atKey xs k).isSome = true
  · rw [if_pos q, if_pos q]; exact r.repl k ry
  · rw [if_neg q, if_neg q]; exact Paired.snoc r ⟨rfl, rfl, ry⟩
end
section
variable {P : Program} {w : World} {K : PySem.W.Frag} {H : Hp} {h : Heap} {a : Addr}
theorem key_ofX {ks : List Key} (ok : HOk P w H h) (hk : K.In h) (e : KeyX K H a ks) : (tupleKind (mixKind P w)).is h ks a := by
  rcases e with e | ⟨o, its, n, h1, h2, h3, h4, h5⟩
  · exact key_of ok e
  · exact ⟨o, its, n, hk a o h1, h2, h3, items_are h5⟩
theorem entX_eq (x : List Key × Addr × Value) : entX (tupleKind (mixKind P w)).hash x = entryOfKey (tupleKind (mixKind P w)) x := rfl
theorem dx_rd {us : List XE} (ok : HOk P w H h) (hk : K.In h) (ks : KeysX K H us) (e : Rd H a (dX (tupleKind (mixKind P w)).hash a us)) : us.length ≤ sizeLine ∧ (a == sysModules) = false ∧
    ∃ xs, KT2 us xs ∧ h.DictOfH (tupleKind (mixKind P w)) a xs := by
  obtain ⟨⟨z, y, xs, r, o, es, ep, h1, h2, h3, h4, h5⟩, _⟩ := (show ObjOk P w H h a (dX (tupleKind (mixKind P w)).hash a us) from rd_of ok e)
  refine ⟨z, y, xs, r, o, es, ep, h1, h2, h3, h4, fun x hx => ?_, h5⟩
  have all : ∀ {l : List XE} {m : List (List Key × Addr × Value)}, KT2 l m → KeysX K H l → ∀ x ∈ m, (tupleKind (mixKind P w)).is h x.1 x.2.1 := by
    intro l m q
    induction q with
    | nil => intro _ x hx; exact nomatch hx
    | @cons p q ps qs hq t ih =>
      intro ks x hx
      rcases List.mem_cons.mp hx with e | hx
      · subst e
        have := ks p List.mem_cons_self
        rw [hq.1, hq.2.1] at this
        exact key_ofX ok hk this
      · exact ih (fun p hp => ks p (List.mem_cons_of_mem _ hp)) x hx
  exact all r ks x hx
/-- the object as it is laid -/
theorem dx_ok {hs : List Key → Int} {us : List XE} (x : DXs hs a us h) : ObjOk P w H h a (dX hs a us) := by
  refine ⟨x, ?_, fun h1 h2 q k => ?_⟩
  · obtain ⟨_, _, _, _, o, _, _, e, _⟩ := x; exact ⟨o, e⟩
  · obtain ⟨z, y, xs, r, o, es, ep, e, c⟩ := q; exact ⟨z, y, xs, r, o, es, ep, k _ e, c⟩
theorem dx_of {us : List XE} {xs : List (List Key × Addr × Value)} (z : us.length ≤ sizeLine) (hd : (a == sysModules) = false) (r : KT2 us xs) (d : h.DictOfH (tupleKind (mixKind P w)) a xs) : ObjOk P w H h a (dX (tupleKind (mixKind P w)).hash a us) := by
  obtain ⟨o, es, ep, h1, h2, h3, h4, _, h5⟩ := d
  exact dx_ok ⟨z, hd, xs, r, o, es, ep, h1, h2, h3, h4, h5⟩
end

/-- what the dict at a holds at the key y -/
def DGet (kx : Kx) (H : Hp) (a : Addr) (y : V) (r : Option V) : Prop :=
  (∃ kvs k, Rd H a (.dK kvs) ∧ y = kV k ∧ r = valV kvs k) ∨ ∃ us k b, Rd H a (dX kx.hs a us) ∧ KeysX kx.K H us ∧ y = .ref b ∧ KeyX kx.K H b k ∧ r = valX us k
/-- the heap behind a[y] = v -/
def DPut (kx : Kx) (H : Hp) (a : Addr) (y v : V) (H' : Hp) : Prop :=
  (∃ kvs k, H a = some (.dK kvs) ∧ y = kV k ∧ kvs.length < sizeLine ∧ H' = upd H a (.dK (putK kvs k v))) ∨
  ∃ us k b, H a = some (dX kx.hs a us) ∧ KeysX kx.K H us ∧ y = .ref b ∧ KeyX kx.K H b k ∧ us.length < sizeLine ∧ H' = upd H a (dX kx.hs a (putX us k b v))
theorem DPut.k {kx : Kx} {H : Hp} {a : Addr} {kvs : List (Key × V)} {k : Key} {v : V} (e : H a = some (.dK kvs)) (hl : kvs.length < sizeLine) : DPut kx H a (kV k) v (upd H a (.dK (putK kvs k v))) := .inl ⟨kvs, k, e, rfl, hl, rfl⟩
theorem DPut.t {kx : Kx} {H : Hp} {a b : Addr} {us : List XE} {k : List Key} {v : V} (e : H a = some (dX kx.hs a us)) (ks : KeysX kx.K H us) (eb : KeyX kx.K H b k) (hl : us.length < sizeLine) :
    DPut kx H a (.ref b) v (upd H a (dX kx.hs a (putX us k b v))) := .inr ⟨us, k, b, e, ks, rfl, eb, hl, rfl⟩

section
variable {X : Cx} {pins : List (Addr × Obj)} {σ : L2.St} {H : Hp} {s : Shared} {a : Addr} {y v d : V} {u r : Value} {o : Option V} {A : Around} {E : Value → Shared → Prop}
/-- d[y], there -/
theorem d_getItem {Q : Value → Shared → Prop} (hu : A.units + 1 < cLine) (I : Inv X pins σ H s) (g : DGet (kxX X) H a y (some v)) (ry : RelV y u) (h : ∀ w' s', Inv X pins σ H s' → RelV v w' → Q w' s') :
    wpAny (model X.prog X.w) A (getItem (.ref a) u) Q E s := by
  rcases g with ⟨kvs, k, e, ey, l⟩ | ⟨us, k, b, e, ks, ey, eb, l⟩
  · exact L2.d_getItem hu I (.inl ⟨kvs, k, e, ey, l⟩) ry h
  · subst ey
    cases (show u = Value.ref b from ry)
    obtain ⟨z, hd, xs, rel, dd⟩ := dx_rd I.hok I.kIn ks e
    obtain ⟨w', hw, rw'⟩ := RelO.some_of (v := v) (o := (atKey xs k).map (·.2)) (by rw [l]; exact rel.val k)
    obtain ⟨p, hp, hp2⟩ := Option.map_eq_some_iff.mp hw
    refine wpAny_getItem_heap (tupleKind_room_in1 hu) (key_ofX I.hok I.kIn eb) dd hp ?_
    rw [hp2]
    exact h w' _ (I.tok _) rw'
/-- y in d -/
theorem d_in {Q : Value → Shared → Prop} (hu : A.units + 1 < cLine) (I : Inv X pins σ H s) (g : DGet (kxX X) H a y o) (ry : RelV y u) (h : ∀ s', Inv X pins σ H s' → Q (.bool o.isSome) s') :
    wpAny (model X.prog X.w) A (compareOp .In u (.ref a)) Q E s := by
  rcases g with ⟨kvs, k, e, ey, l⟩ | ⟨us, k, b, e, ks, ey, eb, l⟩
  · exact L2.d_in hu I (.inl ⟨kvs, k, e, ey, l⟩) ry h
  · subst ey
    cases (show u = Value.ref b from ry)
    obtain ⟨z, hd, xs, rel, dd⟩ := dx_rd I.hok I.kIn ks e
    refine wpAny_in_heap (tupleKind_room_in1 hu) (key_ofX I.hok I.kIn eb) hd dd ?_
    have q := (rel.val k).isSome_eq
    rw [Option.isSome_map] at q
    rw [← q, ← l]
    exact h _ (I.tok _)
theorem d_notIn {Q : Value → Shared → Prop} (hu : A.units + 1 < cLine) (I : Inv X pins σ H s) (g : DGet (kxX X) H a y o) (ry : RelV y u) (h : ∀ s', Inv X pins σ H s' → Q (.bool (!o.isSome)) s') :
    wpAny (model X.prog X.w) A (compareOp .NotIn u (.ref a)) Q E s := by
  rcases g with ⟨kvs, k, e, ey, l⟩ | ⟨us, k, b, e, ks, ey, eb, l⟩
  · exact L2.d_notIn hu I (.inl ⟨kvs, k, e, ey, l⟩) ry h
  · subst ey
    cases (show u = Value.ref b from ry)
    obtain ⟨z, hd, xs, rel, dd⟩ := dx_rd I.hok I.kIn ks e
    refine wpAny_notIn_heap (tupleKind_room_in1 hu) (key_ofX I.hok I.kIn eb) hd dd ?_
    have q := (rel.val k).isSome_eq
    rw [Option.isSome_map] at q
    rw [← q, ← l]
    exact h _ (I.tok _)
/-- a dict with tuple keys is written -/
theorem dx_write {us us' : List XE} {xs' : List (List Key × Addr × Value)} {h' : Heap} {t' : Nat} (I : Inv X pins σ H s) (e : H a = some (dX (kxX X).hs a us)) (hl : us'.length ≤ sizeLine) (hd : (a == sysModules) = false) (rel : KT2 us' xs')
    (dd : h'.DictOfH (tupleKind (mixKind X.prog X.w)) a xs') (hs : Heap.SameBut a s.heap h') : Inv X pins σ (upd H a (dX (kxX X).hs a us')) { s with heap := h', toks := t' } := by
  obtain ⟨q, es, ep, hq, h2, h3, h4, h6, h5⟩ := dd
  exact d_write I (by rw [e]; exact True.intro) hs ⟨q, hq⟩ (dx_of hl hd rel ⟨q, es, ep, hq, h2, h3, h4, h6, h5⟩)
/-- d[y] = v -/
theorem d_setItem {H' : Hp} {Q : Unit → Shared → Prop} (hu : A.units + 1 < cLine) (I : Inv X pins σ H s) (g : DPut (kxX X) H a y v H') (ry : RelV y u) (rv : RelV v r) (h : ∀ s', Inv X pins σ H' s' → Q () s') :
    wpAny (model X.prog X.w) A (setItem (.ref a) u r) Q E s := by
  rcases g with ⟨kvs, k, e, ey, l, eH⟩ | ⟨us, k, b, e, ks, ey, eb, l, eH⟩
  · exact L2.d_setItem hu I (.inl ⟨kvs, k, e, ey, l, eH⟩) ry rv h
  · subst ey eH
    cases (show u = Value.ref b from ry)
    obtain ⟨z, hd, xs, rel, dd⟩ := dx_rd I.hok I.kIn ks (.inl e)
    have hz : xs.length ≤ sizeLine := by rw [← Paired.length rel]; exact z
    have hl : (putX us k b v).length ≤ sizeLine := by have := putX_len us k b v; omega
    exact wpAny_setItem_heap (hsz := hz) (tupleKind_room_in1 hu) (key_ofX I.hok I.kIn eb) dd fun h' dd' hs => h _ (dx_write I e hl hd (rel.put k rv) dd' hs)
/-- d.get(y) -/
theorem d_get1 {Q : Value → Shared → Prop} (hu : A.units + 1 < cLine) (I : Inv X pins σ H s) (g : DGet (kxX X) H a y o) (ry : RelV y u) (h : ∀ w' s', Inv X pins σ H s' → RelV (o.getD .non) w' → Q w' s') :
    wpAny (model X.prog X.w) A (call (.builtin "dict.get") [.ref a, u]) Q E s := by
  rcases g with ⟨kvs, k, e, ey, l⟩ | ⟨us, k, b, e, ks, ey, eb, l⟩
  · exact L2.d_get1 hu I (.inl ⟨kvs, k, e, ey, l⟩) ry h
  · subst ey
    cases (show u = Value.ref b from ry)
    obtain ⟨z, hd, xs, rel, dd⟩ := dx_rd I.hok I.kIn ks e
    refine call_meetsIn PySem.F.slot_dict_get dd.typeIs PySem.F.entry_dict_get (PySem.F.args_dict_get_2 _ _) (meetsH_dict_get (tupleKind (mixKind X.prog X.w)) a b hd) ⟨tupleKind_room_in1 hu, k, xs, key_ofX I.hok I.kIn eb, dd, h _ _ (I.tok _) ?_⟩
    rw [l]
    exact (rel.val k).getD rfl
/-- d.get(y, x) -/
theorem d_get2 {Q : Value → Shared → Prop} (hu : A.units + 1 < cLine) (I : Inv X pins σ H s) (g : DGet (kxX X) H a y o) (ry : RelV y u) (rd : RelV d r) (h : ∀ w' s', Inv X pins σ H s' → RelV (o.getD d) w' → Q w' s') :
    wpAny (model X.prog X.w) A (call (.builtin "dict.get") [.ref a, u, r]) Q E s := by
  rcases g with ⟨kvs, k, e, ey, l⟩ | ⟨us, k, b, e, ks, ey, eb, l⟩
  · exact L2.d_get2 hu I (.inl ⟨kvs, k, e, ey, l⟩) ry rd h
  · subst ey
    cases (show u = Value.ref b from ry)
    obtain ⟨z, hd, xs, rel, dd⟩ := dx_rd I.hok I.kIn ks e
    refine call_meetsIn PySem.F.slot_dict_get dd.typeIs PySem.F.entry_dict_get (PySem.F.args_dict_get_3 _ _ _) (meetsH_dict_get_default (tupleKind (mixKind X.prog X.w)) a b hd r) ⟨tupleKind_room_in1 hu, k, xs, key_ofX I.hok I.kIn eb, dd, h _ _ (I.tok _) ?_⟩
    rw [l]
    exact (rel.val k).getD rd
end
theorem dx_empty {P : Program} {w : World} {H : Hp} (h : Heap) (hb : sysModules < h.objs.size) : ObjOk P w H (h.push { cls := .type "dict", data := .dict #[] }) h.objs.size (dX (tupleKind (mixKind P w)).hash h.objs.size []) :=
  dx_ok ⟨Nat.zero_le _, beq_eq_false_iff_ne.mpr (Ne.symm (Nat.ne_of_lt hb)), [], .nil, _, #[], 0, Heap.get?_push_size _ rfl, ⟨rfl, rfl, rfl⟩, rfl, rfl, List.nodup_nil⟩
def tDNewT (kx : Kx) : TE := fun _ H Q => ∀ p, H p = none → Q (.ref p) (upd H p (dX kx.hs p []))
theorem pe_dnewT {X : Cx} {pos : Pos} : PE X (.Dict [] [] pos) (tDNewT (kxX X)) := ⟨fun pins s σ H Q I h =>
  wpAny_Dict_empty ⟨.ref s.heap.objs.size, _, I.laid (a := s.heap.objs.size) (o := dX (kxX X).hs s.heap.objs.size []) (t' := s.toks) (fun _ _ q => Heap.get?_push_of_some _ q) (Nat.le_refl _) (dx_empty s.heap I.big), rfl, h _ (I.hok.fresh (Nat.le_refl _))⟩⟩
/-- a is a dict, whatever its keys -/
def IsD (kx : Kx) (H : Hp) (a : Addr) : Prop := (∃ kvs, Rd H a (.dK kvs)) ∨ ∃ us, Rd H a (dX kx.hs a us) ∧ KeysX kx.K H us
theorem isD_at {X : Cx} {pins : List (Addr × Obj)} {σ : L2.St} {H : Hp} {s : Shared} {a : Addr} (I : Inv X pins σ H s) (d : IsD (kxX X) H a) :
    s.TypeIs (.ref a) "dict" ∧ (∀ b, Value.ref a = .ref b → ∃ ob, s.heap.get? b = some ob ∧ ob.dict = none) ∧ (a == sysModules) = false := by
  rcases d with ⟨kvs, e⟩ | ⟨us, e, ks⟩
  · exact L2.isD_at I (.inl ⟨kvs, e⟩)
  · obtain ⟨_, hd, xs, _, dd⟩ := dx_rd I.hok I.kIn ks e
    refine ⟨dd.typeIs, fun b q => ?_, hd⟩
    cases q
    obtain ⟨ob, _, _, h1, h2, _⟩ := dd
    exact ⟨ob, h1, h2.2.1⟩
theorem dict_typeIs {X : Cx} {pins : List (Addr × Obj)} {σ : L2.St} {H : Hp} {s : Shared} {a : Addr} {y : V} {o : Option V} (I : Inv X pins σ H s) (g : DGet (kxX X) H a y o) : s.TypeIs (.ref a) "dict" := by
  rcases g with ⟨kvs, k, e, _, _⟩ | ⟨us, k, b, e, ks, _, _, _⟩
  · exact (isD_at I (.inl ⟨kvs, e⟩)).1
  · exact (isD_at I (.inr ⟨us, e, ks⟩)).1
def tDGet1 (kx : Kx) (td ty : TE) : TE := fun σ H Q => td σ H fun x H1 => ∃ a, x = .ref a ∧ IsD kx H1 a ∧ ty σ H1 fun y H2 => ∃ o, DGet kx H2 a y o ∧ Q (o.getD .non) H2
def tDGet2 (kx : Kx) (td ty tx : TE) : TE := fun σ H Q => td σ H fun x H1 => ∃ a, x = .ref a ∧ IsD kx H1 a ∧ ty σ H1 fun y H2 => tx σ H2 fun z H3 => ∃ o, DGet kx H3 a y o ∧ Q (o.getD z) H3
section
variable {X : Cx} {o e f : Expr} {apos cpos : Pos} {td ty tx : TE}
theorem pe_dget1 (hu : X.A.units + 1 < cLine) (ho : PE X o td) (he : PE X e ty) (m : M1 X o "get" apos e cpos) : PE X (.Call (.Attribute o "get" apos) [e] [] cpos) (tDGet1 (kxX X) td ty) := by
  refine ⟨fun pins s σ H Q I h => ?_⟩
  refine wpAny_Call_method m.base m.few m.line PySem.F.plainAttrs_dict PySem.F.slot_dict_get PySem.F.type_dict_get (thn (ho.run pins s σ H _ I h) fun u s1 ⟨x, H1, I1, rx, a, ex, d, q1⟩ => ?_)
  subst ex
  obtain rfl : u = Value.ref a := rx
  obtain ⟨t1, t2, _⟩ := isD_at I1 d
  refine ⟨t1, t2, ?_⟩
  rw [m.trees]
  refine Calls.callWith_builtin rfl (Calls.evalArgs_plain (Calls.spliced_cons (thn (he.run pins s1 σ H1 _ I1 q1) fun iv s2 ⟨y, H2, I2, ry, ov, g, q2⟩ => Calls.spliced_nil ?_)))
  exact d_get1 hu I2 g ry fun w' s3 I3 rw' => ⟨_, H2, I3, rw', q2⟩
theorem pe_dget2 (hu : X.A.units + 1 < cLine) (ho : PE X o td) (he : PE X e ty) (hf : PE X f tx) (m : M2 X o "get" apos e f cpos) : PE X (.Call (.Attribute o "get" apos) [e, f] [] cpos) (tDGet2 (kxX X) td ty tx) := by
  refine ⟨fun pins s σ H Q I h => ?_⟩
  refine wpAny_Call_method m.base m.few m.line PySem.F.plainAttrs_dict PySem.F.slot_dict_get PySem.F.type_dict_get (thn (ho.run pins s σ H _ I h) fun u s1 ⟨x, H1, I1, rx, a, ex, d, q1⟩ => ?_)
  subst ex
  obtain rfl : u = Value.ref a := rx
  obtain ⟨t1, t2, _⟩ := isD_at I1 d
  refine ⟨t1, t2, ?_⟩
  rw [m.trees]
  refine Calls.callWith_builtin rfl (Calls.evalArgs_plain (Calls.spliced_cons (thn (he.run pins s1 σ H1 _ I1 q1) fun iv s2 ⟨y, H2, I2, ry, q2⟩ =>
    Calls.spliced_cons (thn (hf.run pins s2 σ H2 _ I2 q2) fun fv s3 ⟨z, H3, I3, rz, ov, g, q3⟩ => Calls.spliced_nil ?_))))
  exact d_get2 hu I3 g ry rz fun w' s4 I4 rw' => ⟨_, H3, I4, rw', q3⟩
end
/-- what a built-in class's method is asked of -/
def tyV (kx : Kx) (T : String) (x : V) (H : Hp) : Prop := L2.tyV kx.K T x H ∨ (T = "dict" ∧ ∃ a us, x = .ref a ∧ H a = some (dX kx.hs a us))
section
variable {X : Cx} {o e : Expr} {es : List Expr} {to : TE} {t : TA} {name : Str} {apos cpos : Pos} {T id : String} {r : V → List V → Hp → VK → Prop}
theorem tyV_is {pins : List (Addr × Obj)} {σ : L2.St} {H : Hp} {s : Shared} {T : String} {x : V} {v : Value} (I : Inv X pins σ H s) (r : RelV x v) (ty : tyV (kxX X) T x H) :
    s.TypeIs v T ∧ ∀ a, v = .ref a → ∃ ob, s.heap.get? a = some ob ∧ ob.dict = none := by
  rcases ty with ty | ⟨rfl, a, us, rfl, e⟩
  · exact L2.tyV_is I r ty
  · cases r
    obtain ⟨⟨z, y, xs, r, o, es, ep, h1, h2, h3, h4, h5⟩, _⟩ := I.hok a _ e
    exact ⟨⟨o, h1, h2.1⟩, fun b q => by cases q; exact ⟨o, h1, h2.2.1⟩⟩
def tBM0 (kx : Kx) (T : String) (r : V → List V → Hp → VK → Prop) (to : TE) : TE := fun σ H Q => to σ H fun x H1 => tyV kx T x H1 ∧ r x [] H1 Q
def tBM (kx : Kx) (T : String) (r : V → List V → Hp → VK → Prop) (to : TE) (t : TA) : TE := fun σ H Q => to σ H fun x H1 => tyV kx T x H1 ∧ t σ H1 fun xs H2 => r x xs H2 Q
theorem pe_bm0 (pa : PlainAttrs T) (slot : Slot T name id) (hty : typeOf (.builtin id) = pure (.type "method_descriptor")) (hm : MtR X id r) (ho : PE X o to)
    (hbase : attributeBase o name X.env (eval o X.env) = eval o X.env := by rfl) (hline : (apos.endLine == cpos.line) = true := by rfl) : PE X (.Call (.Attribute o name apos) [] [] cpos) (tBM0 (kxX X) T r to) := by
  refine ⟨fun pins s σ H Q I h => ?_⟩
  refine wpAny_Call_method0_late hbase hline (thn (ho.run pins s σ H _ I h) fun v s1 ⟨x, H1, I1, r1, ty, q1⟩ => ?_)
  obtain ⟨h1, h2⟩ := tyV_is I1 r1 ty
  exact ⟨T, id, pa, slot, hty, h1, h2, Calls.callWith_builtin rfl (PySem.evalArgs_none (hm pins s1 σ H1 x [] v [] Q I1 r1 .nil q1))⟩
theorem pe_bm (pa : PlainAttrs T) (slot : Slot T name id) (hty : typeOf (.builtin id) = pure (.type "method_descriptor")) (hm : MtR X id r) (ho : PE X o to) (ha : PA X (e :: es) t)
    (hbase : attributeBase o name X.env (eval o X.env) = eval o X.env := by rfl)
    (hfew : ((backTo cpos (starEach (e :: es) X.env)).all (fun x => !x.1) && (backToKw cpos (keywordEach [] X.env)).all (fun x => x.1.isSome)
      && decide ((e :: es).length + ([] : List Keyword).length + (if ([] : List Keyword).isEmpty then 0 else 1) < 30)) = true := by rfl)
    (hline : (apos.endLine == cpos.line) = true := by rfl) (hs : starEach (e :: es) X.env = (false, eval e X.env) :: starEach es X.env := by rfl) (hplain : (backTo cpos (starEach es X.env)).any (·.1) = false := by rfl) :
    PE X (.Call (.Attribute o name apos) (e :: es) [] cpos) (tBM (kxX X) T r to t) := by
  refine ⟨fun pins s σ H Q I h => ?_⟩
  refine wpAny_Call_method_late hbase hfew hline rfl (thn (ho.run pins s σ H _ I h) fun v s1 ⟨x, H1, I1, r1, ty, q1⟩ => ?_)
  obtain ⟨h1, h2⟩ := tyV_is I1 r1 ty
  refine ⟨T, id, pa, slot, hty, h1, h2, ?_⟩
  have hA := ha.run cpos pins s1 σ H1 _ I1 q1
  rw [hs] at hA ⊢
  refine Calls.callWith_builtin (by show (false || (backTo cpos (starEach es X.env)).any (·.1)) = false; rw [hplain] <;> rfl) (Calls.evalArgs_plain ?_)
  exact thn hA fun us s2 ⟨vs, H2, I2, r2, q2⟩ => hm pins s2 σ H2 x vs v us Q I2 r1 r2 q2
end
/-- a tuple key's hash -/
def hsOf (w : World) (ks : List Key) : Int := reduceHash (Builtin.Tuple.tupleHashOf (ks.map (keyH w)))
theorem hsOf_eq {P : Program} {w : World} : (tupleKind (mixKind P w)).hash = hsOf w := rfl
end Den
set_option maxHeartbeats 1000000
/-! DRel: what it is that a value of the language stands for a value of the model, over the store and the abstract heap. -/
namespace Den
open PySem L2

/-- what names mean: the written part; the classes' addresses; the attributes' names; the exceptions' classes -/
structure Gm where
  K : PySem.W.Frag
  hs : List Key → Int
  cls : Nat → Addr
  fnm : Nat → Str
  fin : ∀ i j, fnm i = fnm j → i = j
  xcl : Nat → Value
  gv : List (D × V)
  /-- a class whose exceptions are raised alone where nothing is handled -/
  cln : Value → Prop
def Gm.kx (G : Gm) : Kx := ⟨G.K, G.hs⟩

/-- the store, the addresses of its objects, the abstract heap -/
structure Wd where
  φ : List Addr
  st : Sto
  H : Hp
  /-- lists that are being made by comprehensions -/
  ex : List Addr

def Live (w : Wd) (a : Addr) : Prop := ∃ (i : Nat) (d : D), (w.st[i]? = some (Cell.mu d) ∨ w.st[i]? = some (Cell.lk d)) ∧ w.φ[i]? = some a
def Mu (w : Wd) (a : Addr) : Prop := ∃ (i : Nat) (d : D), w.st[i]? = some (Cell.mu d) ∧ w.φ[i]? = some a
/-- what may change, or is being made -/
def Tk (w : Wd) (a : Addr) : Prop := Live w a ∨ a ∈ w.ex
theorem Mu.live {w : Wd} {a : Addr} (h : Mu w a) : Live w a := let ⟨i, d, h1, h2⟩ := h; ⟨i, d, .inl h1, h2⟩

/-- a list, a tuple of the written part -/
def KLst (K : PySem.W.Frag) (a : Addr) (vs : List V) : Prop := ∀ H, SqL K H a vs

section
variable (G : Gm) (w : Wd)
/-- a tuple: tracked, or of the written part -/
def TpA (a : Addr) (vs : List V) : Prop := (¬ Tk w a ∧ w.H a = some (.tup vs)) ∨ KTup G.K a vs
mutual
def Rep : D → V → Prop
  | .non, v => v = .non
  | .bl b, v => v = .bl b
  | .int i, v => v = .int i
  | .str s, v => v = .str s
  | .tup xs, v => ∃ a vs, v = .ref a ∧ TpA G w a vs ∧ Reps xs vs
  | .lst xs, v => ∃ a vs, v = .ref a ∧ ¬ Tk w a ∧ w.H a = some (.lst vs) ∧ Reps xs vs
  | .dK kvs, v => ∃ a us, v = .ref a ∧ ¬ Tk w a ∧ Rd w.H a (.dK us) ∧ RepK kvs us
  | .dT kvs, v => ∃ a us, v = .ref a ∧ ¬ Tk w a ∧ Rd w.H a (dX G.hs a us) ∧ RepT kvs us
  | .ins c fs, v => ∃ a dx us, v = .ref a ∧ ¬ Tk w a ∧ w.H a = some (.ins (G.cls c) dx us) ∧ RepF fs us
  | .scr ns, v => ∃ a, v = .ref a ∧ ((¬ Tk w a ∧ Rd w.H a (.lst (ns.map V.int))) ∨ KLst G.K a (ns.map V.int))
  | .loc i, v => ∃ a, v = .ref a ∧ w.φ[i]? = some a
def Reps : List D → List V → Prop
  | [], vs => vs = []
  | x :: xs, vs => ∃ v vr, vs = v :: vr ∧ Rep x v ∧ Reps xs vr
def RepK : List (Key × D) → List (Key × V) → Prop
  | [], vs => vs = []
  | (k, x) :: xs, vs => ∃ v vr, vs = (k, v) :: vr ∧ Rep x v ∧ RepK xs vr
def RepT : List (List Key × D) → List XE → Prop
  | [], vs => vs = []
  | (k, x) :: xs, vs => ∃ q v vr, vs = (k, q, v) :: vr ∧ TpA G w q (k.map kV) ∧ Rep x v ∧ RepT xs vr
def RepF : List (Nat × D) → List (Str × V) → Prop
  | [], vs => vs = []
  | (k, x) :: xs, vs => ∃ v vr, vs = (G.fnm k, v) :: vr ∧ Rep x v ∧ RepF xs vr
end
/-- the content of an object that may change -/
def RepC : D → Addr → Prop
  | .lst xs, a => ∃ vs, w.H a = some (.lst vs) ∧ Reps G w xs vs
  | .dK kvs, a => ∃ us, w.H a = some (.dK us) ∧ RepK G w kvs us
  | .dT kvs, a => ∃ us, w.H a = some (dX G.hs a us) ∧ RepT G w kvs us
  | .ins c fs, a => ∃ dx us, w.H a = some (.ins (G.cls c) dx us) ∧ RepF G w fs us
  | _, _ => False
/-- .. that is walked -/
def RepL : D → Addr → Prop
  | .lst xs, a => ∃ vs, w.H a = some (.lst vs) ∧ Reps G w xs vs
  | .dK kvs, a => ∃ us, Rd w.H a (.dK us) ∧ RepK G w kvs us
  | .dT kvs, a => ∃ us, Rd w.H a (dX G.hs a us) ∧ RepT G w kvs us
  | .ins c fs, a => ∃ dx us, w.H a = some (.ins (G.cls c) dx us) ∧ RepF G w fs us
  | _, _ => False
def CellAt : Cell → Addr → Prop
  | .dead, _ => True
  | .mu d, a => RepC G w d a
  | .lk d, a => RepL G w d a
structure Ok : Prop where
  len : w.φ.length = w.st.length
  cell : ∀ (i : Nat) c a, w.st[i]? = some c → w.φ[i]? = some a → CellAt G w c a
  inj : ∀ (i j : Nat) a d e, (w.st[i]? = some (.mu d) ∨ w.st[i]? = some (.lk d)) → (w.st[j]? = some (.mu e) ∨ w.st[j]? = some (.lk e)) → w.φ[i]? = some a → w.φ[j]? = some a → i = j
  exd : ∀ a ∈ w.ex, ¬ Live w a
  exh : ∀ a ∈ w.ex, ∃ vs, w.H a = some (.lst vs)
end
theorem RepC.l {G : Gm} {w : Wd} {d : D} {a : Addr} (h : RepC G w d a) : RepL G w d a := by
  cases d <;> first | exact h | (obtain ⟨us, h1, h2⟩ := h; exact ⟨us, .inl h1, h2⟩)

def closedC (n : Nat) : Cell → Bool
  | .dead => true
  | .mu d => closed n d
  | .lk d => closed n d
/-- the objects below b hold only objects below b -/
def Scoped (b : Nat) (st : Sto) : Prop := ∀ (i : Nat) c, i < b → st[i]? = some c → closedC b c = true

def isDict : HO → Prop
  | .dK _ => True
  | .ext _ => True
  | _ => False
/-- what stays: the object, or (a dict) locked -/
def Stay (o : HO) (r : Option HO) : Prop := r = some o ∨ (isDict o ∧ ∃ ob, r = some (.frz ob o))

/-- from one state to a later one, in a frame whose own objects begin at b -/
structure Ext (b : Nat) (w w' : Wd) : Prop where
  pre : ∀ (i : Nat) a, w.φ[i]? = some a → w'.φ[i]? = some a
  live : ∀ a, Tk w' a → Tk w a ∨ w.H a = none
  mu : ∀ a, Mu w' a → Mu w a ∨ w.H a = none
  keep : ∀ a o, w.H a = some o → ¬ Mu w a → Stay o (w'.H a)
  sco : ∀ c, c ≤ b → Scoped c w.st → Scoped c w'.st
  exm : ∀ a ∈ w.ex, a ∈ w'.ex

section
variable {G : Gm} {w w' w'' : Wd} {b : Nat}
theorem Ext.refl : Ext b w w := ⟨fun _ _ h => h, fun _ h => .inl h, fun _ h => .inl h, fun _ _ h _ => .inl h, fun _ _ h => h, fun _ h => h⟩
theorem Ext.trans (h : Ext b w w') (h' : Ext b w' w'') : Ext b w w'' where
  pre := fun i a e => h'.pre i a (h.pre i a e)
  live := fun a l => by
    rcases h'.live a l with l | e
    · exact h.live a l
    · cases q : w.H a with
      | none => exact .inr rfl
      | some o =>
        refine .inl (Classical.byContradiction fun n => ?_)
        rcases h.keep a o q (fun m => n (.inl m.live)) with z | ⟨_, ob, z⟩ <;> (rw [e] at z; cases z)
  mu := fun a l => by
    rcases h'.mu a l with l | e
    · exact h.mu a l
    · cases q : w.H a with
      | none => exact .inr rfl
      | some o =>
        refine .inl (Classical.byContradiction fun n => ?_)
        rcases h.keep a o q n with z | ⟨_, ob, z⟩ <;> (rw [e] at z; cases z)
  keep := fun a o e n => by
    have n' : ¬ Mu w' a := fun m => by
      rcases h.mu a m with z | z
      · exact n z
      · rw [e] at z; cases z
    rcases h.keep a o e n with z | ⟨d, ob, z⟩
    · exact h'.keep a o z n'
    · rcases h'.keep a _ z n' with y | ⟨d', _, _⟩
      · exact .inr ⟨d, ob, y⟩
      · exact d'.elim
  sco := fun c hc s => h'.sco c hc (h.sco c hc s)
  exm := fun a m => h'.exm a (h.exm a m)
theorem Ext.base {c : Nat} (h : Ext b w w') (hc : c ≤ b) : Ext c w w' := ⟨h.pre, h.live, h.mu, h.keep, fun k hk s => h.sco k (Nat.le_trans hk hc) s, h.exm⟩

theorem Ext.nlive (h : Ext b w w') {a : Addr} {o : HO} (e : w.H a = some o) (n : ¬ Tk w a) : ¬ Tk w' a := fun l => by
  rcases h.live a l with z | z
  · exact n z
  · rw [e] at z; cases z
theorem Ext.stay (h : Ext b w w') {a : Addr} {o : HO} (e : w.H a = some o) (n : ¬ Tk w a) : Stay o (w'.H a) := h.keep a o e fun m => n (.inl m.live)
theorem Stay.same {o : HO} {r : Option HO} (h : Stay o r) (n : ¬ isDict o) : r = some o := by
  rcases h with h | ⟨d, _⟩
  · exact h
  · exact (n d).elim
theorem Ext.rd (h : Ext b w w') {a : Addr} {u : HO} (e : Rd w.H a u) (n : ¬ Mu w a) : Rd w'.H a u := by
  rcases e with e | ⟨o, e⟩
  · rcases h.keep a _ e n with z | ⟨_, ob, z⟩
    · exact .inl z
    · exact .inr ⟨ob, z⟩
  · exact .inr ⟨o, (h.keep a _ e n).same fun z => z⟩
theorem TpA.ext (h : Ext b w w') {a : Addr} {vs : List V} (t : TpA G w a vs) : TpA G w' a vs := by
  rcases t with ⟨n, z⟩ | z
  · exact .inl ⟨h.nlive z n, (h.stay z n).same fun y => y⟩
  · exact .inr z
theorem TpA.sq {a : Addr} {vs : List V} (t : TpA G w a vs) : SqT G.K w.H a vs := t.elim (fun z => .inl (.inl z.2)) fun z => .inr z
theorem TpA.key {a : Addr} {k : List Key} (t : TpA G w a (k.map kV)) : KeyX G.K w.H a k := t.imp (fun z => z.2) id
theorem rd_some {H : Hp} {a : Addr} {u : HO} (e : Rd H a u) : ∃ o, H a = some o := by
  rcases e with e | ⟨o, e⟩ <;> exact ⟨_, e⟩

mutual
theorem Rep.ext (h : Ext b w w') : ∀ (d : D) (v : V), Rep G w d v → Rep G w' d v
  | .non, _, r => r
  | .bl _, _, r => r
  | .int _, _, r => r
  | .str _, _, r => r
  | .tup xs, v, r => by
    obtain ⟨a, vs, e, n, q⟩ := r
    exact ⟨a, vs, e, n.ext h, Reps.ext h xs vs q⟩
  | .lst xs, v, r => by
    obtain ⟨a, vs, e, n, z, q⟩ := r
    exact ⟨a, vs, e, h.nlive z n, (h.stay z n).same fun y => y, Reps.ext h xs vs q⟩
  | .dK kvs, v, r => by
    obtain ⟨a, us, e, n, z, q⟩ := r
    obtain ⟨o, y⟩ := rd_some z
    exact ⟨a, us, e, h.nlive y n, h.rd z fun m => n (.inl m.live), RepK.ext h kvs us q⟩
  | .dT kvs, v, r => by
    obtain ⟨a, us, e, n, z, q⟩ := r
    obtain ⟨o, y⟩ := rd_some z
    exact ⟨a, us, e, h.nlive y n, h.rd z fun m => n (.inl m.live), RepT.ext h kvs us q⟩
  | .ins c fs, v, r => by
    obtain ⟨a, dx, us, e, n, z, q⟩ := r
    exact ⟨a, dx, us, e, h.nlive z n, (h.stay z n).same fun y => y, RepF.ext h fs us q⟩
  | .scr ns, v, r => by
    obtain ⟨a, e, hr⟩ := r
    refine ⟨a, e, ?_⟩
    rcases hr with ⟨n, z⟩ | z
    · obtain ⟨o, y⟩ := rd_some z
      exact .inl ⟨h.nlive y n, h.rd z fun m => n (.inl m.live)⟩
    · exact .inr z
  | .loc i, v, r => by
    obtain ⟨a, e, z⟩ := r
    exact ⟨a, e, h.pre i a z⟩
theorem Reps.ext (h : Ext b w w') : ∀ (ds : List D) (vs : List V), Reps G w ds vs → Reps G w' ds vs
  | [], _, r => r
  | x :: xs, vs, r => by
    obtain ⟨v, vr, e, q1, q2⟩ := r
    exact ⟨v, vr, e, Rep.ext h x v q1, Reps.ext h xs vr q2⟩
theorem RepK.ext (h : Ext b w w') : ∀ (ds : List (Key × D)) (vs : List (Key × V)), RepK G w ds vs → RepK G w' ds vs
  | [], _, r => r
  | (k, x) :: xs, vs, r => by
    obtain ⟨v, vr, e, q1, q2⟩ := r
    exact ⟨v, vr, e, Rep.ext h x v q1, RepK.ext h xs vr q2⟩
theorem RepT.ext (h : Ext b w w') : ∀ (ds : List (List Key × D)) (vs : List XE), RepT G w ds vs → RepT G w' ds vs
  | [], _, r => r
  | (k, x) :: xs, vs, r => by
    obtain ⟨p, v, vr, e, t, q1, q2⟩ := r
    exact ⟨p, v, vr, e, t.ext h, Rep.ext h x v q1, RepT.ext h xs vr q2⟩
theorem RepF.ext (h : Ext b w w') : ∀ (ds : List (Nat × D)) (vs : List (Str × V)), RepF G w ds vs → RepF G w' ds vs
  | [], _, r => r
  | (k, x) :: xs, vs, r => by
    obtain ⟨v, vr, e, q1, q2⟩ := r
    exact ⟨v, vr, e, Rep.ext h x v q1, RepF.ext h xs vr q2⟩
end

/- values know only objects of the store that there are -/
mutual
theorem Rep.closed : ∀ (d : D) (v : V), Rep G w d v → closed w.φ.length d = true
  | .non, _, _ => rfl
  | .bl _, _, _ => rfl
  | .int _, _, _ => rfl
  | .str _, _, _ => rfl
  | .tup xs, v, r => by obtain ⟨a, vs, e, n, q⟩ := r; exact Reps.closed xs vs q
  | .lst xs, v, r => by obtain ⟨a, vs, e, n, z, q⟩ := r; exact Reps.closed xs vs q
  | .dK kvs, v, r => by obtain ⟨a, us, e, n, z, q⟩ := r; exact RepK.closed kvs us q
  | .dT kvs, v, r => by obtain ⟨a, us, e, n, z, q⟩ := r; exact RepT.closed kvs us q
  | .ins c fs, v, r => by obtain ⟨a, dx, us, e, n, z, q⟩ := r; exact RepF.closed fs us q
  | .scr ns, v, r => rfl
  | .loc i, v, r => by
    obtain ⟨a, e, z⟩ := r
    exact decide_eq_true (List.getElem?_eq_some_iff.mp z).1
theorem Reps.closed : ∀ (ds : List D) (vs : List V), Reps G w ds vs → closedL w.φ.length ds = true
  | [], _, r => rfl
  | x :: xs, vs, r => by
    obtain ⟨v, vr, e, q1, q2⟩ := r
    exact Bool.and_eq_true_iff.mpr ⟨Rep.closed x v q1, Reps.closed xs vr q2⟩
theorem RepK.closed : ∀ (ds : List (Key × D)) (vs : List (Key × V)), RepK G w ds vs → closedK w.φ.length ds = true
  | [], _, r => rfl
  | (k, x) :: xs, vs, r => by
    obtain ⟨v, vr, e, q1, q2⟩ := r
    exact Bool.and_eq_true_iff.mpr ⟨Rep.closed x v q1, RepK.closed xs vr q2⟩
theorem RepT.closed : ∀ (ds : List (List Key × D)) (vs : List XE), RepT G w ds vs → closedT w.φ.length ds = true
  | [], _, r => rfl
  | (k, x) :: xs, vs, r => by
    obtain ⟨p, v, vr, e, t, q1, q2⟩ := r
    exact Bool.and_eq_true_iff.mpr ⟨Rep.closed x v q1, RepT.closed xs vr q2⟩
theorem RepF.closed : ∀ (ds : List (Nat × D)) (vs : List (Str × V)), RepF G w ds vs → closedF w.φ.length ds = true
  | [], _, r => rfl
  | (k, x) :: xs, vs, r => by
    obtain ⟨v, vr, e, q1, q2⟩ := r
    exact Bool.and_eq_true_iff.mpr ⟨Rep.closed x v q1, RepF.closed xs vr q2⟩
end

theorem RepT.keys : ∀ {ds : List (List Key × D)} {us : List XE}, RepT G w ds us → KeysX G.K w.H us
  | [], _, r => by cases r; intro p hp; cases hp
  | (k, x) :: xs, _, r => by
    obtain ⟨p, v, vr, rfl, t, q1, q2⟩ := r
    intro y hy
    rcases List.mem_cons.mp hy with rfl | hy
    · exact t.key
    · exact RepT.keys q2 y hy

mutual
theorem closed_mono {n m : Nat} (h : n ≤ m) : ∀ d : D, closed n d = true → closed m d = true
  | .non, _ => rfl
  | .bl _, _ => rfl
  | .int _, _ => rfl
  | .str _, _ => rfl
  | .tup xs, r => closedL_mono h xs r
  | .lst xs, r => closedL_mono h xs r
  | .dK kvs, r => closedK_mono h kvs r
  | .dT kvs, r => closedT_mono h kvs r
  | .ins c fs, r => closedF_mono h fs r
  | .scr ns, r => rfl
  | .loc i, r => decide_eq_true (Nat.lt_of_lt_of_le (of_decide_eq_true r) h)
theorem closedL_mono {n m : Nat} (h : n ≤ m) : ∀ d : List D, closedL n d = true → closedL m d = true
  | [], _ => rfl
  | x :: xs, r => Bool.and_eq_true_iff.mpr ⟨closed_mono h x (Bool.and_eq_true_iff.mp r).1, closedL_mono h xs (Bool.and_eq_true_iff.mp r).2⟩
theorem closedK_mono {n m : Nat} (h : n ≤ m) : ∀ d : List (Key × D), closedK n d = true → closedK m d = true
  | [], _ => rfl
  | (k, x) :: xs, r => Bool.and_eq_true_iff.mpr ⟨closed_mono h x (Bool.and_eq_true_iff.mp r).1, closedK_mono h xs (Bool.and_eq_true_iff.mp r).2⟩
theorem closedT_mono {n m : Nat} (h : n ≤ m) : ∀ d : List (List Key × D), closedT n d = true → closedT m d = true
  | [], _ => rfl
  | (k, x) :: xs, r => Bool.and_eq_true_iff.mpr ⟨closed_mono h x (Bool.and_eq_true_iff.mp r).1, closedT_mono h xs (Bool.and_eq_true_iff.mp r).2⟩
theorem closedF_mono {n m : Nat} (h : n ≤ m) : ∀ d : List (Nat × D), closedF n d = true → closedF m d = true
  | [], _ => rfl
  | (k, x) :: xs, r => Bool.and_eq_true_iff.mpr ⟨closed_mono h x (Bool.and_eq_true_iff.mp r).1, closedF_mono h xs (Bool.and_eq_true_iff.mp r).2⟩
end

theorem RepL.closed {d : D} {a : Addr} (h : RepL G w d a) : Den.closed w.φ.length d = true := by
  cases d <;> first
    | exact h.elim
    | (obtain ⟨vs, _, q⟩ := h; first | exact Reps.closed _ vs q | exact RepK.closed _ vs q | exact RepT.closed _ vs q)
    | (obtain ⟨dx, vs, _, q⟩ := h; exact RepF.closed _ vs q)
/-- the whole store -/
theorem Ok.scoped (h : Ok G w) : Scoped w.st.length w.st := fun i c hi e => by
  have hl : i < w.φ.length := by rw [h.len]; exact hi
  have q := h.cell i c _ e (List.getElem?_eq_getElem hl)
  rw [← h.len]
  cases c with
  | dead => rfl
  | mu d => exact RepL.closed (RepC.l q)
  | lk d => exact RepL.closed q

theorem RepL.ext (h : Ext b w w') {d : D} {a : Addr} (r : RepL G w d a) (n : ¬ Mu w a) : RepL G w' d a := by
  cases d <;> try exact r.elim
  · obtain ⟨vs, z, q⟩ := r; exact ⟨vs, (h.keep a _ z n).same fun y => y, Reps.ext h _ vs q⟩
  · obtain ⟨vs, z, q⟩ := r; exact ⟨vs, h.rd z n, RepK.ext h _ vs q⟩
  · obtain ⟨vs, z, q⟩ := r; exact ⟨vs, h.rd z n, RepT.ext h _ vs q⟩
  · obtain ⟨dx, vs, z, q⟩ := r; exact ⟨dx, vs, (h.keep a _ z n).same fun y => y, RepF.ext h _ vs q⟩
/-- the content where the object itself is as it was -/
theorem RepC.at (h : Ext b w w') {d : D} {a : Addr} (r : RepC G w d a) (e : w'.H a = w.H a) : RepC G w' d a := by
  cases d <;> try exact r.elim
  · obtain ⟨vs, z, q⟩ := r; exact ⟨vs, e.trans z, Reps.ext h _ vs q⟩
  · obtain ⟨vs, z, q⟩ := r; exact ⟨vs, e.trans z, RepK.ext h _ vs q⟩
  · obtain ⟨vs, z, q⟩ := r; exact ⟨vs, e.trans z, RepT.ext h _ vs q⟩
  · obtain ⟨dx, vs, z, q⟩ := r; exact ⟨dx, vs, e.trans z, RepF.ext h _ vs q⟩
theorem RepL.at (h : Ext b w w') {d : D} {a : Addr} (r : RepL G w d a) (e : w'.H a = w.H a) : RepL G w' d a := by
  cases d <;> try exact r.elim
  · obtain ⟨vs, z, q⟩ := r; exact ⟨vs, e.trans z, Reps.ext h _ vs q⟩
  · obtain ⟨vs, z, q⟩ := r; exact ⟨vs, by unfold Rd; rw [e]; exact z, RepK.ext h _ vs q⟩
  · obtain ⟨vs, z, q⟩ := r; exact ⟨vs, by unfold Rd; rw [e]; exact z, RepT.ext h _ vs q⟩
  · obtain ⟨dx, vs, z, q⟩ := r; exact ⟨dx, vs, e.trans z, RepF.ext h _ vs q⟩
theorem RepL.there {d : D} {a : Addr} (r : RepL G w d a) : ∃ o, w.H a = some o := by
  cases d <;> try exact r.elim
  · obtain ⟨vs, z, q⟩ := r; exact ⟨_, z⟩
  · obtain ⟨vs, z, q⟩ := r; exact rd_some z
  · obtain ⟨vs, z, q⟩ := r; exact rd_some z
  · obtain ⟨dx, vs, z, q⟩ := r; exact ⟨_, z⟩
theorem Ok.liveThere (h : Ok G w) {a : Addr} (l : Live w a) : ∃ o, w.H a = some o := by
  obtain ⟨i, d, z, e⟩ := l
  rcases z with z | z
  · exact (RepC.l (h.cell i _ a z e)).there
  · exact RepL.there (G := G) (w := w) (h.cell i _ a z e)
theorem Ok.nlive (h : Ok G w) {a : Addr} (e : w.H a = none) : ¬ Live w a := fun l => by
  obtain ⟨o, z⟩ := h.liveThere l
  rw [e] at z; cases z
theorem Ok.ntk (h : Ok G w) {a : Addr} (e : w.H a = none) : ¬ Tk w a := fun l => by
  rcases l with l | l
  · exact h.nlive e l
  · obtain ⟨o, z⟩ := h.exh a l
    rw [e] at z; cases z

/-! ### the ways in which a state grows -/
/-- a new object, tracked, that never changes -/
theorem grow (ok : Ok G w) {p : Addr} (hp : w.H p = none) (o : HO) : Ext b w { w with H := upd w.H p o } ∧ Ok G { w with H := upd w.H p o } ∧ ¬ Tk { w with H := upd w.H p o } p := by
  have e : Ext b w { w with H := upd w.H p o } := ⟨fun _ _ h => h, fun _ h => .inl h, fun _ h => .inl h, fun a u z _ => .inl (by
    show upd w.H p o a = some u
    rw [upd_ne (ne_of_none z hp)]; exact z), fun _ _ h => h, fun _ h => h⟩
  refine ⟨e, ⟨ok.len, fun i c a h1 h2 => ?_, ok.inj, ok.exd, fun a ha => ?_⟩, ok.ntk hp⟩
  case refine_2 =>
    obtain ⟨u, z⟩ := ok.exh a ha
    exact ⟨u, by show upd w.H p o a = some (.lst u); rw [upd_ne (ne_of_none z hp)]; exact z⟩
  have q := ok.cell i c a h1 h2
  have same : ∀ {u}, w.H a = some u → upd w.H p o a = w.H a := fun z => upd_ne (ne_of_none z hp)
  cases c with
  | dead => trivial
  | mu d => obtain ⟨u, z⟩ := RepL.there (RepC.l q); exact RepC.at e q (same z)
  | lk d => obtain ⟨u, z⟩ := RepL.there (G := G) q; exact RepL.at e q (same z)
/-- a new object of the store -/
theorem alloc (ok : Ok G w) (hb : b ≤ w.st.length) {p : Addr} (hp : w.H p = none) (o : HO) (d : D)
    (hc : ∀ w', Ext b w w' → w'.H p = some o → RepC G w' d p) (hcl : closed w.st.length d = true) :
    Ext b w ⟨w.φ ++ [p], w.st ++ [.mu d], upd w.H p o, w.ex⟩ ∧ Ok G ⟨w.φ ++ [p], w.st ++ [.mu d], upd w.H p o, w.ex⟩ ∧ Rep G ⟨w.φ ++ [p], w.st ++ [.mu d], upd w.H p o, w.ex⟩ (.loc w.st.length) (.ref p) := by
  have old : ∀ {i c}, (w.st ++ [Cell.mu d])[i]? = some c → (i < w.st.length ∧ w.st[i]? = some c) ∨ (i = w.st.length ∧ c = .mu d) := fun {i c} h => by
    by_cases hi : i < w.st.length
    · rw [List.getElem?_append_left hi] at h; exact .inl ⟨hi, h⟩
    · rw [List.getElem?_append_right (by omega)] at h
      have : i = w.st.length := by
        have := (List.getElem?_eq_some_iff.mp h).1
        simp at this; omega
      subst this
      simp at h
      exact .inr ⟨rfl, h.symm⟩
  have oldφ : ∀ {i a}, i < w.st.length → (w.φ ++ [p])[i]? = some a → w.φ[i]? = some a := fun {i a} hi h => by
    rw [List.getElem?_append_left (by rw [ok.len]; exact hi)] at h; exact h
  have lastφ : (w.φ ++ [p])[w.st.length]? = some p := by rw [← ok.len]; simp
  have e : Ext b w ⟨w.φ ++ [p], w.st ++ [.mu d], upd w.H p o, w.ex⟩ := by
    refine ⟨fun i a h => ?_, fun a h => ?_, fun a h => ?_, fun a u z _ => .inl (by show upd w.H p o a = some u; rw [upd_ne (ne_of_none z hp)]; exact z), fun c hcb s i k hi h => ?_, fun _ h => h⟩
    · exact (List.getElem?_append_left (List.getElem?_eq_some_iff.mp h).1).trans h
    · rcases h with h | h
      case inr => exact .inl (.inr h)
      obtain ⟨i, k, h1, h2⟩ := h
      have : (i < w.st.length ∧ (w.st[i]? = some (.mu k) ∨ w.st[i]? = some (.lk k))) ∨ i = w.st.length := by
        rcases h1 with h1 | h1 <;> rcases old h1 with ⟨z, y⟩ | ⟨z, _⟩ <;> simp_all
      rcases this with ⟨hi, h1⟩ | rfl
      · exact .inl (.inl ⟨i, k, h1, oldφ hi h2⟩)
      · have h2' : (w.φ ++ [p])[w.st.length]? = some a := h2
        rw [lastφ] at h2'; cases h2'; exact .inr hp
    · obtain ⟨i, k, h1, h2⟩ := h
      rcases old h1 with ⟨hi, y⟩ | ⟨rfl, _⟩
      · exact .inl ⟨i, k, y, oldφ hi h2⟩
      · have h2' : (w.φ ++ [p])[w.st.length]? = some a := h2
        rw [lastφ] at h2'; cases h2'; exact .inr hp
    · rcases old h with ⟨_, y⟩ | ⟨rfl, rfl⟩
      · exact s i k hi y
      · exact absurd (Nat.lt_of_lt_of_le hi hcb) (Nat.not_lt.mpr hb)
  have pl : ∀ {i k}, ((w.st ++ [Cell.mu d])[i]? = some (.mu k) ∨ (w.st ++ [Cell.mu d])[i]? = some (.lk k)) → (i < w.st.length ∧ (w.st[i]? = some (.mu k) ∨ w.st[i]? = some (.lk k))) ∨ i = w.st.length := fun {i k} h => by
      rcases h with h | h <;> rcases old h with ⟨z, y⟩ | ⟨z, _⟩ <;> simp_all
  refine ⟨e, ⟨by simp [ok.len], fun i c a h1 h2 => ?_, fun i j a k l h1 h2 h3 h4 => ?_, fun a ha l => ?_, fun a ha => ?_⟩, p, rfl, lastφ⟩
  case refine_3 =>
    obtain ⟨i, k, h1, h2⟩ := l
    rcases pl h1 with ⟨hi, y⟩ | rfl
    · exact ok.exd a ha ⟨i, k, y, oldφ hi h2⟩
    · have h2' : (w.φ ++ [p])[w.st.length]? = some a := h2
      rw [lastφ] at h2'; cases h2'
      obtain ⟨u, z⟩ := ok.exh p ha
      rw [hp] at z; cases z
  case refine_4 =>
    obtain ⟨u, z⟩ := ok.exh a ha
    exact ⟨u, by show upd w.H p o a = some (.lst u); rw [upd_ne (ne_of_none z hp)]; exact z⟩
  · rcases old h1 with ⟨hi, y⟩ | ⟨rfl, rfl⟩
    · have q := ok.cell i c a y (oldφ hi h2)
      have same : ∀ {u}, w.H a = some u → upd w.H p o a = w.H a := fun z => upd_ne (ne_of_none z hp)
      cases c with
      | dead => trivial
      | mu d => obtain ⟨u, z⟩ := RepL.there (RepC.l q); exact RepC.at e q (same z)
      | lk d => obtain ⟨u, z⟩ := RepL.there (G := G) q; exact RepL.at e q (same z)
    · have h2' : (w.φ ++ [p])[w.st.length]? = some a := h2
      rw [lastφ] at h2'; cases h2'; exact hc _ e upd_same
  · have fr : ∀ {i k}, i < w.st.length → (w.st[i]? = some (.mu k) ∨ w.st[i]? = some (.lk k)) → w.φ[i]? = some p → False := fun {i k} hi h z => ok.nlive hp ⟨i, k, h, z⟩
    rcases pl h1 with ⟨hi, y1⟩ | rfl <;> rcases pl h2 with ⟨hj, y2⟩ | rfl
    · exact ok.inj i j a k l y1 y2 (oldφ hi h3) (oldφ hj h4)
    · have h4' : (w.φ ++ [p])[w.st.length]? = some a := h4
      rw [lastφ] at h4'; cases h4'; exact (fr hi y1 (oldφ hi h3)).elim
    · have h3' : (w.φ ++ [p])[w.st.length]? = some a := h3
      rw [lastφ] at h3'; cases h3'; exact (fr hj y2 (oldφ hj h4)).elim
    · rfl
end
end Den
set_option maxHeartbeats 1000000
/-! DRel2: writing, freezing, locking, and a call's own objects that go. -/
namespace Den
open PySem L2
section
variable {G : Gm} {w w' w'' : Wd} {b : Nat}

theorem getElem?_set_ite {α : Type} (l : List α) (i j : Nat) (x : α) : (l.set i x)[j]? = if j = i then (if i < l.length then some x else none) else l[j]? := by
  by_cases h : j = i
  · subst h
    by_cases hl : j < l.length
    · simp [hl]
    · simp [hl]
  · rw [if_neg h, List.getElem?_set_ne (Ne.symm h)]

/-- an object of the store is changed -/
theorem write (ok : Ok G w) {i : Nat} {d d' : D} {a : Addr} {o : HO} (hi : w.st[i]? = some (.mu d)) (ha : w.φ[i]? = some a)
    (hc : ∀ w', Ext b w w' → w'.H a = some o → RepC G w' d' a) (hs : ∀ c, i < c → c ≤ b → closed c d = true → closed c d' = true) :
    Ext b w ⟨w.φ, w.st.set i (.mu d'), upd w.H a o, w.ex⟩ ∧ Ok G ⟨w.φ, w.st.set i (.mu d'), upd w.H a o, w.ex⟩ := by
  have il : i < w.st.length := (List.getElem?_eq_some_iff.mp hi).1
  have get : ∀ {j c}, (w.st.set i (.mu d'))[j]? = some c → (j = i ∧ c = .mu d') ∨ (j ≠ i ∧ w.st[j]? = some c) := fun {j c} h => by
    rw [getElem?_set_ite] at h
    by_cases e : j = i
    · rw [if_pos e, if_pos il] at h; exact .inl ⟨e, (Option.some.inj h).symm⟩
    · rw [if_neg e] at h; exact .inr ⟨e, h⟩
  have mua : Mu w a := ⟨i, d, hi, ha⟩
  have lv : ∀ {x}, Live ⟨w.φ, w.st.set i (.mu d'), upd w.H a o, w.ex⟩ x → Live w x := fun {x} h => by
    obtain ⟨j, k, h1, h2⟩ := h
    rcases h1 with h1 | h1 <;> rcases get h1 with ⟨rfl, e⟩ | ⟨_, e⟩
    · exact ⟨j, d, .inl hi, h2⟩
    · exact ⟨j, k, .inl e, h2⟩
    · cases e
    · exact ⟨j, k, .inr e, h2⟩
  have e : Ext b w ⟨w.φ, w.st.set i (.mu d'), upd w.H a o, w.ex⟩ := by
    refine ⟨fun _ _ h => h, fun x h => .inl (h.imp lv id), fun x h => ?_, fun x u z n => .inl ?_, fun c hcb s j k hj h => ?_, fun _ h => h⟩
    · obtain ⟨j, k, h1, h2⟩ := h
      rcases get h1 with ⟨rfl, _⟩ | ⟨_, e⟩
      · exact .inl ⟨j, d, hi, h2⟩
      · exact .inl ⟨j, k, e, h2⟩
    · show upd w.H a o x = some u
      rw [upd_ne (fun q => n (by rw [q]; exact mua))]; exact z
    · rcases get h with ⟨rfl, rfl⟩ | ⟨_, e⟩
      · exact hs c hj hcb (s j _ hj hi)
      · exact s j k hj e
  refine ⟨e, ⟨by simp [ok.len], fun j c x h1 h2 => ?_, fun j k x l m h1 h2 h3 h4 => ?_, fun x hx l => ok.exd x hx (lv l), fun x hx => ?_⟩⟩
  case refine_3 =>
    obtain ⟨u, z⟩ := ok.exh x hx
    exact ⟨u, by show upd w.H a o x = some (.lst u); rw [upd_ne (fun q => ok.exd x hx (by rw [q]; exact mua.live))]; exact z⟩
  · rcases get h1 with ⟨rfl, rfl⟩ | ⟨ne, q⟩
    · have h2' : w.φ[j]? = some x := h2
      rw [ha] at h2'; cases h2'
      exact hc _ e upd_same
    · have q1 := ok.cell j c x q h2
      have nx : (∃ k, w.st[j]? = some (.mu k) ∨ w.st[j]? = some (.lk k)) → x ≠ a := fun ⟨k, z⟩ y => ne (ok.inj j i x k d z (.inl hi) h2 (by rw [y]; exact ha))
      have same : (∃ k, w.st[j]? = some (.mu k) ∨ w.st[j]? = some (.lk k)) → upd w.H a o x = w.H x := fun z => upd_ne (nx z)
      cases c with
      | dead => trivial
      | mu k => exact RepC.at e q1 (same ⟨k, .inl q⟩)
      | lk k => exact RepL.at e q1 (same ⟨k, .inr q⟩)
  · have back : ∀ {j : Nat} {l : D}, ((w.st.set i (Cell.mu d'))[j]? = some (Cell.mu l) ∨ (w.st.set i (Cell.mu d'))[j]? = some (Cell.lk l)) → ∃ l' : D, w.st[j]? = some (Cell.mu l') ∨ w.st[j]? = some (Cell.lk l') := fun {j l} h => by
      rcases h with h | h <;> rcases get h with ⟨rfl, e2⟩ | ⟨_, e2⟩
      · exact ⟨d, .inl hi⟩
      · exact ⟨l, .inl e2⟩
      · cases e2
      · exact ⟨l, .inr e2⟩
    obtain ⟨l', y1⟩ := back h1
    obtain ⟨m', y2⟩ := back h2
    exact ok.inj j k x l' m' y1 y2 h3 h4

/-- the store alone changes: cells become less -/
theorem lessen (ok : Ok G w) {st' : Sto} (hl : st'.length = w.st.length)
    (hc : ∀ (i : Nat) c, st'[i]? = some c → c = .dead ∨ w.st[i]? = some c ∨ ∃ d, c = .lk d ∧ (w.st[i]? = some (.mu d) ∨ w.st[i]? = some (.lk d))) :
    Ext b w ⟨w.φ, st', w.H, w.ex⟩ ∧ Ok G ⟨w.φ, st', w.H, w.ex⟩ := by
  have lv : ∀ {i : Nat} {l : D}, (st'[i]? = some (Cell.mu l) ∨ st'[i]? = some (Cell.lk l)) → (w.st[i]? = some (Cell.mu l) ∨ w.st[i]? = some (Cell.lk l)) := fun {i l} h => by
    rcases h with h | h <;> rcases hc i _ h with z | z | ⟨d, z, y⟩
    · cases z
    · exact .inl z
    · cases z
    · cases z
    · exact .inr z
    · cases z; exact y
  have e : Ext b w ⟨w.φ, st', w.H, w.ex⟩ := by
    refine ⟨fun _ _ h => h, fun x h => .inl ?_, fun x h => .inl ?_, fun x u z n => .inl z, fun c hcb s j k hj h => ?_, fun _ h => h⟩
    · rcases h with h | h
      case inr => exact .inr h
      obtain ⟨j, k, h1, h2⟩ := h
      exact .inl ⟨j, k, lv h1, h2⟩
    · obtain ⟨j, k, h1, h2⟩ := h
      rcases hc j _ h1 with z | z | ⟨d, z, y⟩
      · cases z
      · exact ⟨j, k, z, h2⟩
      · cases z
    · rcases hc j _ h with z | z | ⟨d, rfl, y⟩
      · rw [z]; rfl
      · exact s j k hj z
      · rcases y with y | y <;> (have q := s j _ hj y; exact q)
  refine ⟨e, ⟨by rw [ok.len]; exact hl.symm, fun j c x h1 h2 => ?_, fun j k x l m h1 h2 h3 h4 => ok.inj j k x l m (lv h1) (lv h2) h3 h4, fun x hx l => ok.exd x hx (let ⟨j, k, h1, h2⟩ := l; ⟨j, k, lv h1, h2⟩), ok.exh⟩⟩
  rcases hc j c h1 with rfl | z | ⟨d, rfl, y⟩
  · trivial
  · have q := ok.cell j c x z h2
    cases c with
    | dead => trivial
    | mu k => exact RepC.at e q rfl
    | lk k => exact RepL.at e q rfl
  · rcases y with y | y
    · exact RepL.at e (RepC.l (ok.cell j _ x y h2)) rfl
    · have q : RepL G w d x := ok.cell j _ x y h2
      exact RepL.at e q rfl
/-- an object of the store is frozen -/
theorem freeze (ok : Ok G w) {i : Nat} {d : D} {v : V} (hi : w.st[i]? = some (.mu d)) (hv : Rep G w (.loc i) v) :
    Ext b w ⟨w.φ, w.st.set i .dead, w.H, w.ex⟩ ∧ Ok G ⟨w.φ, w.st.set i .dead, w.H, w.ex⟩ ∧ Rep G ⟨w.φ, w.st.set i .dead, w.H, w.ex⟩ d v := by
  have il : i < w.st.length := (List.getElem?_eq_some_iff.mp hi).1
  have hc : ∀ (j : Nat) c, (w.st.set i .dead)[j]? = some c → c = .dead ∨ w.st[j]? = some c ∨ ∃ d, c = .lk d ∧ (w.st[j]? = some (.mu d) ∨ w.st[j]? = some (.lk d)) := fun j c h => by
    rw [getElem?_set_ite] at h
    by_cases e : j = i
    · rw [if_pos e, if_pos il] at h; exact .inl (Option.some.inj h).symm
    · rw [if_neg e] at h; exact .inr (.inl h)
  obtain ⟨e, o⟩ := lessen (b := b) ok (by simp) hc
  refine ⟨e, o, ?_⟩
  obtain ⟨a, rfl, ha⟩ := hv
  have q := ok.cell i _ a hi ha
  have nl : ¬ Tk ⟨w.φ, w.st.set i .dead, w.H, w.ex⟩ a := fun tk => by
    rcases tk with ⟨j, k, h1, h2⟩ | tk
    case inr => exact ok.exd a tk ⟨i, d, .inl hi, ha⟩
    have h2' : w.φ[j]? = some a := h2
    have h1' : w.st[j]? = some (.mu k) ∨ w.st[j]? = some (.lk k) := by
      rcases h1 with h1 | h1 <;> rcases hc j _ h1 with z | z | ⟨d', z, y⟩ <;> first | (cases z; done) | exact .inl z | exact .inr z | (cases z; exact y)
    have ji := ok.inj j i a k d h1' (.inl hi) h2' ha
    subst ji
    have h1'' : (w.st.set j Cell.dead)[j]? = some (.mu k) ∨ (w.st.set j Cell.dead)[j]? = some (.lk k) := h1
    rw [getElem?_set_ite, if_pos rfl, if_pos il] at h1''
    rcases h1'' with z | z <;> cases z
  have q' : RepC G ⟨w.φ, w.st.set i .dead, w.H, w.ex⟩ d a := RepC.at e q rfl
  cases d <;> try exact q'.elim
  · obtain ⟨vs, z, r⟩ := q'; exact ⟨a, vs, rfl, nl, z, r⟩
  · obtain ⟨vs, z, r⟩ := q'; exact ⟨a, vs, rfl, nl, .inl z, r⟩
  · obtain ⟨vs, z, r⟩ := q'; exact ⟨a, vs, rfl, nl, .inl z, r⟩
  · obtain ⟨dx, vs, z, r⟩ := q'; exact ⟨a, dx, vs, rfl, nl, z, r⟩

/-! ### a call's own objects go -/
theorem TpA.less (hH : w'.H = w.H) (hl : ∀ a, Tk w' a → Tk w a) {a : Addr} {vs : List V} (t : TpA G w a vs) : TpA G w' a vs := by
  rcases t with ⟨n, z⟩ | z
  · exact .inl ⟨fun y => n (hl a y), by rw [hH]; exact z⟩
  · exact .inr z
section
variable {n : Nat} (hH : w'.H = w.H) (hl : ∀ a, Tk w' a → Tk w a) (hφ : ∀ i a, i < n → w.φ[i]? = some a → w'.φ[i]? = some a)
include hH hl hφ
mutual
theorem Rep.less : ∀ (d : D) (v : V), closed n d = true → Rep G w d v → Rep G w' d v
  | .non, _, _, r => r
  | .bl _, _, _, r => r
  | .int _, _, _, r => r
  | .str _, _, _, r => r
  | .tup xs, v, c, r => by
    obtain ⟨a, vs, e, t, q⟩ := r
    exact ⟨a, vs, e, TpA.less hH hl t, Reps.less xs vs c q⟩
  | .lst xs, v, c, r => by
    obtain ⟨a, vs, e, k, z, q⟩ := r
    exact ⟨a, vs, e, fun y => k (hl a y), by rw [hH]; exact z, Reps.less xs vs c q⟩
  | .dK kvs, v, c, r => by
    obtain ⟨a, us, e, k, z, q⟩ := r
    exact ⟨a, us, e, fun y => k (hl a y), by rw [hH]; exact z, RepK.less kvs us c q⟩
  | .dT kvs, v, c, r => by
    obtain ⟨a, us, e, k, z, q⟩ := r
    exact ⟨a, us, e, fun y => k (hl a y), by rw [hH]; exact z, RepT.less kvs us c q⟩
  | .ins k fs, v, c, r => by
    obtain ⟨a, dx, us, e, k, z, q⟩ := r
    exact ⟨a, dx, us, e, fun y => k (hl a y), by rw [hH]; exact z, RepF.less fs us c q⟩
  | .scr ns, v, c, r => by
    obtain ⟨a, e, hr⟩ := r
    refine ⟨a, e, ?_⟩
    rcases hr with ⟨k, z⟩ | z
    · exact .inl ⟨fun y => k (hl a y), by rw [hH]; exact z⟩
    · exact .inr z
  | .loc i, v, c, r => by
    obtain ⟨a, e, z⟩ := r
    exact ⟨a, e, hφ i a (of_decide_eq_true c) z⟩
theorem Reps.less : ∀ (ds : List D) (vs : List V), closedL n ds = true → Reps G w ds vs → Reps G w' ds vs
  | [], _, _, r => r
  | x :: xs, vs, c, r => by
    obtain ⟨v, vr, e, q1, q2⟩ := r
    exact ⟨v, vr, e, Rep.less x v (Bool.and_eq_true_iff.mp c).1 q1, Reps.less xs vr (Bool.and_eq_true_iff.mp c).2 q2⟩
theorem RepK.less : ∀ (ds : List (Key × D)) (vs : List (Key × V)), closedK n ds = true → RepK G w ds vs → RepK G w' ds vs
  | [], _, _, r => r
  | (k, x) :: xs, vs, c, r => by
    obtain ⟨v, vr, e, q1, q2⟩ := r
    exact ⟨v, vr, e, Rep.less x v (Bool.and_eq_true_iff.mp c).1 q1, RepK.less xs vr (Bool.and_eq_true_iff.mp c).2 q2⟩
theorem RepT.less : ∀ (ds : List (List Key × D)) (vs : List XE), closedT n ds = true → RepT G w ds vs → RepT G w' ds vs
  | [], _, _, r => r
  | (k, x) :: xs, vs, c, r => by
    obtain ⟨p, v, vr, e, t, q1, q2⟩ := r
    exact ⟨p, v, vr, e, TpA.less hH hl t, Rep.less x v (Bool.and_eq_true_iff.mp c).1 q1, RepT.less xs vr (Bool.and_eq_true_iff.mp c).2 q2⟩
theorem RepF.less : ∀ (ds : List (Nat × D)) (vs : List (Str × V)), closedF n ds = true → RepF G w ds vs → RepF G w' ds vs
  | [], _, _, r => r
  | (k, x) :: xs, vs, c, r => by
    obtain ⟨v, vr, e, q1, q2⟩ := r
    exact ⟨v, vr, e, Rep.less x v (Bool.and_eq_true_iff.mp c).1 q1, RepF.less xs vr (Bool.and_eq_true_iff.mp c).2 q2⟩
end
theorem RepC.less {d : D} {a : Addr} (c : Den.closed n d = true) (r : RepC G w d a) : RepC G w' d a := by
  cases d <;> try exact r.elim
  · obtain ⟨vs, z, q⟩ := r; exact ⟨vs, by rw [hH]; exact z, Reps.less hH hl hφ _ vs c q⟩
  · obtain ⟨vs, z, q⟩ := r; exact ⟨vs, by rw [hH]; exact z, RepK.less hH hl hφ _ vs c q⟩
  · obtain ⟨vs, z, q⟩ := r; exact ⟨vs, by rw [hH]; exact z, RepT.less hH hl hφ _ vs c q⟩
  · obtain ⟨dx, vs, z, q⟩ := r; exact ⟨dx, vs, by rw [hH]; exact z, RepF.less hH hl hφ _ vs c q⟩
theorem RepL.less {d : D} {a : Addr} (c : Den.closed n d = true) (r : RepL G w d a) : RepL G w' d a := by
  cases d <;> try exact r.elim
  · obtain ⟨vs, z, q⟩ := r; exact ⟨vs, by rw [hH]; exact z, Reps.less hH hl hφ _ vs c q⟩
  · obtain ⟨vs, z, q⟩ := r; exact ⟨vs, by rw [hH]; exact z, RepK.less hH hl hφ _ vs c q⟩
  · obtain ⟨vs, z, q⟩ := r; exact ⟨vs, by rw [hH]; exact z, RepT.less hH hl hφ _ vs c q⟩
  · obtain ⟨dx, vs, z, q⟩ := r; exact ⟨dx, vs, by rw [hH]; exact z, RepF.less hH hl hφ _ vs c q⟩
end

/-- the state without the objects from n on -/
def Wd.cut (w : Wd) (n : Nat) : Wd := ⟨w.φ.take n, w.st.take n, w.H, w.ex⟩
theorem cut_get {α : Type} {l : List α} {n i : Nat} {x : α} (h : (l.take n)[i]? = some x) : i < n ∧ l[i]? = some x := by
  have h1 := (List.getElem?_eq_some_iff.mp h).1
  rw [List.length_take] at h1
  have : i < n := by omega
  rw [List.getElem?_take_of_lt this] at h
  exact ⟨this, h⟩
theorem cut_live {n : Nat} {a : Addr} (h : Live (w.cut n) a) : Live w a := by
  obtain ⟨i, d, h1, h2⟩ := h
  obtain ⟨_, z⟩ := cut_get h2
  rcases h1 with h1 | h1
  · exact ⟨i, d, .inl (cut_get h1).2, z⟩
  · exact ⟨i, d, .inr (cut_get h1).2, z⟩
theorem cut_tk {n : Nat} {a : Addr} (h : Tk (w.cut n) a) : Tk w a := h.imp cut_live id
theorem cut_φ {n : Nat} : ∀ i a, i < n → w.φ[i]? = some a → (w.cut n).φ[i]? = some a := fun i a h e => (List.getElem?_take_of_lt h).trans e
theorem cut_ok (ok : Ok G w) {n : Nat} (s : Scoped n w.st) : Ok G (w.cut n) := by
  refine ⟨by simp [Wd.cut, ok.len], fun i c a h1 h2 => ?_, fun i j a d e h1 h2 h3 h4 => ?_, fun a ha l => ok.exd a ha (cut_live l), ok.exh⟩
  · obtain ⟨hi, h1'⟩ := cut_get h1
    have q := ok.cell i c a h1' (cut_get h2).2
    have cl := s i c hi h1'
    cases c with
    | dead => trivial
    | mu d => exact RepC.less (w := w) (w' := w.cut n) rfl (fun _ => cut_tk) cut_φ cl q
    | lk d => exact RepL.less (w := w) (w' := w.cut n) rfl (fun _ => cut_tk) cut_φ cl q
  · exact ok.inj i j a d e (h1.imp (fun z => (cut_get z).2) fun z => (cut_get z).2) (h2.imp (fun z => (cut_get z).2) fun z => (cut_get z).2) (cut_get h3).2 (cut_get h4).2
theorem cut_ext (ok0 : Ok G w) (e : Ext w.st.length w w') (hb : b ≤ w.st.length) : Ext b w (w'.cut w.st.length) := by
  refine ⟨fun i a h => ?_, fun a l => e.live a (cut_tk l), fun a m => e.mu a ?_, fun a o h n => e.keep a o h n, fun c hc s i k hi h => ?_, fun a ha => e.exm a ha⟩
  · have hi : i < w.st.length := by rw [← ok0.len]; exact (List.getElem?_eq_some_iff.mp h).1
    exact cut_φ i a hi (e.pre i a h)
  · obtain ⟨i, d, h1, h2⟩ := m
    exact ⟨i, d, (cut_get h1).2, (cut_get h2).2⟩
  · exact e.sco c (Nat.le_trans hc hb) s i k hi (cut_get h).2
theorem Rep.cut {n : Nat} {d : D} {v : V} (c : Den.closed n d = true) (r : Rep G w d v) : Rep G (w.cut n) d v := Rep.less (w := w) (w' := w.cut n) rfl (fun _ => cut_tk) cut_φ d v c r
end
end Den
set_option maxHeartbeats 1000000
/-! DPost: what is wanted behind a result; the readings; operators on values. -/
namespace Den
open PySem L2

theorem lim : LIM = sizeLine := by rw [sizeLine_eq]; rfl

section
variable {G : Gm} {w w' : Wd} {b : Nat}
theorem Ext.len (ok : Ok G w) (ok' : Ok G w') (e : Ext b w w') : w.st.length ≤ w'.st.length := by
  rw [← ok.len, ← ok'.len]
  cases h : w.φ.length with
  | zero => exact Nat.zero_le _
  | succ n =>
    have hn : n < w.φ.length := by omega
    have := e.pre n _ (List.getElem?_eq_getElem hn)
    exact (List.getElem?_eq_some_iff.mp this).1
end

/-- an exception's own attributes -/
def XFld (G : Gm) (w : Wd) (cls : Value) (fs : List (Nat × D)) (dd : Option Addr) : Prop :=
  (fs = [] ∧ (dd = none ∨ ∃ T, cls = .type T)) ∨ ∃ dx us, dd = some dx ∧ ¬ Tk w dx ∧ w.H dx = some (.xd us) ∧ RepF G w fs us
theorem XFld.ext {G : Gm} {w w' : Wd} {b : Nat} {cls : Value} {fs : List (Nat × D)} {dd : Option Addr} (e : Ext b w w') (h : XFld G w cls fs dd) : XFld G w' cls fs dd := by
  rcases h with h | ⟨dx, us, h1, h2, h3, h4⟩
  · exact .inl h
  · exact .inr ⟨dx, us, h1, e.nlive h3 h2, (e.stay h3 h2).same fun y => y, RepF.ext e fs us h4⟩

/-- what a slot holds: a value, or (in an except suite) the exception -/
def SlotOk (G : Gm) (pn : List (Addr × Obj)) (w : Wd) (d : Sl) (v : V) : Prop := match d with
  | .no => True
  | .x c fs => ∃ a oe dd, v = .ref a ∧ (a, oe) ∈ pn ∧ Zc (G.xcl c) dd oe ∧ (∃ vs, oe.data = .fields vs) ∧ XFld G w (G.xcl c) fs dd
  | .v d => Rep G w d v
theorem SlotOk.ext {G : Gm} {pn : List (Addr × Obj)} {w w' : Wd} {b : Nat} {d : Sl} {v : V} (e : Ext b w w') (h : SlotOk G pn w d v) : SlotOk G pn w' d v := by
  cases d with
  | no => trivial
  | v d => exact Rep.ext e _ v h
  | x c fs => obtain ⟨a, oe, dd, h1, h2, h3, h4, h5⟩ := h; exact ⟨a, oe, dd, h1, h2, h3, h4, h5.ext e⟩
structure EnvOk (G : Gm) (pn : List (Addr × Obj)) (w : Wd) (ρ : DEnv) (σ : L2.St) : Prop where
  len : ρ.length = σ.length
  slot : ∀ (i : Nat) d, ρ[i]? = some d → d ≠ .no → ∃ v, σ[i]? = some (some v) ∧ SlotOk G pn w d v
  glob : ∀ p ∈ G.gv, Rep G w p.1 p.2
theorem EnvOk.ext {G : Gm} {pn : List (Addr × Obj)} {w w' : Wd} {b : Nat} {ρ : DEnv} {σ : L2.St} (e : Ext b w w') (h : EnvOk G pn w ρ σ) : EnvOk G pn w' ρ σ :=
  ⟨h.len, fun i d q n => let ⟨v, h1, h2⟩ := h.slot i d q n; ⟨v, h1, h2.ext e⟩, fun p hp => Rep.ext e _ _ (h.glob p hp)⟩
theorem EnvOk.set {G : Gm} {pn : List (Addr × Obj)} {w : Wd} {ρ : DEnv} {σ : L2.St} {d : Sl} {v : V} (h : EnvOk G pn w ρ σ) (i : Nat) (r : SlotOk G pn w d v) : EnvOk G pn w (ρ.set i d) (σ.set i (some v)) := by
  refine ⟨by simp [h.len], fun j e q n => ?_, h.glob⟩
  rw [getElem?_set_ite] at q ⊢
  by_cases hj : j = i
  · rw [if_pos hj] at q ⊢
    by_cases hl : i < ρ.length
    · rw [if_pos hl] at q
      cases q
      exact ⟨v, by rw [if_pos (by rw [← h.len]; exact hl)], r⟩
    · rw [if_neg hl] at q; cases q
  · rw [if_neg hj] at q ⊢
    exact h.slot j e q n
theorem EnvOk.unset {G : Gm} {pn : List (Addr × Obj)} {w : Wd} {ρ : DEnv} {σ : L2.St} (h : EnvOk G pn w ρ σ) (i : Nat) : EnvOk G pn w (ρ.set i .no) (σ.set i none) := by
  refine ⟨by simp [h.len], fun j e q n => ?_, h.glob⟩
  rw [getElem?_set_ite] at q ⊢
  by_cases hj : j = i
  · rw [if_pos hj] at q
    by_cases hl : i < ρ.length
    · rw [if_pos hl] at q; cases q; exact (n rfl).elim
    · rw [if_neg hl] at q; cases q
  · rw [if_neg hj] at q ⊢
    exact h.slot j e q n

/-- an exception that is raised: its class, its own dict -/
def ExcOk (G : Gm) (w : Wd) (c : Nat) (fs : List (Nat × D)) (cls : Value) (dd : Option Addr) : Prop := cls = G.xcl c ∧ XFld G w cls fs dd
/-- no exception is wished -/
def WF : WX := fun _ _ _ _ => False

/-- what is wanted behind a result -/
def Post (G : Gm) (b : Nat) (w : Wd) {α : Type} (r : Res α) (W : WX) (σ : L2.St) (k : α → Wd → Prop) : Prop :=
  match r with
  | .ok a st => ∀ w', w'.st = st → Ok G w' → Ext b w w' → k a w'
  | .exc c fs st => ∀ w' cls dd, w'.st = st → Ok G w' → Ext b w w' → ExcOk G w' c fs cls dd → W cls dd σ w'.H
  | .stk => False
section
variable {G : Gm} {b : Nat} {w w1 : Wd} {α β : Type} {r : Res α} {W : WX} {σ : L2.St} {k k' : α → Wd → Prop}
theorem Post.mono (h : Post G b w r W σ k) (f : ∀ a w', Ok G w' → Ext b w w' → k a w' → k' a w') : Post G b w r W σ k' := by
  cases r with
  | ok a st => exact fun w' e o x => f a w' o x (h w' e o x)
  | exc c fs st => exact h
  | stk => exact h
theorem Post.from (x : Ext b w w1) (h : Post G b w r W σ k) : Post G b w1 r W σ k := by
  cases r with
  | ok a st => exact fun w' e o y => h w' e o (x.trans y)
  | exc c fs st => exact fun w' cls dd e o y z => h w' cls dd e o (x.trans y) z
  | stk => exact h
theorem Post.bind {f : α → Sto → Res β} {k : β → Wd → Prop} (h : Post G b w (r.bind f) W σ k) : Post G b w r W σ (fun a w1 => Post G b w1 (f a w1.st) W σ k) := by
  cases r with
  | ok a st => exact fun w1 e o x => by subst e; exact Post.from x h
  | exc c fs st => exact h
  | stk => exact h
/-- behind an unchanged store -/
theorem Post.here {a : α} (ok : Ok G w) (h : Post G b w (.ok a w.st) W σ k) : k a w := h w rfl ok .refl
/-- a new object that never changes -/
theorem Post.new {a : α} (ok : Ok G w) (h : Post G b w (.ok a w.st) W σ k) {p : Addr} (hp : w.H p = none) (o : HO) :
    Ext b w { w with H := upd w.H p o } ∧ Ok G { w with H := upd w.H p o } ∧ ¬ Tk { w with H := upd w.H p o } p ∧ k a { w with H := upd w.H p o } :=
  let ⟨e, o', n⟩ := grow (b := b) ok hp o
  ⟨e, o', n, h _ rfl o' e⟩
end

/-! ### lists of values -/
section
variable {G : Gm} {w : Wd}
theorem Reps.length : ∀ {ds : List D} {vs : List V}, Reps G w ds vs → ds.length = vs.length
  | [], _, h => by cases h; rfl
  | x :: xs, _, h => by obtain ⟨v, vr, rfl, _, q⟩ := h; simp [Reps.length q]
theorem Reps.append : ∀ {ds es : List D} {vs us : List V}, Reps G w ds vs → Reps G w es us → Reps G w (ds ++ es) (vs ++ us)
  | [], _, _, _, h, q => by cases h; exact q
  | x :: xs, _, _, _, h, q => by obtain ⟨v, vr, rfl, h1, h2⟩ := h; exact ⟨v, vr ++ _, rfl, h1, Reps.append h2 q⟩
theorem Reps.get : ∀ {ds : List D} {vs : List V} {i : Nat} {d : D}, Reps G w ds vs → ds[i]? = some d → ∃ v, vs[i]? = some v ∧ Rep G w d v
  | [], _, _, _, h, e => by simp at e
  | x :: xs, _, 0, d, h, e => by obtain ⟨v, vr, rfl, h1, h2⟩ := h; simp at e; subst e; exact ⟨v, rfl, h1⟩
  | x :: xs, _, i + 1, d, h, e => by
    obtain ⟨v, vr, rfl, h1, h2⟩ := h
    obtain ⟨u, q1, q2⟩ := Reps.get (i := i) h2 (by simpa using e)
    exact ⟨u, by simpa using q1, q2⟩
theorem Reps.take : ∀ {ds : List D} {vs : List V} (n : Nat), Reps G w ds vs → Reps G w (ds.take n) (vs.take n)
  | _, _, 0, _ => by simp [Reps]
  | [], _, _ + 1, h => by cases h; simp [Reps]
  | x :: xs, _, n + 1, h => by obtain ⟨v, vr, rfl, h1, h2⟩ := h; exact ⟨v, _, rfl, h1, Reps.take n h2⟩
theorem Reps.drop : ∀ {ds : List D} {vs : List V} (n : Nat), Reps G w ds vs → Reps G w (ds.drop n) (vs.drop n)
  | _, _, 0, h => h
  | [], _, _ + 1, h => by cases h; simp [Reps]
  | x :: xs, _, n + 1, h => by obtain ⟨v, vr, rfl, h1, h2⟩ := h; exact Reps.drop n h2
theorem Reps.reverse : ∀ {ds : List D} {vs : List V}, Reps G w ds vs → Reps G w ds.reverse vs.reverse
  | [], _, h => by cases h; simp [Reps]
  | x :: xs, _, h => by obtain ⟨v, vr, rfl, h1, h2⟩ := h; simp only [List.reverse_cons]; exact Reps.append (Reps.reverse h2) ⟨v, [], rfl, h1, rfl⟩
theorem Reps.replicate {ds : List D} {vs : List V} (h : Reps G w ds vs) : ∀ n : Nat, Reps G w (List.replicate n ds).flatten (List.replicate n vs).flatten
  | 0 => by simp [Reps]
  | n + 1 => by simp only [List.replicate_succ, List.flatten_cons]; exact Reps.append h (Reps.replicate h n)
theorem Reps.set {d : D} {v : V} (r : Rep G w d v) : ∀ {ds : List D} {vs : List V} (i : Nat), Reps G w ds vs → Reps G w (ds.set i d) (vs.set i v)
  | [], _, _, h => by cases h; simp [Reps]
  | x :: xs, _, 0, h => by obtain ⟨u, vr, rfl, h1, h2⟩ := h; exact ⟨v, vr, rfl, r, h2⟩
  | x :: xs, _, i + 1, h => by obtain ⟨u, vr, rfl, h1, h2⟩ := h; exact ⟨u, _, rfl, h1, Reps.set r i h2⟩
theorem Reps.ints : ∀ {ns : List Int} {vs : List V}, Reps G w (ns.map D.int) vs → vs = ns.map V.int
  | [], _, h => h
  | n :: ns, _, h => by obtain ⟨v, vr, rfl, h1, h2⟩ := h; have h1' : v = .int n := h1; rw [h1', Reps.ints h2]; rfl
theorem Reps.ofInts : ∀ {ns : List Int}, Reps G w (ns.map D.int) (ns.map V.int)
  | [] => rfl
  | n :: ns => ⟨_, _, rfl, rfl, Reps.ofInts⟩
theorem Reps.dropLast {ds : List D} {vs : List V} (h : Reps G w ds vs) : Reps G w ds.dropLast vs.dropLast := by
  rw [List.dropLast_eq_take, List.dropLast_eq_take, h.length]
  exact h.take _
theorem Reps.nil_iff {ds : List D} {vs : List V} (h : Reps G w ds vs) : ds = [] ↔ vs = [] := by
  have := h.length
  constructor <;> intro e <;> subst e <;> simpa [List.length_eq_zero_iff, eq_comm] using this
end

/-! ### contents -/
/-- the content of a value that is looked at: at a there stands d -/
inductive At (G : Gm) (w : Wd) : D → V → Prop
  | lst {xs : List D} {a : Addr} {vs : List V} : w.H a = some (.lst vs) → Reps G w xs vs → At G w (.lst xs) (.ref a)
  | tup {xs : List D} {a : Addr} {vs : List V} : SqT G.K w.H a vs → Reps G w xs vs → At G w (.tup xs) (.ref a)
  | scr {ns : List Int} {a : Addr} : SqL G.K w.H a (ns.map V.int) → At G w (.scr ns) (.ref a)
  | dK {kvs : List (Key × D)} {a : Addr} {us : List (Key × V)} : Rd w.H a (.dK us) → RepK G w kvs us → At G w (.dK kvs) (.ref a)
  | dT {kvs : List (List Key × D)} {a : Addr} {us : List XE} : Rd w.H a (dX G.hs a us) → RepT G w kvs us → At G w (.dT kvs) (.ref a)
  | ins {c : Nat} {fs : List (Nat × D)} {a dx : Addr} {us : List (Str × V)} : w.H a = some (.ins (G.cls c) dx us) → RepF G w fs us → At G w (.ins c fs) (.ref a)
  | non : At G w .non .non
  | bl (b : Bool) : At G w (.bl b) (.bl b)
  | int (i : Int) : At G w (.int i) (.int i)
  | str (s : Str) : At G w (.str s) (.str s)
theorem At.of {G : Gm} {w : Wd} (ok : Ok G w) {d c : D} {v : V} (h : Rep G w d v) (e : look w.st d = some c) : At G w c v := by
  cases d with
  | non => cases e; cases h; exact .non
  | bl b => cases e; cases h; exact .bl b
  | int i => cases e; cases h; exact .int i
  | str s => cases e; cases h; exact .str s
  | tup xs =>
    cases e
    obtain ⟨a, vs, rfl, t, q⟩ := h
    exact .tup t.sq q
  | lst xs => cases e; obtain ⟨a, vs, rfl, _, z, q⟩ := h; exact .lst z q
  | dK kvs => cases e; obtain ⟨a, us, rfl, _, z, q⟩ := h; exact .dK z q
  | dT kvs => cases e; obtain ⟨a, us, rfl, _, z, q⟩ := h; exact .dT z q
  | ins k fs => cases e; obtain ⟨a, dx, us, rfl, _, z, q⟩ := h; exact .ins z q
  | scr ns =>
    cases e
    obtain ⟨a, rfl, hr⟩ := h
    rcases hr with ⟨_, z⟩ | z
    · exact .scr (.inl z)
    · exact .scr (z _)
  | loc i =>
    obtain ⟨a, rfl, ha⟩ := h
    have core : ∀ c, RepL G w c a → At G w c (.ref a) := fun c r => by
      cases c <;> try exact r.elim
      · obtain ⟨vs, z, q⟩ := r; exact .lst z q
      · obtain ⟨vs, z, q⟩ := r; exact .dK z q
      · obtain ⟨vs, z, q⟩ := r; exact .dT z q
      · obtain ⟨dx, vs, z, q⟩ := r; exact .ins z q
    unfold look at e
    cases hi : w.st[i]? with
    | none => simp only [hi] at e; cases e
    | some k =>
      cases k with
      | dead => simp only [hi] at e; cases e
      | mu d => simp only [hi] at e; cases e; exact core _ (RepC.l (ok.cell i _ a hi ha))
      | lk d => simp only [hi] at e; cases e; exact core _ (ok.cell i _ a hi ha)

end Den
set_option maxHeartbeats 4000000
/-! DTk: exceptions in the air: of any class where nothing is handled (the context is None); where one is handled, of classes that are not clean alone. The rule for try with several clauses. -/
namespace Den
open PySem L2 PySem.Spec PyProof.Rows

/-- what may be raised, is taken -/
structure TkB (G : Gm) (X : Cx) (W : WX) : Prop where
  n : L2N.Takes X W
  u : L2.Takes X (fun cls d σ H => ¬ G.cln cls ∧ W cls d σ H)
/-- behind a call -/
def CXB (G : Gm) (P : Program) (w : World) : CXT := fun outer H s E e s' => L2N.CX P w outer H s E e s' ∨ L2.CX P w outer H s (fun cls d H => ¬ G.cln cls ∧ E cls d H) e s'
section
variable {G : Gm} {X : Cx} {W : WX}
theorem TkB.passes (tk : TkB G X W) {E : XK} (hW : ∀ cls d σ H, E cls d H → W cls d σ H) : Passes (CXB G X.prog X.w) X E := fun pins σ H s e s' I c => by
  rcases c with c | c
  · exact tk.n e s' (L2N.XE.of_call I (fun _ _ _ h => hW _ _ _ _ h) c)
  · exact tk.u e s' (L2.XE.of_call I (fun _ _ _ h => ⟨h.1, hW _ _ _ _ h.2⟩) c)
theorem TkB.at_ (tk : TkB G X W) (σ : L2.St) : PassesAt (CXB G X.prog X.w) X σ (WE W σ) := fun _ _ _ e s' I c => by
  rcases c with c | c
  · exact tk.n e s' (L2N.XE.of_call I (fun _ _ _ h => h) c)
  · exact tk.u e s' (L2.XE.of_call I (fun _ _ _ h => h) c)
/-- at a def's entry -/
theorem tk_of {E : XK} (hs : X.stack = X.env :: X.outer) (hf : X.env.frame = some X.env.locals) (hex : X.ex = []) {E₁ : Value → Shared → Prop}
    (hx : X.xe = fun e s' => wpAny (model X.prog X.w) X.A (leaving X.env e) (fun _ s'' => CXB G X.prog X.w X.outer X.H_0 X.s_0 E e s'') E₁ s') : TkB G X (fun cls d _ H => E cls d H) := by
  constructor
  · intro u s' x
    rw [hx]
    exact wpAny_mono (L2N.XE.leave (W := fun cls d _ H => E cls d H) (E := E) (E₁ := E₁) hs hf hex (fun _ _ _ _ h => h) x) (fun _ _ z => .inl z) fun _ _ z => z
  · intro u s' x
    rw [hx]
    exact wpAny_mono (L2.XE.leave (W := fun cls d _ H => ¬ G.cln cls ∧ E cls d H) (E := fun cls d H => ¬ G.cln cls ∧ E cls d H) (E₁ := E₁) hs hf hex (fun _ _ _ _ h => h) x) (fun _ _ z => .inr z) fun _ _ z => z
theorem tk_no : TkB G X WF := ⟨fun u s' h => by obtain ⟨_, _, _, _, _, _, _, _, _, _, _, _, _, _, _, _, w⟩ := h; exact w.elim, fun u s' h => by obtain ⟨_, _, _, _, _, _, _, _, _, _, _, _, _, _, _, _, w⟩ := h; exact w.2.elim⟩
theorem cxb_no {P : Program} {w : World} {outer : List Env} {H : Hp} {s : Shared} {e : Value} {s' : Shared} (h : CXB G P w outer H s (fun _ _ _ => False) e s') : False := by
  rcases h with ⟨_, _, _, _, _, _, _, _, _, _, _, _, w⟩ | ⟨_, _, _, _, _, _, _, _, _, _, _, _, w⟩
  · exact w
  · exact w.2
end

/-! ### clauses -/
/-- a clause: its class, its name's slot, whether its suite raises, what the suite is read as -/
structure Cla where
  c : Value
  n : Option Nat
  z : Bool
  ts : Addr → Value → Option Addr → TS
def endsG (D : Ends) : Option Nat → Ends
  | none => D
  | some i => { nx := fun σ' H' => D.nx (σ'.set i none) H', rt := D.rt, bk := fun σ' H' => D.bk (σ'.set i none) H', ct := fun σ' H' => D.ct (σ'.set i none) H' }
def setG (σ : L2.St) (a : Addr) : Option Nat → L2.St
  | none => σ
  | some i => σ.set i (some (.ref a))
/-- what the clauses wish of an exception, one after the other -/
def wGen (G : Gm) (Wout : WX) (D : Ends) : List Cla → WX
  | [] => Wout
  | k :: r => fun cls d σ H => ∃ b, PySem.W.exmOne G.K cls k.c = some b ∧ (b = true → (k.z = true → G.cln cls) ∧ ∀ a, H a = none → k.ts a cls d (endsG D k.n) (setG σ a k.n) H) ∧ (b = false → wGen G Wout D r cls d σ H)
inductive HdG (G : Gm) (X : Cx) (Wout : WX) : List ExceptHandler → List Cla → Prop
  | nil : HdG G X Wout [] []
  | only {x : Str} {c : Value} {ts : Addr → Value → Option Addr → TS} {b₀ : Stmt} {suite : List Stmt} {np pos' : Pos} {hds : List ExceptHandler} {l : List Cla} (hc : Names X x c)
      (hsu : ∀ (a : Addr) (oe : Obj) (cls : Value) (d : Option Addr) (pn : List (Addr × Obj)), Zc cls d oe → (∃ vs, oe.data = .fields vs) → PSs (X.suite a ((a, oe) :: pn)) (b₀ :: suite) (ts a cls d)) (r : HdG G X Wout hds l) :
      HdG G X Wout (.ExceptHandler (some (.Name x np)) none (b₀ :: suite) pos' :: hds) (⟨c, none, false, ts⟩ :: l)
  | as_ {x n : Str} {i : Nat} {c : Value} {ts : Addr → Value → Option Addr → TS} {b₀ : Stmt} {suite : List Stmt} {np pos' : Pos} {hds : List ExceptHandler} {l : List Cla} (hN : X.N.Nodup) (hi : X.N[i]? = some n) (hln : X.env.kindOf n = some .local) (hc : Names X x c)
      (hsu : ∀ (a : Addr) (oe : Obj) (cls : Value) (d : Option Addr) (pn : List (Addr × Obj)), Zc cls d oe → (∃ vs, oe.data = .fields vs) → PSs (X.suite a ((a, oe) :: pn)) (b₀ :: suite) (ts a cls d)) (r : HdG G X Wout hds l) :
      HdG G X Wout (.ExceptHandler (some (.Name x np)) (some n) (b₀ :: suite) pos' :: hds) (⟨c, some i, false, ts⟩ :: l)
  | rais {x : Str} {c : Value} {ts : Addr → Value → Option Addr → TS} {b₀ : Stmt} {suite : List Stmt} {np pos' : Pos} {hds : List ExceptHandler} {l : List Cla} (hc : Names X x c)
      (hsu : ∀ (a : Addr) (oe : Obj) (cls : Value) (d : Option Addr) (pn : List (Addr × Obj)), Zc cls d oe → (∃ vs, oe.data = .fields vs) → TkB G (L2H.suiteX X a ((a, oe) :: pn)) Wout → L2H.HotC (L2H.suiteX X a ((a, oe) :: pn)) →
        PSs (L2H.suiteX X a ((a, oe) :: pn)) (b₀ :: suite) (ts a cls d)) (r : HdG G X Wout hds l) :
      HdG G X Wout (.ExceptHandler (some (.Name x np)) none (b₀ :: suite) pos' :: hds) (⟨c, none, true, ts⟩ :: l)
section
variable {G : Gm} {X : Cx} {Wout : WX} {D : Ends}
/-- an exception before the clauses -/
theorem catch_gen {pins : List (Addr × Obj)} {σ : L2.St} {H : Hp} {sI s' : Shared} {a : Addr} {B : Heap} {cls : Value} {d : Option Addr} {Z : Obj → Prop} (ok : X.Ok) (hs : X.stack = X.env :: X.outer) (hf : X.env.frame = some X.env.locals) (hK : X.K = G.K)
    (hpa : ∀ hd : Option Value, PassesOwnAt (model X.prog X.w) (X.A.mark hd) X.A X.env X.xe) (tk : TkB G X Wout) (hZ : ∀ o, Z o → Zc cls d o) (hzz : (∀ o, Z o → PXN.CtxN o) ∨ ¬ G.cln cls)
    (J : Inv X pins σ H sI) (nb : ∀ b o, sI.heap.get? b = some o → b ∉ frs X.stack → B.get? b = some o) (os : s'.os = sI.os) (ag : AllBare s'.gens) (na : H a = none)
    (out : ∀ h4, HandSPX.HeldZ B (X.env :: X.outer) a Z X.env.locals h4 → sI.heap.UpToSlots h4 → Wout cls d σ H → X.xe (.ref a) { s' with heap := h4 })
    {hds : List ExceptHandler} {l : List Cla} (hk : HdG G X Wout hds l) : ∀ h3, sI.heap.UpToSlots h3 → HandSPX.FlyingZ B (X.env :: X.outer) a Z h3 → wGen G Wout D l cls d σ H →
    wpAny (model X.prog X.w) X.A (handleBy (.ref a) X.env hds) (SP X pins D) X.xe { s' with heap := h3 } := by
  have notFr : ∀ {h : Heap} {o : Obj} {vs : Array Value}, h.FunFrames B (X.env :: X.outer) → h.get? a = some o → o.data = .fields vs → a ∉ frs (X.env :: X.outer) := fun {h o vs} ff e dd hm => by
    obtain ⟨_, o', e', hnf⟩ := ff.mem hm
    rw [e] at e'; cases e'
    exact hnf _ dd
  have far : ∀ {h : Heap}, HandSPX.FlyingZ B (X.env :: X.outer) a Z h → a ≠ X.env.locals ∧ a ∉ X.fs := fun {h} fl => by
    obtain ⟨oe, vs, he, hz, hd⟩ := fl.there
    have nfr := notFr fl.2.2.1 he hd
    refine ⟨fun z => nfr (List.mem_filterMap.mpr ⟨X.env, List.mem_cons_self, by rw [hf, z]⟩), fun hm => ?_⟩
    obtain ⟨e, he, q⟩ := List.mem_filterMap.mp hm
    exact nfr (List.mem_filterMap.mpr ⟨e, List.mem_cons_of_mem _ he, q⟩)
  have tst : ∀ {h : Heap} {x : Str} {c : Value} {np : Pos} {b : Bool} {Q : Bool → Shared → Prop} {E E' : Value → Shared → Prop}, sI.heap.UpToSlots h → HandSPX.FlyingZ B (X.env :: X.outer) a Z h → Names X x c → PySem.W.exmOne G.K cls c = some b → Q b { s' with heap := h } →
      wpAny (model X.prog X.w) (X.A.mark (some (.ref a))) (eval (.Name x np) X.env) (fun c s₁ => wpAny (model X.prog X.w) (X.A.mark (some (.ref a))) (excMatches (.ref a) c) Q E' s₁) E { s' with heap := h } := fun {h x c np b Q E E'} up fl hc hb q => by
    obtain ⟨oe3, vs3, he3, hz3, hd3⟩ := fl.there
    obtain ⟨nL, nF⟩ := far fl
    have J3 : Inv X pins σ H { s' with heap := h } := J.landed nb fl.1 up os ag
    have S3 := J3.suite he3 hd3 na nL nF
    have LT : PySem.W.Looks (model X.prog X.w) h (typeOf (.ref a)) cls := fun A Q E s k q => wpAny_typeOf_ref (k _ _ he3) (by rw [(hZ _ hz3).1]; exact q)
    have LM := PySem.W.exm_one (M := model X.prog X.w) (J3.kIn) LT (by rw [hK]; exact hb)
    obtain ⟨hg, hdbg, hm | ⟨hm, hv, hnn⟩⟩ := hc
    · exact ld_glob (X := X.suite a ((a, oe3) :: (X.pn ++ pins))) S3 hg hm (LM.here q) hdbg
    · exact ld_blt (X := X.suite a ((a, oe3) :: (X.pn ++ pins))) S3 hg hm hv (LM.here q) hnn hdbg
  induction hk with
  | nil =>
    intro h3 up fl3 w
    refine wpAny_handleBy_nil ?_
    obtain ⟨k1, k2, k3, oe, vs, T, oT, ts', he, hz, hd, h1, hr⟩ := id fl3
    unfold PySem.passOn
    refine wpAny_bind (wpAny_field he hd h1 ?_)
    rw [if_neg (show ¬ ((Value.ref T == Value.none) = true) from by simp)]
    have fin : wpAny (model X.prog X.w) X.A (setFlight (.ref a) X.env.frame) (fun _ s4 => wpAny (model X.prog X.w) X.A (throw (.ref a) : Sem PySem.Flow) (SP X pins D) X.xe s4) X.xe { s' with heap := h3 } := by
      rw [hf]
      refine HandSPX.setFlight_upZ fl3 fun h4 hh4 up4 => wpAny_throw (out h4 hh4 (up.trans up4) w)
    first
      | exact wpAny_bind (wpAny_pure (wpAny_bind fin))
      | exact wpAny_bind fin
  | @only x c ts b₀ suite np pos' hds2 l2 hc hsu r ih =>
    intro h3 up fl3 w
    obtain ⟨b, hb1, hyes, hno⟩ := w
    refine wpAny_handleBy_cons (codeAny_handlers_test (tst up fl3 hc hb1 ?_)) (by intro q; cases q)
    cases b with
    | true =>
      refine codeAny_handlers_suite ?_
      refine HandSPX.lands_againZ fl3 fun h4 fl4 up4 => ?_
      have J4 : Inv X pins σ H { s' with heap := h4 } := J.landed nb fl4.1 (up.trans up4) os ag
      obtain ⟨oe4, vs4, he4, hz4, hd4⟩ := fl4.there
      obtain ⟨nL, nF⟩ := far fl4
      have S4 := J4.suite he4 hd4 na nL nF
      refine wpAny_mono ((hsu a oe4 cls d (X.pn ++ pins) (hZ _ hz4) ⟨_, hd4⟩).run [] _ _ H _ S4 ((hyes rfl).2 a na)) (fun f s6 hsp => ?_) (fun _ _ z => False.elim z)
      cases f with
      | next => obtain ⟨σ6, H6, S6, q6⟩ := hsp; exact ⟨_, _, S6.unsuite ok, q6⟩
      | brk => obtain ⟨σ6, H6, S6, q6⟩ := hsp; exact ⟨_, _, S6.unsuite ok, q6⟩
      | cont => obtain ⟨σ6, H6, S6, q6⟩ := hsp; exact ⟨_, _, S6.unsuite ok, q6⟩
      | ret u => obtain ⟨v6, σ6, H6, S6, r6, q6⟩ := hsp; exact ⟨_, _, _, S6.unsuite ok, r6, q6⟩
    | false =>
      show wpAny _ X.A (handleBy (.ref a) X.env hds2) _ _ _
      exact ih h3 up fl3 (hno rfl)
  | @as_ x n i c ts b₀ suite np pos' hds2 l2 hN hi hln hc hsu r ih =>
    intro h3 up fl3 w
    obtain ⟨b, hb1, hyes, hno⟩ := w
    refine wpAny_handleBy_cons (codeAny_handlers_test (tst up fl3 hc hb1 ?_)) (by intro q; cases q)
    cases b with
    | true =>
      refine codeAny_handlers_suite_as ?_
      refine HandSPX.lands_againZ fl3 fun h4 fl4 up4 => ?_
      have J4 : Inv X pins σ H { s' with heap := h4 } := J.landed nb fl4.1 (up.trans up4) os ag
      obtain ⟨oe4, vs4, he4, hz4, hd4⟩ := fl4.there
      obtain ⟨nL, nF⟩ := far fl4
      have S4 := J4.suite he4 hd4 na nL nF
      refine store_ok (X := X.suite a ((a, oe4) :: (X.pn ++ pins))) (v := .ref a) S4 hN hi (.inl hln) rfl (fun s5 S5 => ?_) (.inr hln)
      refine wpAny_mono ((hsu a oe4 cls d (X.pn ++ pins) (hZ _ hz4) ⟨_, hd4⟩).run [] s5 _ H _ S5 ((hyes rfl).2 a na)) (fun f s6 hsp => ?_) (fun _ _ z => False.elim z)
      have end_ : ∀ {σ6 : L2.St} {H6 : Hp} {Q : Shared → Prop}, Inv (X.suite a ((a, oe4) :: (X.pn ++ pins))) [] σ6 H6 s6 → (∀ s7, Inv X pins (σ6.set i none) H6 s7 → Q s7) →
          wpAny (model X.prog X.w) X.A (do bindName X.env n .none; unbindBehindTheSuite X.env n pos') (fun _ s7 => Q s7) X.xe s6 := fun {σ6 H6 Q} S6 hq => gone_ok (S6.unsuite ok) hN hi hln hq
      cases f with
      | next => obtain ⟨σ6, H6, S6, q6⟩ := hsp; exact end_ S6 fun s7 J7 => ⟨_, _, J7, q6⟩
      | brk => obtain ⟨σ6, H6, S6, q6⟩ := hsp; exact end_ S6 fun s7 J7 => ⟨_, _, J7, q6⟩
      | cont => obtain ⟨σ6, H6, S6, q6⟩ := hsp; exact end_ S6 fun s7 J7 => ⟨_, _, J7, q6⟩
      | ret u => obtain ⟨v6, σ6, H6, S6, r6, q6⟩ := hsp; exact end_ S6 fun s7 J7 => ⟨_, _, _, J7, r6, q6⟩
    | false =>
      show wpAny _ X.A (handleBy (.ref a) X.env hds2) _ _ _
      exact ih h3 up fl3 (hno rfl)
  | @rais x c ts b₀ suite np pos' hds2 l2 hc hsu r ih =>
    intro h3 up fl3 w
    obtain ⟨b, hb1, hyes, hno⟩ := w
    refine wpAny_handleBy_cons (codeAny_handlers_test (tst up fl3 hc hb1 ?_)) (by intro q; cases q)
    cases b with
    | true =>
      have hctx : ∀ o, Z o → PXN.CtxN o := hzz.resolve_right fun z => z ((hyes rfl).1 rfl)
      refine codeAny_handlers_suite ?_
      refine HandSPX.lands_againZ fl3 fun h4 fl4 up4 => ?_
      have J4 : Inv X pins σ H { s' with heap := h4 } := J.landed nb fl4.1 (up.trans up4) os ag
      obtain ⟨oe4, vs4, he4, hz4, hd4⟩ := fl4.there
      obtain ⟨nL, nF⟩ := far fl4
      have S4 := J4.suite he4 hd4 na nL nF
      have tkS : TkB G (L2H.suiteX X a ((a, oe4) :: (X.pn ++ pins))) Wout := ⟨fun u2 s2 x2 => by
          obtain ⟨a2, B2, sI2, pn2, σ2, H2, cls2, d2, e2, I2, nb2, up2, sky2, na2, os2, ag2, w2⟩ := x2
          exact tk.n u2 s2 ⟨a2, B2, sI2, pins, σ2, H2, cls2, d2, e2, L2H.unsuiteX I2 ok, nb2, up2, sky2, na2, os2, ag2, w2⟩, fun u2 s2 x2 => by
          obtain ⟨a2, B2, sI2, pn2, σ2, H2, cls2, d2, e2, I2, nb2, up2, sky2, na2, os2, ag2, w2⟩ := x2
          exact tk.u u2 s2 ⟨a2, B2, sI2, pins, σ2, H2, cls2, d2, e2, L2H.unsuiteX I2 ok, nb2, up2, sky2, na2, os2, ag2, w2⟩⟩
      have hot : L2H.HotC (L2H.suiteX X a ((a, oe4) :: (X.pn ++ pins))) := ⟨(a, oe4), ⟨rfl, vs4, hd4, hctx _ hz4 vs4 hd4⟩, List.mem_cons_self⟩
      refine wpAny_mono ((hsu a oe4 cls d (X.pn ++ pins) (hZ _ hz4) ⟨_, hd4⟩ tkS hot).run [] _ _ H _ (L2H.suiteX_of S4) ((hyes rfl).2 a na)) (fun f s6 hsp => ?_) (fun e6 s6 z => hpa (some (.ref a)) e6 s6 z)
      cases f with
      | next => obtain ⟨σ6, H6, S6, q6⟩ := hsp; exact ⟨_, _, L2H.unsuiteX S6 ok, q6⟩
      | brk => obtain ⟨σ6, H6, S6, q6⟩ := hsp; exact ⟨_, _, L2H.unsuiteX S6 ok, q6⟩
      | cont => obtain ⟨σ6, H6, S6, q6⟩ := hsp; exact ⟨_, _, L2H.unsuiteX S6 ok, q6⟩
      | ret u => obtain ⟨v6, σ6, H6, S6, r6, q6⟩ := hsp; exact ⟨_, _, _, L2H.unsuiteX S6 ok, r6, q6⟩
    | false =>
      show wpAny _ X.A (handleBy (.ref a) X.env hds2) _ _ _
      exact ih h3 up fl3 (hno rfl)
variable {body orelse : List Stmt} {h₀ : ExceptHandler} {hds : List ExceptHandler} {l : List Cla} {pos : Pos} {tb : WX → TS} {u : TS}
/-- try: body, clauses, else -/
theorem ps_try_gen (hs : X.stack = X.env :: X.outer) (hf : X.env.frame = some X.env.locals) (hK : X.K = G.K) (hpa : ∀ hd : Option Value, PassesOwnAt (model X.prog X.w) (X.A.mark hd) X.A X.env X.xe) (tk : TkB G X Wout) (ho : PSs X orelse u)
    (hb : ∀ (W : WX) (pn : List (Addr × Obj)) (xe : Value → Shared → Prop), TkB G (X.tr pn xe) W → PassesOwn (model X.prog X.w) X.A X.env xe → (∀ hd : Option Value, PassesOwnAt (model X.prog X.w) (X.A.mark hd) X.A X.env xe) → PSs (X.tr pn xe) body (tb W))
    (hh : HdG G X Wout (h₀ :: hds) l) : PS X (.Try body (h₀ :: hds) orelse [] pos) (fun D σ H => tb (wGen G Wout D l) { D with nx := u D } σ H) := by
  refine ⟨fun pins s σ H D I h => ?_⟩
  have ok := I.ok
  have hfr : X.A.frames = some (X.env :: X.outer) := by rw [ok.frames, hs]
  refine wpAny_Try_except ?_
  refine wpAny_mono ((hb (wGen G Wout D l) (X.pn ++ pins) (fun e s₁ => wpAny (model X.prog X.w) X.A (noteFrame e X.env) (fun _ s₂ => wpAny (model X.prog X.w) X.A (setFlight e none) (fun _ s₃ =>
    wpAny (model X.prog X.w) X.A (handleBy e X.env (h₀ :: hds)) (SP X pins D) X.xe s₃) X.xe s₂) X.xe s₁) ⟨fun v s' xx => ?_, fun v s' xx => ?_⟩ PassesOwn.looking fun _ => PassesOwnAt.looking).run [] s σ H { D with nx := u D } (I.toTry _) h) (fun f s1 hsp => ?_) (fun e s1 he => he)
  · obtain ⟨a, B, sI, pins', σ', H', cls, d, rfl, J', nb, up, sky, na, os, ag, w⟩ := xx
    have sky' : Sky B (X.env :: X.outer) a (L2N.Zn cls d) X.env.locals s'.heap := by rw [← hs]; exact sky
    show wpAny (model X.prog X.w) X.A (noteFrame (.ref a) X.env) _ _ _
    refine L2N.Sky.land L2N.Zn.steady hfr hf sky' fun h3 fl3 up3 => ?_
    exact catch_gen (s' := s') (Z := L2N.Zn cls d) ok hs hf hK hpa tk (fun o z => z.zc) (.inl fun o z => z.2.2) (J'.ofTry ok) nb os ag na (fun h4 hh4 up4 w => tk.n _ _ ⟨a, B, sI, pins, σ', H', cls, d, rfl, J'.ofTry ok, nb, up4, .inr (.inr (by rw [hs]; exact hh4)), na, os, ag, w⟩) hh h3 (up.trans up3) fl3 w
  · obtain ⟨a, B, sI, pins', σ', H', cls, d, rfl, J', nb, up, sky, na, os, ag, hcl, w⟩ := xx
    have sky' : Sky B (X.env :: X.outer) a (Zc cls d) X.env.locals s'.heap := by rw [← hs]; exact sky
    show wpAny (model X.prog X.w) X.A (noteFrame (.ref a) X.env) _ _ _
    refine L2.Sky.land Zc.steady hfr hf sky' fun h3 fl3 up3 => ?_
    exact catch_gen (s' := s') (Z := Zc cls d) ok hs hf hK hpa tk (fun o z => z) (.inr hcl) (J'.ofTry ok) nb os ag na (fun h4 hh4 up4 w => tk.u _ _ ⟨a, B, sI, pins, σ', H', cls, d, rfl, J'.ofTry ok, nb, up4, .inr (.inr (by rw [hs]; exact hh4)), na, os, ag, hcl, w⟩) hh h3 (up.trans up3) fl3 w
  · cases f with
    | next => obtain ⟨σ', H', J', q⟩ := hsp; exact ho.run pins s1 σ' H' D (J'.ofTry ok) q
    | brk => obtain ⟨σ', H', J', q⟩ := hsp; exact ⟨σ', H', J'.ofTry ok, q⟩
    | cont => obtain ⟨σ', H', J', q⟩ := hsp; exact ⟨σ', H', J'.ofTry ok, q⟩
    | ret u => obtain ⟨v, σ', H', J', r, q⟩ := hsp; exact ⟨v, σ', H', J'.ofTry ok, r, q⟩
end
end Den
set_option maxHeartbeats 1000000
/-! DOps: operators on values stand for the model's. -/
namespace Den
open PySem L2

section
variable {G : Gm} {b : Nat} {w : Wd} {W : WX} {σ : L2.St} {Q : VK} {x y : V} {d1 d2 : D}

/-- what is wanted of a value -/
abbrev KV1 (G : Gm) (Q : VK) : D → Wd → Prop := fun d w' => ∀ v, Rep G w' d v → Q v w'.H

/-- a new list, frozen -/
theorem new_lst {xs : List D} {vs : List V} (ok : Ok G w) (r : Reps G w xs vs) (h : Post G b w (.ok (.lst xs) w.st) W σ (KV1 G Q)) : ∀ p, w.H p = none → Q (.ref p) (upd w.H p (.lst vs)) := fun p hp => by
  obtain ⟨e, _, n, k⟩ := h.new ok hp (.lst vs)
  exact k _ ⟨p, vs, rfl, n, upd_same, Reps.ext e xs vs r⟩
theorem new_tup {xs : List D} {vs : List V} (ok : Ok G w) (r : Reps G w xs vs) (h : Post G b w (.ok (.tup xs) w.st) W σ (KV1 G Q)) : ∀ p, w.H p = none → Q (.ref p) (upd w.H p (.tup vs)) := fun p hp => by
  obtain ⟨e, _, n, k⟩ := h.new ok hp (.tup vs)
  exact k _ ⟨p, vs, rfl, .inl ⟨n, upd_same⟩, Reps.ext e xs vs r⟩

theorem look_tup (ok : Ok G w) {d : D} {v : V} {xs : List D} (h : Rep G w d v) (e : look w.st d = some (.tup xs)) : d = .tup xs := by
  cases d <;> try (cases e; done)
  · cases e; rfl
  · rename_i i
    obtain ⟨a, rfl, ha⟩ := h
    unfold look at e
    cases hi : w.st[i]? with
    | none => simp only [hi] at e; cases e
    | some k =>
      have q := ok.cell i _ a hi ha
      cases k with
      | dead => simp only [hi] at e; cases e
      | mu d => simp only [hi] at e; cases e; exact q.elim
      | lk d => simp only [hi] at e; cases e; exact q.elim
def rAdd2 (K : PySem.W.Frag) : R2 := fun x y H Q => rI0 (fun i j => .int (i + j)) x y H Q ∨ (∃ i j, x = .str i ∧ y = .str j ∧ i.length + j.length ≤ sizeLine ∧ Q (.str (i ++ j)) H) ∨ rCatT K x y H Q ∨ rCat x y H Q
theorem add_R {X : Cx} : OpR X (binaryOp .Add) (rAdd2 X.K) := op_add.or (op_add_str.or (op_catT.or op_cat))
theorem add_ok (ok : Ok G w) (h1 : Rep G w d1 x) (h2 : Rep G w d2 y) (h : Post G b w (opB .add d1 d2 w.st) W σ (KV1 G Q)) : rAdd2 G.K x y w.H Q := by
  dsimp only [opB] at h
  split at h
  · rename_i c d e1 e2
    have a1 := At.of ok h1 e1
    have a2 := At.of ok h2 e2
    unfold addC at h
    split at h
    · cases a1; cases a2; exact .inl ⟨_, _, rfl, rfl, h.here ok _ rfl⟩
    · split at h
      · rename_i hl
        cases a1; cases a2
        exact .inr (.inl ⟨_, _, rfl, rfl, by rw [← lim]; exact hl, h.here ok _ rfl⟩)
      · exact h.elim
    · rename_i xs ys
      split at h
      · rename_i hl
        cases a1 with
        | tup z1 q1 =>
          cases a2 with
          | tup z2 q2 =>
            rename_i a vs a' vs'
            have ne : xs ≠ [] := fun z => by rw [z] at hl; exact Bool.noConfusion hl.2
            refine .inr (.inr (.inl ⟨_, _, vs, vs', rfl, rfl, z1, z2, fun z => ne (q1.nil_iff.mpr z), by rw [← q1.length, ← q2.length, ← lim]; exact hl.1, fun z => ?_, fun z => new_tup ok (q1.append q2) h⟩))
            have ez : ys = [] := q2.nil_iff.mpr z
            subst ez
            have k := h.here ok
            rw [List.append_nil] at k
            exact k _ (by rw [← look_tup ok h1 e1]; exact h1)
      · exact h.elim
    · split at h
      · rename_i hl
        cases a1 with
        | lst z1 q1 =>
          cases a2 with
          | lst z2 q2 =>
            exact .inr (.inr (.inr ⟨_, _, _, _, rfl, rfl, z1, z2, by rw [← q1.length, ← q2.length, ← lim]; exact hl, new_lst ok (q1.append q2) h⟩))
      · exact h.elim
    · exact h.elim
  · exact h.elim

def rMul2 : R2 := fun x y H Q => rI CMulW (fun i j => .int (i * j)) x y H Q ∨ rRep x y H Q
theorem mul_R {X : Cx} : OpR X (binaryOp .Mult) rMul2 := op_mulW.or op_rep
theorem mul_ok (ok : Ok G w) (h1 : Rep G w d1 x) (h2 : Rep G w d2 y) (h : Post G b w (opB .mul d1 d2 w.st) W σ (KV1 G Q)) : rMul2 x y w.H Q := by
  dsimp only [opB] at h
  split at h
  · rename_i c d e1 e2
    have a1 := At.of ok h1 e1
    have a2 := At.of ok h2 e2
    unfold mulC at h
    split at h
    · split at h
      · rename_i hm
        cases a1; cases a2
        unfold mulOk at hm
        have hm' := of_decide_eq_true hm
        exact .inl ⟨_, _, rfl, rfl, hm', h.here ok _ rfl⟩
      · exact h.elim
    · split at h
      · rename_i hm
        obtain ⟨m1, m2, m3⟩ := hm
        cases a1 with
        | lst z1 q1 =>
          cases a2
          exact .inr ⟨_, _, _, rfl, rfl, z1, by omega, by omega, by rw [← q1.length, ← lim]; exact m3, new_lst ok (q1.replicate _) h⟩
      · exact h.elim
    · exact h.elim
  · exact h.elim

/-- the operators of ints alone -/
def pyB : B → Operator
  | .add => .Add | .sub => .Sub | .mul => .Mult | .fdiv => .FloorDiv | .mod => .Mod | .pow => .Pow | .shr => .RShift | .band => .BitAnd
def rB (K : PySem.W.Frag) : B → R2
  | .add => rAdd2 K
  | .mul => rMul2
  | .sub => rI0 fun i j => .int (i - j)
  | .fdiv => rI CDivW fun i j => .int (i / j)
  | .mod => rI (fun _ j => 0 < j) fun i j => .int (i % j)
  | .pow => rI CPow fun i j => .int (i ^ j.toNat)
  | .shr => rI (fun _ j => 0 ≤ j) fun i j => .int (i / 2 ^ j.toNat)
  | .band => rI0 fun i j => .int (Builtin.bitAnd i j)
theorem B_R {X : Cx} (o : B) : OpR X (binaryOp (pyB o)) (rB X.K o) := by
  cases o
  · exact add_R
  · exact op_sub
  · exact mul_R
  · exact op_fdivW
  · exact op_mod
  · exact op_pow
  · exact op_shr
  · exact op_and
theorem B_ok (o : B) (ok : Ok G w) (h1 : Rep G w d1 x) (h2 : Rep G w d2 y) (h : Post G b w (opB o d1 d2 w.st) W σ (KV1 G Q)) : rB G.K o x y w.H Q := by
  cases o
  case add => exact add_ok ok h1 h2 h
  case mul => exact mul_ok ok h1 h2 h
  all_goals
    dsimp only [opB] at h
    split at h
    · cases h1; cases h2
      unfold intC at h
      dsimp only at h
      first
        | exact ⟨_, _, rfl, rfl, h.here ok _ rfl⟩
        | (split at h
           · rename_i hd
             first
               | exact ⟨_, _, rfl, rfl, hd, h.here ok _ rfl⟩
               | (unfold divOk at hd
                  simp only [Bool.and_eq_true, decide_eq_true_eq] at hd
                  exact ⟨_, _, rfl, rfl, hd, h.here ok _ rfl⟩)
               | (unfold powOk at hd
                  simp only [Bool.and_eq_true, decide_eq_true_eq] at hd
                  exact ⟨_, _, rfl, rfl, ⟨hd.1.1, hd.1.2, hd.2⟩, h.here ok _ rfl⟩)
           · exact h.elim)
    · exact h.elim

/-! ### comparisons -/
mutual
theorem dp_of {p : PyData} : ∀ {d : D} {v : V}, At G w d v ∨ Rep G w d v → toP d = some p → Dp G.K w.H v p
  | .non, v, h, e => by cases e; rcases h with h | h <;> cases h <;> exact .non
  | .bl b, v, h, e => by cases e; rcases h with h | h <;> cases h <;> exact .bl b
  | .int b, v, h, e => by cases e; rcases h with h | h <;> cases h <;> exact .int b
  | .str b, v, h, e => by cases e; rcases h with h | h <;> cases h <;> exact .str b
  | .tup xs, v, h, e => by
    unfold toP at e
    cases hx : toPs xs with
    | none => rw [hx] at e; cases e
    | some ps =>
      rw [hx] at e
      cases e
      rcases h with h | h
      · cases h with
        | tup z q => exact .tup z (dps_of q hx)
      · obtain ⟨a, vs, rfl, t, q⟩ := h
        exact .tup t.sq (dps_of q hx)
  | .lst xs, v, h, e => by
    unfold toP at e
    cases hx : toPs xs with
    | none => rw [hx] at e; cases e
    | some ps =>
      rw [hx] at e
      cases e
      rcases h with h | h
      · cases h with
        | lst z q => exact .lst (SqL.of z) (dps_of q hx)
      · obtain ⟨a, vs, rfl, _, z, q⟩ := h
        exact .lst (SqL.of z) (dps_of q hx)
  | .scr ns, v, h, e => by
    cases e
    have core : ∀ {a}, SqL G.K w.H a (ns.map V.int) → Dp G.K w.H (.ref a) (.list (ns.map .int)) := fun {a} z => .lst z (dps_ints ns)
    rcases h with h | h
    · cases h with
      | scr z => exact core z
    · obtain ⟨a, rfl, hr⟩ := h
      rcases hr with ⟨_, z⟩ | z
      · exact core (.inl z)
      · exact core (z _)
  | .dK _, _, _, e => by cases e
  | .dT _, _, _, e => by cases e
  | .ins _ _, _, _, e => by cases e
  | .loc _, _, _, e => by cases e
theorem dps_of : ∀ {ds : List D} {vs : List V} {ps : List PyData}, Reps G w ds vs → toPs ds = some ps → DpAll G.K w.H vs ps
  | [], _, _, h, e => by cases e; cases h; exact .nil
  | x :: xs, _, _, h, e => by
    obtain ⟨v, vr, rfl, h1, h2⟩ := h
    unfold toPs at e
    cases hx : toP x with
    | none => rw [hx] at e; cases e
    | some p =>
      cases hy : toPs xs with
      | none => rw [hx, hy] at e; cases e
      | some ps =>
        rw [hx, hy] at e
        cases e
        exact .cons (dp_of (.inr h1) hx) (dps_of h2 hy)
theorem dps_ints : ∀ ns : List Int, DpAll G.K w.H (ns.map V.int) (ns.map PyData.int)
  | [] => .nil
  | n :: ns => .cons (.int n) (dps_ints ns)
end
theorem toPS_dp (ok : Ok G w) {d : D} {v : V} {p : PyData} (h : Rep G w d v) (e : toPS w.st d = some p) : Dp G.K w.H v p := by
  unfold toPS at e
  cases hl : look w.st d with
  | none => rw [hl] at e; cases e
  | some c => rw [hl] at e; exact dp_of (.inl (At.of ok h hl)) e
/-- == -/
theorem eq_ok (ok : Ok G w) (h1 : Rep G w d1 x) (h2 : Rep G w d2 y) {e : Bool} (h : eqD w.st d1 d2 = some e) :
    ∃ p q, Dp G.K w.H x p ∧ Dp G.K w.H y q ∧ SeqAt.shaped p = true ∧ SeqAt.shaped q = true ∧ e = PyData.eqv p q := by
  unfold eqD at h
  cases hp : toPS w.st d1 with
  | none => rw [hp] at h; cases h
  | some p =>
    cases hq : toPS w.st d2 with
    | none => rw [hp, hq] at h; cases h
    | some q =>
      rw [hp, hq] at h
      have h' : (if SeqAt.shaped p && SeqAt.shaped q then some (PyData.eqv p q) else none) = some e := h
      split at h'
      · rename_i hs
        have hs' := Bool.and_eq_true_iff.mp hs
        exact ⟨p, q, toPS_dp ok h1 hp, toPS_dp ok h2 hq, hs'.1, hs'.2, (Option.some.inj h').symm⟩
      · cases h'
end
end Den
set_option maxHeartbeats 1000000
/-! DOps2: comparisons, in, items, slices. -/
namespace Den
open PySem L2

section
variable {G : Gm} {b : Nat} {w : Wd} {W : WX} {σ : L2.St} {Q : VK} {x y : V} {d1 d2 : D}

/-! ### dicts -/
theorem RepK.val : ∀ {kvs : List (Key × D)} {us : List (Key × V)}, RepK G w kvs us → ∀ k, (dget kvs k = none ∧ valV us k = none) ∨ ∃ d v, dget kvs k = some d ∧ valV us k = some v ∧ Rep G w d v
  | [], _, h, k => by cases h; exact .inl ⟨rfl, rfl⟩
  | (k', d) :: kvs, _, h, k => by
    obtain ⟨v, vr, rfl, h1, h2⟩ := h
    by_cases e : k' = k
    · exact .inr ⟨d, v, by simp [dget, List.find?_cons, e], by simp [valV, List.find?_cons, e], h1⟩
    · have e1 : dget ((k', d) :: kvs) k = dget kvs k := by simp [dget, List.find?_cons, e]
      have e2 : valV ((k', v) :: vr) k = valV vr k := by simp [valV, List.find?_cons, e]
      rw [e1, e2]
      exact RepK.val h2 k
theorem RepT.val : ∀ {kvs : List (List Key × D)} {us : List XE}, RepT G w kvs us → ∀ k, (dget kvs k = none ∧ valX us k = none) ∨ ∃ d v, dget kvs k = some d ∧ valX us k = some v ∧ Rep G w d v
  | [], _, h, k => by cases h; exact .inl ⟨rfl, rfl⟩
  | (k', d) :: kvs, _, h, k => by
    obtain ⟨p, v, vr, rfl, t, h1, h2⟩ := h
    by_cases e : k' = k
    · exact .inr ⟨d, v, by simp [dget, List.find?_cons, e], valX_pos e, h1⟩
    · have e1 : dget ((k', d) :: kvs) k = dget kvs k := by simp [dget, List.find?_cons, e]
      have e2 : valX ((k', p, v) :: vr) k = valX vr k := valX_neg e
      rw [e1, e2]
      exact RepT.val h2 k
theorem toK_rep {d : D} {v : V} {k : Key} (h : Rep G w d v) (e : toK d = some k) : v = kV k := by
  cases d <;> first | (cases e; done) | (cases e; cases h; rfl)
theorem toKs_reps : ∀ {ds : List D} {vs : List V} {ks : List Key}, Reps G w ds vs → toKs ds = some ks → vs = ks.map kV
  | [], _, _, h, e => by cases e; cases h; rfl
  | d :: ds, _, _, h, e => by
    obtain ⟨v, vr, rfl, h1, h2⟩ := h
    unfold toKs at e
    cases hk : toK d with
    | none => rw [hk] at e; cases e
    | some k =>
      cases hks : toKs ds with
      | none => rw [hk, hks] at e; cases e
      | some ks => rw [hk, hks] at e; cases e; rw [toK_rep h1 hk, toKs_reps h2 hks]; rfl
/-- what a dict's look-up gives -/
theorem dlook_get (ok : Ok G w) {c k : D} {v u : V} {o : Option D} (a : At G w c v) (hk : Rep G w k u) (e : dlook c k = some o) :
    ∃ p r, v = .ref p ∧ DGet G.kx w.H p u r ∧ ((o = none ∧ r = none) ∨ ∃ d z, o = some d ∧ r = some z ∧ Rep G w d z) := by
  cases a with
  | dK z q =>
    rename_i kvs p us
    dsimp only [dlook] at e
    cases hk' : toK k with
    | none => rw [hk'] at e; cases e
    | some kk =>
      rw [hk'] at e
      cases e
      refine ⟨p, valV us kk, rfl, .inl ⟨us, kk, z, toK_rep hk hk', rfl⟩, ?_⟩
      rcases q.val kk with ⟨h1, h2⟩ | ⟨d, z, h1, h2, h3⟩
      · exact .inl ⟨h1, h2⟩
      · exact .inr ⟨d, z, h1, h2, h3⟩
  | dT z q =>
    rename_i kvs p us
    dsimp only [dlook] at e
    cases k <;> try (cases e; done)
    rename_i ks
    dsimp only at e
    cases hk' : toKs ks with
    | none => rw [hk'] at e; cases e
    | some kk =>
      rw [hk'] at e
      cases e
      obtain ⟨a, vs, rfl, ta, qa⟩ := hk
      refine ⟨p, valX us kk, rfl, .inr ⟨us, kk, a, z, q.keys, rfl, ?_, rfl⟩, ?_⟩
      · have := toKs_reps qa hk'
        subst this
        exact ta.key
      · rcases q.val kk with ⟨h1, h2⟩ | ⟨d, z, h1, h2, h3⟩
        · exact .inl ⟨h1, h2⟩
        · exact .inr ⟨d, z, h1, h2, h3⟩
  | _ => cases k <;> cases e

/-! ### in -/
def rInAll (kx : Kx) : R2 := fun x y H Q => rInD kx.K x y H Q ∨ rIn kx.K false x y H Q ∨ (∃ i j, x = .str i ∧ y = .str j ∧ Q (.bl (!(Builtin.Str.occurrences j i 0 j.length 1).isEmpty)) H) ∨ ∃ a o, y = .ref a ∧ DGet kx H a x o ∧ Q (.bl o.isSome) H
def rNinAll (kx : Kx) : R2 := fun x y H Q => rNotInD kx.K x y H Q ∨ rIn kx.K true x y H Q ∨ (∃ i j, x = .str i ∧ y = .str j ∧ Q (.bl (!(!(Builtin.Str.occurrences j i 0 j.length 1).isEmpty))) H) ∨ ∃ a o, y = .ref a ∧ DGet kx H a x o ∧ Q (.bl (!o.isSome)) H
theorem in_R {X : Cx} (hu : X.A.units + 65 < cLine) : OpR X (compareOp .In) (rInAll (kxX X)) := by
  refine (op_inD hu).or (op_in_seq.or (op_in_str.or ?_))
  intro pins s σ H x y v u Q I rx ry h
  obtain ⟨a, o, rfl, g, q⟩ := h
  cases ry
  exact d_in (by omega) I g rx fun s' I' => ⟨.bl _, H, I', rfl, q⟩
theorem nin_R {X : Cx} (hu : X.A.units + 65 < cLine) : OpR X (compareOp .NotIn) (rNinAll (kxX X)) := by
  refine (op_notInD hu).or (op_notIn_seq.or (op_notin_str.or ?_))
  intro pins s σ H x y v u Q I rx ry h
  obtain ⟨a, o, rfl, g, q⟩ := h
  cases ry
  exact d_notIn (by omega) I g rx fun s' I' => ⟨.bl _, H, I', rfl, q⟩
theorem flatD_rep {d : D} {v u : V} (h : Rep G w d v) (e : flatD d = some u) : v = u ∧ flatV u = true := by
  cases d <;> first | (cases e; done) | (cases e; cases h; exact ⟨rfl, rfl⟩)
theorem flatDs_rep : ∀ {ds : List D} {vs us : List V}, Reps G w ds vs → flatDs ds = some us → vs = us ∧ us.all flatV = true
  | [], _, _, h, e => by cases e; cases h; exact ⟨rfl, rfl⟩
  | d :: ds, _, _, h, e => by
    obtain ⟨v, vr, rfl, h1, h2⟩ := h
    unfold flatDs at e
    cases hk : flatD d with
    | none => rw [hk] at e; cases e
    | some k =>
      cases hks : flatDs ds with
      | none => rw [hk, hks] at e; cases e
      | some ks =>
        rw [hk, hks] at e
        cases e
        obtain ⟨rfl, f1⟩ := flatD_rep h1 hk
        obtain ⟨rfl, f2⟩ := flatDs_rep h2 hks
        exact ⟨rfl, by simp [f1, f2]⟩
theorem inD_ok (ok : Ok G w) (h1 : Rep G w d1 x) (h2 : Rep G w d2 y) {e : Bool} (h : inD w.st d1 d2 = some e) :
    (Q (.bl e) w.H → rInAll G.kx x y w.H Q) ∧ (Q (.bl (!e)) w.H → rNinAll G.kx x y w.H Q) := by
  unfold inD at h
  cases hl : look w.st d2 with
  | none => rw [hl] at h; cases h
  | some c =>
    rw [hl] at h
    have a := At.of ok h2 hl
    have seqs : ∀ {p ps}, Dp G.K w.H x p → Dp G.K w.H y (.list ps) → inL p ps = some e → (Q (.bl e) w.H → rInAll G.kx x y w.H Q) ∧ (Q (.bl (!e)) w.H → rNinAll G.kx x y w.H Q) := fun {p ps} hp hy hi => by
      unfold inL at hi
      split at hi
      · rename_i hs
        have hs' := Bool.and_eq_true_iff.mp hs
        cases hi
        exact ⟨fun q => .inl ⟨p, ps, hp, hy, hs'.1, hs'.2, q⟩, fun q => .inl ⟨p, ps, hp, hy, hs'.1, hs'.2, q⟩⟩
      · cases hi
    have dicts : ∀ {o}, dlook c d1 = some o → some o.isSome = some e → (Q (.bl e) w.H → rInAll G.kx x y w.H Q) ∧ (Q (.bl (!e)) w.H → rNinAll G.kx x y w.H Q) := fun {o} hd he => by
      cases he
      obtain ⟨p, r, rfl, g, z⟩ := dlook_get ok a h1 hd
      have er : o.isSome = r.isSome := by
        rcases z with ⟨rfl, rfl⟩ | ⟨d, z, rfl, rfl, _⟩ <;> rfl
      exact ⟨fun q => .inr (.inr (.inr ⟨p, r, rfl, g, by rw [← er]; exact q⟩)), fun q => .inr (.inr (.inr ⟨p, r, rfl, g, by rw [← er]; exact q⟩))⟩
    cases a with
    | lst z q =>
      dsimp only [inC] at h
      split at h
      · rename_i p ps e1 e2
        exact seqs (toPS_dp ok h1 e1) (.lst (SqL.of z) (dps_of q e2)) h
      · cases h
    | scr z =>
      dsimp only [inC] at h
      split at h
      · rename_i p e1
        exact seqs (toPS_dp ok h1 e1) (.lst z (dps_ints _)) h
      · cases h
    | tup z q =>
      dsimp only [inC] at h
      split at h
      · rename_i v vs e1 e2
        cases h
        obtain ⟨rfl, f1⟩ := flatD_rep h1 e1
        obtain ⟨rfl, f2⟩ := flatDs_rep q e2
        exact ⟨fun k => .inr (.inl ⟨_, _, rfl, .inr z, f1, f2, k⟩), fun k => .inr (.inl ⟨_, _, rfl, .inr z, f1, f2, k⟩)⟩
      · cases h
    | dK z q =>
      dsimp only [inC] at h
      split at h
      · rename_i o e1; exact dicts e1 h
      · cases h
    | dT z q =>
      dsimp only [inC] at h
      split at h
      · rename_i o e1; exact dicts e1 h
      · cases h
    | str s =>
      dsimp only [inC] at h
      split at h
      · cases h
        cases h1
        exact ⟨fun k => .inr (.inr (.inl ⟨_, _, rfl, rfl, k⟩)), fun k => .inr (.inr (.inl ⟨_, _, rfl, rfl, k⟩))⟩
      · cases h
    | _ => cases h

/-! ### all comparisons -/
def pyC : C → CmpOp
  | .eq => .Eq | .ne => .NotEq | .lt => .Lt | .le => .LtE | .gt => .Gt | .ge => .GtE | .isN => .Is | .notN => .IsNot | .inn => .In | .nin => .NotIn | .isB => .Is | .notB => .IsNot
def rC (kx : Kx) : C → R2
  | .eq => rEqD kx.K
  | .ne => rNeD kx.K
  | .lt => rI0 fun i j => .bl (decide (i < j))
  | .le => rI0 fun i j => .bl (decide (i ≤ j))
  | .gt => rI0 fun i j => .bl (decide (j < i))
  | .ge => rI0 fun i j => .bl (decide (j ≤ i))
  | .isN => fun x y H Q => y = .non ∧ Q (.bl (decide (x = .non))) H
  | .notN => fun x y H Q => y = .non ∧ Q (.bl (!decide (x = .non))) H
  | .inn => rInAll kx
  | .nin => rNinAll kx
  | .isB => rIsB
  | .notB => rNotB
theorem C_R {X : Cx} (hu : X.A.units + 65 < cLine) (o : C) : OpR X (compareOp (pyC o)) (rC (kxX X) o) := by
  cases o
  · exact op_eqD (by omega)
  · exact op_neD (by omega)
  · exact op_lt
  · exact op_le
  · exact op_gt
  · exact op_ge
  · exact op_isN
  · exact op_notN
  · exact in_R hu
  · exact nin_R hu
  · exact op_isBl
  · exact op_notBl
theorem isNon_rep {d : D} {v : V} (h : Rep G w d v) : isNon d = decide (v = .non) := by
  cases d <;> first
    | (cases h; rfl)
    | (obtain ⟨a, _, rfl, _⟩ := h; rfl)
    | (obtain ⟨a, rfl, _⟩ := h; rfl)
    | (obtain ⟨a, _, _, rfl, _⟩ := h; rfl)
    | exact h.elim
theorem C_ok (o : C) (ok : Ok G w) (h1 : Rep G w d1 x) (h2 : Rep G w d2 y) (h : Post G b w (opC o d1 d2 w.st) W σ (KV1 G Q)) : rC G.kx o x y w.H Q := by
  unfold opC at h
  split at h
  · rename_i e he
    have q : Q (.bl e) w.H := h.here ok _ rfl
    cases o
    case eq =>
      obtain ⟨p, r, a1, a2, s1, s2, rfl⟩ := eq_ok ok h1 h2 he
      exact ⟨p, r, a1, a2, s1, s2, q⟩
    case ne =>
      dsimp only [cmpD] at he
      cases hq : eqD w.st d1 d2 with
      | none => rw [hq] at he; cases he
      | some k =>
        rw [hq] at he
        cases he
        obtain ⟨p, r, a1, a2, s1, s2, rfl⟩ := eq_ok ok h1 h2 hq
        exact ⟨p, r, a1, a2, s1, s2, q⟩
    case inn => exact (inD_ok ok h1 h2 he).1 q
    case nin =>
      dsimp only [cmpD] at he
      cases hq : inD w.st d1 d2 with
      | none => rw [hq] at he; cases he
      | some k =>
        rw [hq] at he
        cases he
        exact (inD_ok ok h1 h2 hq).2 q
    case isN =>
      dsimp only [cmpD] at he
      split at he
      · rename_i hn
        cases he
        rw [isNon_rep h2] at hn
        rw [isNon_rep h1] at q
        exact ⟨of_decide_eq_true hn, q⟩
      · cases he
    case isB =>
      dsimp only [cmpD] at he
      split at he
      · cases he
        cases h1; cases h2
        exact ⟨_, _, rfl, rfl, q⟩
      · cases he
    case notB =>
      dsimp only [cmpD] at he
      split at he
      · cases he
        cases h1; cases h2
        exact ⟨_, _, rfl, rfl, q⟩
      · cases he
    case notN =>
      dsimp only [cmpD] at he
      split at he
      · rename_i hn
        cases he
        rw [isNon_rep h2] at hn
        rw [isNon_rep h1] at q
        exact ⟨of_decide_eq_true hn, q⟩
      · cases he
    all_goals
      dsimp only [cmpD] at he
      split at he
      · cases he
        cases h1; cases h2
        exact ⟨_, _, rfl, rfl, q⟩
      · cases he
  · exact h.elim

/-! ### items, slices -/
theorem ixD_at {α : Type} {xs : List α} {i : Int} {v : α} (h : ixD xs i = some v) : atI xs i = some v := by
  unfold ixD at h
  unfold atI ixN
  by_cases h0 : 0 ≤ i
  · rw [if_pos h0] at h ⊢
    have hl := (List.getElem?_eq_some_iff.mp h).1
    rw [if_pos (by omega)]
    exact h
  · rw [if_neg h0] at h ⊢
    by_cases h1 : -(xs.length : Int) ≤ i
    · rw [if_pos h1] at h ⊢; exact h
    · rw [if_neg h1] at h; cases h
theorem Reps.ix {xs : List D} {vs : List V} {i : Int} {d : D} (q : Reps G w xs vs) (h : ixD xs i = some d) : ∃ v, atI vs i = some v ∧ Rep G w d v := by
  have hl := q.length
  have e : ∀ (j : Nat), xs[j]? = some d → ∃ v, vs[j]? = some v ∧ Rep G w d v := fun j z => q.get z
  unfold ixD at h
  unfold atI ixN
  by_cases h0 : 0 ≤ i
  · rw [if_pos h0] at h ⊢
    have hl' := (List.getElem?_eq_some_iff.mp h).1
    rw [if_pos (by omega)]
    exact e _ h
  · rw [if_neg h0] at h ⊢
    by_cases h1 : -(xs.length : Int) ≤ i
    · rw [if_pos h1] at h
      rw [if_pos (by omega)]
      obtain ⟨v, z1, z2⟩ := e _ h
      exact ⟨v, by rw [← hl]; exact z1, z2⟩
    · rw [if_neg h1] at h; cases h
/-- a dict's item -/
def rIxD (kx : Kx) : R2 := fun x y H Q => ∃ a v, x = .ref a ∧ DGet kx H a y (some v) ∧ Q v H
theorem ix_dict {X : Cx} (hu : X.A.units + 65 < cLine) : IxR X (rIxD (kxX X)) := by
  intro value slice pins s σ H x y v u Q I rx ry h hs
  obtain ⟨a, z, rfl, g, q⟩ := h
  cases rx
  exact PyProof.Rows.tail_any (dict_typeIs I g) PySem.F.slot_dict_getitem.lookup (d_getItem (by omega) I g ry fun w' s' I' r' => ⟨z, H, I', r', q⟩) hs
def rIxAll (kx : Kx) : R2 := fun x y H Q => rIx kx.K x y H Q ∨ rIxD kx x y H Q
theorem ix_all {X : Cx} (hu : X.A.units + 65 < cLine) : IxR X (rIxAll (kxX X)) := ix_seq.or (ix_dict hu)
theorem idx_ok (ok : Ok G w) (h1 : Rep G w d1 x) (h2 : Rep G w d2 y) (h : Post G b w (idxD d1 d2 w.st) W σ (KV1 G Q)) : rIxAll G.kx x y w.H Q := by
  unfold idxD at h
  split at h
  · rename_i c hl
    have a := At.of ok h1 hl
    split at h
    · rename_i d hd
      have q : ∀ v, Rep G w d v → Q v w.H := h.here ok
      have dicts : (dlook c d2).bind id = some d → rIxAll G.kx x y w.H Q := fun e => by
        cases ho : dlook c d2 with
        | none => rw [ho] at e; cases e
        | some o =>
          rw [ho] at e
          have e' : o = some d := e
          subst e'
          obtain ⟨p, r, rfl, g, z⟩ := dlook_get ok a h2 ho
          rcases z with ⟨z, _⟩ | ⟨d', z, e1, rfl, e3⟩
          · cases z
          · cases e1
            exact .inr ⟨p, z, rfl, g, q _ e3⟩
      cases a with
      | lst z r =>
        dsimp only [idxC] at hd
        split at hd
        · cases h2
          obtain ⟨v, e1, e2⟩ := r.ix hd
          exact .inl (.inl ⟨_, _, _, v, rfl, rfl, SqL.of z, e1, q v e2⟩)
        · cases hd
      | tup z r =>
        dsimp only [idxC] at hd
        split at hd
        · cases h2
          obtain ⟨v, e1, e2⟩ := r.ix hd
          exact .inl (.inr (.inl ⟨_, _, _, v, rfl, rfl, z, e1, q v e2⟩))
        · cases hd
      | scr z =>
        rename_i ns _
        dsimp only [idxC] at hd
        split at hd
        · rename_i i
          cases h2
          obtain ⟨n, e1, e2⟩ := Option.map_eq_some_iff.mp hd
          subst e2
          have e3 := ixD_at e1
          have e4 : atI (ns.map V.int) i = some (.int n) := by
            unfold atI at e3 ⊢
            rw [List.length_map]
            cases hn : ixN ns.length i with
            | none => rw [hn] at e3; cases e3
            | some j =>
              rw [hn] at e3
              have e3' : ns[j]? = some n := e3
              show (ns.map V.int)[j]? = _
              rw [List.getElem?_map, e3']; rfl
          exact .inl (.inl ⟨_, _, _, _, rfl, rfl, z, e4, q _ rfl⟩)
        · cases hd
      | str s =>
        dsimp only [idxC] at hd
        split at hd
        · cases h2
          split at hd
          · rename_i hz
            obtain ⟨c, e1, e2⟩ := Option.map_eq_some_iff.mp hd
            subst e2
            exact .inl (.inr (.inr ⟨_, _, c, rfl, rfl, by rw [← lim]; exact hz, ixD_at e1, q _ rfl⟩))
          · cases hd
        · cases hd
      | dK z r => exact dicts hd
      | dT z r => exact dicts hd
      | _ => cases hd
    · exact h.elim
  · exact h.elim

def rSlAll (K : PySem.W.Frag) : V → Option Int → Option Int → Hp → VK → Prop := fun x lo hi H Q => (rSlL K x lo hi H Q ∨ rSlT K x lo hi H Q) ∨ rSlS x lo hi H Q
theorem sl_all {X : Cx} : SlR X (rSlAll X.K) := (sl_list.or sl_tup).or sl_str
theorem cut_reps {xs : List D} {vs : List V} (q : Reps G w xs vs) (lo hi : Option Int) : Reps G w (cutD xs lo hi) (cutV vs lo hi) := by
  unfold cutD cutV
  rw [q.length]
  exact (q.drop _).take _
theorem slc_ok (ok : Ok G w) (h1 : Rep G w d1 x) {lo hi : Option Int} (h : Post G b w (slcD d1 lo hi w.st) W σ (KV1 G Q)) : rSlAll G.K x lo hi w.H Q := by
  unfold slcD at h
  split at h
  · rename_i c hl
    have a := At.of ok h1 hl
    split at h
    · rename_i d hd
      cases a with
      | lst z r =>
        cases hd
        exact .inl (.inl ⟨_, _, rfl, SqL.of z, new_lst ok (cut_reps r lo hi) h⟩)
      | scr z =>
        cases hd
        rename_i ns _
        refine .inl (.inl ⟨_, _, rfl, z, ?_⟩)
        have e : cutV (ns.map V.int) lo hi = (cutD ns lo hi).map V.int := by
          unfold cutV cutD
          rw [List.length_map, List.map_take, List.map_drop]
        rw [e]
        exact new_lst ok Reps.ofInts h
      | tup z r =>
        dsimp only [slcC] at hd
        split at hd
        · cases hd
        · rename_i hn
          cases hd
          refine .inl (.inr ⟨_, _, rfl, z, fun k => hn ?_, new_tup ok (cut_reps r lo hi) h⟩)
          unfold wholeD
          rw [r.length, decide_eq_true k.1, decide_eq_true k.2]; rfl
      | str s =>
        dsimp only [slcC] at hd
        split at hd
        · rename_i hn
          cases hd
          exact .inr ⟨s, rfl, by rw [← lim]; exact hn, h.here ok _ rfl⟩
        · cases hd
      | _ => cases hd
    · exact h.elim
  · exact h.elim
end
end Den
set_option maxHeartbeats 1000000
/-! DPrim: built-in functions on values. -/
namespace Den
open PySem L2

section
variable {G : Gm} {b : Nat} {w : Wd} {W : WX} {σ : L2.St} {Q : VK} {x y : V} {d1 d2 : D}

theorem allInts_eq : ∀ {ds : List D} {ns : List Int}, allInts ds = some ns → ds = ns.map D.int
  | [], _, e => by cases e; rfl
  | d :: ds, ns, e => by
    cases d <;> try (cases e; done)
    dsimp only [allInts] at e
    cases h : allInts ds with
    | none => rw [h] at e; cases e
    | some r => rw [h] at e; cases e; rw [allInts_eq h]; rfl
theorem allBls_eq : ∀ {ds : List D} {ns : List Bool}, allBls ds = some ns → ds = ns.map D.bl
  | [], _, e => by cases e; rfl
  | d :: ds, ns, e => by
    cases d <;> try (cases e; done)
    dsimp only [allBls] at e
    cases h : allBls ds with
    | none => rw [h] at e; cases e
    | some r => rw [h] at e; cases e; rw [allBls_eq h]; rfl
theorem Reps.bls : ∀ {ns : List Bool} {vs : List V}, Reps G w (ns.map D.bl) vs → vs = ns.map V.bl
  | [], _, h => h
  | n :: ns, _, h => by obtain ⟨v, vr, rfl, h1, h2⟩ := h; have h1' : v = .bl n := h1; rw [h1', Reps.bls h2]; rfl
/-- a list or tuple of what is told -/
def SeqV (K : PySem.W.Frag) (H : Hp) (x : V) (vs : List V) : Prop := ∃ a, x = .ref a ∧ (SqL K H a vs ∨ SqT K H a vs)
theorem items_seq (ok : Ok G w) (h : Rep G w d1 x) {xs : List D} (e : items w.st d1 = some xs) : ∃ vs, Reps G w xs vs ∧ SeqV G.K w.H x vs := by
  unfold items at e
  cases hl : look w.st d1 with
  | none => rw [hl] at e; cases e
  | some c =>
    rw [hl] at e
    have e' : itemsC c = some xs := e
    cases At.of ok h hl with
    | lst z q => cases e'; exact ⟨_, q, _, rfl, .inl (SqL.of z)⟩
    | tup z q => cases e'; exact ⟨_, q, _, rfl, .inr z⟩
    | scr z => cases e'; exact ⟨_, Reps.ofInts, _, rfl, .inl z⟩
    | _ => cases e'

theorem maxL_mem : ∀ (xs : List Int) (m : Int), maxL m xs ∈ m :: xs ∧ ∀ y ∈ m :: xs, y ≤ maxL m xs
  | [], m => by simp [maxL]
  | x :: xs, m => by
    obtain ⟨h1, h2⟩ := maxL_mem xs (if x > m then x else m)
    have h3 := h2 _ (List.mem_cons_self)
    unfold maxL
    by_cases hx : x > m
    · rw [if_pos hx] at h1 h2 h3 ⊢
      refine ⟨List.mem_cons_of_mem _ h1, fun y hy => ?_⟩
      rcases List.mem_cons.mp hy with h | h
      · omega
      · exact h2 y h
    · rw [if_neg hx] at h1 h2 h3 ⊢
      refine ⟨?_, fun y hy => ?_⟩
      · rcases List.mem_cons.mp h1 with h | h
        · rw [h]; exact List.mem_cons_self
        · exact List.mem_cons_of_mem _ (List.mem_cons_of_mem _ h)
      · rcases List.mem_cons.mp hy with h | h
        · omega
        · rcases List.mem_cons.mp h with h | h
          · omega
          · exact h2 y (List.mem_cons_of_mem _ h)
theorem minL_mem : ∀ (xs : List Int) (m : Int), minL m xs ∈ m :: xs ∧ ∀ y ∈ m :: xs, minL m xs ≤ y
  | [], m => by simp [minL]
  | x :: xs, m => by
    obtain ⟨h1, h2⟩ := minL_mem xs (if x < m then x else m)
    have h3 := h2 _ (List.mem_cons_self)
    unfold minL
    by_cases hx : x < m
    · rw [if_pos hx] at h1 h2 h3 ⊢
      refine ⟨List.mem_cons_of_mem _ h1, fun y hy => ?_⟩
      rcases List.mem_cons.mp hy with h | h
      · omega
      · exact h2 y h
    · rw [if_neg hx] at h1 h2 h3 ⊢
      refine ⟨?_, fun y hy => ?_⟩
      · rcases List.mem_cons.mp h1 with h | h
        · rw [h]; exact List.mem_cons_self
        · exact List.mem_cons_of_mem _ (List.mem_cons_of_mem _ h)
      · rcases List.mem_cons.mp hy with h | h
        · omega
        · rcases List.mem_cons.mp h with h | h
          · omega
          · exact h2 y (List.mem_cons_of_mem _ h)
theorem max_one {xs : List Int} {x m : Int} (h1 : m ∈ x :: xs) (h2 : ∀ y ∈ x :: xs, y ≤ m) : m = maxL x xs := by
  obtain ⟨q1, q2⟩ := maxL_mem xs x
  have := h2 _ q1
  have := q2 _ h1
  omega
theorem min_one {xs : List Int} {x m : Int} (h1 : m ∈ x :: xs) (h2 : ∀ y ∈ x :: xs, m ≤ y) : m = minL x xs := by
  obtain ⟨q1, q2⟩ := minL_mem xs x
  have := h2 _ q1
  have := q2 _ h1
  omega

/-- the model's value, its reading -/
def pyP : P → Value
  | .len => .builtin "len" | .abs => .builtin "abs" | .max2 => .builtin "max" | .min2 => .builtin "min" | .max1 => .builtin "max" | .min1 => .builtin "min"
  | .sum => .builtin "sum" | .lst => .type "list" | .tup => .type "tuple" | .divmod => .builtin "divmod" | .int => .type "int" | .strI => .type "str"
  | .all => .builtin "all" | .any => .builtin "any" | .sorted => .builtin "sorted"
def nmP : P → Str
  | .len => "len" | .abs => "abs" | .max2 => "max" | .min2 => "min" | .max1 => "max" | .min1 => "min"
  | .sum => "sum" | .lst => "list" | .tup => "tuple" | .divmod => "divmod" | .int => "int" | .strI => "str"
  | .all => "all" | .any => "any" | .sorted => "sorted"
def rP (kx : Kx) : P → List V → Hp → VK → Prop
  | .len => fun xs H Q => (∃ x n, xs = [x] ∧ LenV kx.K x H n ∧ Q (.int n) H) ∨ (∃ a kvs, xs = [.ref a] ∧ Rd H a (.dK kvs) ∧ Q (.int kvs.length) H) ∨ ∃ a us, xs = [.ref a] ∧ Rd H a (dX kx.hs a us) ∧ KeysX kx.K H us ∧ Q (.int us.length) H
  | .abs => fun xs H Q => ∃ i, xs = [.int i] ∧ Q (.int (if i < 0 then -i else i)) H
  | .max2 => fun xs H Q => ∃ i j, xs = [.int i, .int j] ∧ Q (.int (if j > i then j else i)) H
  | .min2 => fun xs H Q => ∃ i j, xs = [.int i, .int j] ∧ Q (.int (if j < i then j else i)) H
  | .max1 => rMax kx.K
  | .min1 => rMin kx.K
  | .sum => rSum kx.K
  | .all => rAll kx.K
  | .any => rAny kx.K
  | .lst => fun xs H Q => ∃ p ys, xs = [.ref p] ∧ (SqL kx.K H p ys ∨ SqT kx.K H p ys) ∧ ∀ l, H l = none → Q (.ref l) (upd H l (.lst ys))
  | .tup => fun xs H Q => ∃ p ys, xs = [.ref p] ∧ ((SqL kx.K H p ys ∧ ∀ l, H l = none → Q (.ref l) (upd H l (.tup ys))) ∨ (SqT kx.K H p ys ∧ Q (.ref p) H))
  | .int => fun xs H Q => (∃ i, xs = [.int i] ∧ Q (.int i) H) ∨ ∃ k, xs = [.bl k] ∧ Q (.int (if k then 1 else 0)) H
  | .strI => fun xs H Q => ∃ i, xs = [.int i] ∧ i.natAbs.log2 < 1920 ∧ Q (.str (toString i : String)) H
  | .divmod => fun xs H Q => ∃ i j, xs = [.int i, .int j] ∧ CDivP i j ∧ ∀ p, H p = none → Q (.ref p) (upd H p (.tup [.int (i / j), .int (i % j)]))
  | .sorted => fun _ _ _ => False
theorem len_dk {X : Cx} : CallR X (.builtin "len") (fun xs H Q => ∃ a kvs, xs = [.ref a] ∧ Rd H a (.dK kvs) ∧ Q (.int kvs.length) H) := by
  intro pins s σ H xs us Q I r h
  obtain ⟨a, kvs, rfl, e, q⟩ := h
  obtain ⟨u, rfl, rx⟩ := vals1 r
  cases rx
  exact d_len I e fun t s' I' => ⟨.int _, H, I', ⟨_, rfl⟩, q⟩
theorem len_dt {X : Cx} : CallR X (.builtin "len") (fun xs H Q => ∃ a us, xs = [.ref a] ∧ Rd H a (dX (kxX X).hs a us) ∧ KeysX (kxX X).K H us ∧ Q (.int us.length) H) := by
  intro pins s σ H xs us Q I r h
  obtain ⟨a, kvs, rfl, e, ks, q⟩ := h
  obtain ⟨u, rfl, rx⟩ := vals1 r
  cases rx
  obtain ⟨z, hd, ys, rel, dd⟩ := dx_rd I.hok I.kIn ks e
  have hl : kvs.length = ys.length := Paired.length rel
  refine call_len_dictH hd dd (by rw [sizeLine_eq] at z; omega) ?_
  rw [← hl]
  exact ⟨.int _, H, I.tok _, ⟨_, rfl⟩, q⟩
theorem P_R {X : Cx} (hc : X.calm = true) (p : P) : CallR X (pyP p) (rP (kxX X) p) := by
  cases p
  · exact call_len.or (len_dk.or len_dt)
  · exact call_abs
  · exact call_max2 hc
  · exact call_min2 hc
  · exact cr_max hc
  · exact cr_min hc
  · exact cr_sum hc
  · exact call_list_of
  · exact call_tuple_of
  · exact call_divmodW
  · exact call_int1
  · exact call_str_int
  · exact cr_all hc
  · exact cr_any hc
  · intro pins s σ H xs us Q I r h; exact h.elim
theorem RepK.length : ∀ {kvs : List (Key × D)} {us : List (Key × V)}, RepK G w kvs us → kvs.length = us.length
  | [], _, h => by cases h; rfl
  | (k, d) :: kvs, _, h => by obtain ⟨v, vr, rfl, _, q⟩ := h; simp [RepK.length q]
theorem RepT.length : ∀ {kvs : List (List Key × D)} {us : List XE}, RepT G w kvs us → kvs.length = us.length
  | [], _, h => by cases h; rfl
  | (k, d) :: kvs, _, h => by obtain ⟨p, v, vr, rfl, _, _, q⟩ := h; simp [RepT.length q]
theorem itemsL_seq (ok : Ok G w) (h : Rep G w d1 x) {xs : List D} (e : itemsL w.st d1 = some xs) : ∃ vs, Reps G w xs vs ∧ ∃ a, x = .ref a ∧ SqL G.K w.H a vs := by
  unfold itemsL at e
  cases hl : look w.st d1 with
  | none => rw [hl] at e; cases e
  | some c =>
    rw [hl] at e
    cases At.of ok h hl with
    | lst z q => cases e; exact ⟨_, q, _, rfl, SqL.of z⟩
    | scr z => cases e; exact ⟨_, Reps.ofInts, _, rfl, z⟩
    | _ => cases e
/-- a list of ints, of truths, in the model -/
theorem ints_seq (ok : Ok G w) (h : Rep G w d1 x) {ns : List Int} (e : (itemsL w.st d1).bind allInts = some ns) : ∃ a, x = .ref a ∧ SqL G.K w.H a (ns.map V.int) := by
  cases hi : itemsL w.st d1 with
  | none => rw [hi] at e; cases e
  | some xs =>
    rw [hi] at e
    have e' := allInts_eq (show allInts xs = some ns from e)
    subst e'
    obtain ⟨vs, q, a, rfl, z⟩ := itemsL_seq ok h hi
    rw [q.ints] at z
    exact ⟨a, rfl, z⟩
theorem bls_seq (ok : Ok G w) (h : Rep G w d1 x) {ns : List Bool} (e : (itemsL w.st d1).bind allBls = some ns) : ∃ a, x = .ref a ∧ SqL G.K w.H a (ns.map V.bl) := by
  cases hi : itemsL w.st d1 with
  | none => rw [hi] at e; cases e
  | some xs =>
    rw [hi] at e
    have e' := allBls_eq (show allBls xs = some ns from e)
    subst e'
    obtain ⟨vs, q, a, rfl, z⟩ := itemsL_seq ok h hi
    rw [q.bls] at z
    exact ⟨a, rfl, z⟩
theorem one_rep {vs : List V} (h : Reps G w [d1] vs) : ∃ v, vs = [v] ∧ Rep G w d1 v := by
  obtain ⟨v, vr, rfl, q, e⟩ := h
  cases e
  exact ⟨v, rfl, q⟩
theorem two_rep {vs : List V} (h : Reps G w [d1, d2] vs) : ∃ v u, vs = [v, u] ∧ Rep G w d1 v ∧ Rep G w d2 u := by
  obtain ⟨v, vr, rfl, q, h⟩ := h
  obtain ⟨u, rfl, r⟩ := one_rep h
  exact ⟨v, u, rfl, q, r⟩
theorem P_ok (p : P) (ok : Ok G w) {as : List D} {vs : List V} (h1 : Reps G w as vs) (h : Post G b w (prim p as w.st) W σ (KV1 G Q)) : rP G.kx p vs w.H Q := by
  cases p <;> dsimp only [prim] at h
  case len =>
    split at h
    · obtain ⟨v, rfl, q⟩ := one_rep h1
      split at h
      · rename_i n hn
        have k : Q (.int n) w.H := h.here ok _ rfl
        unfold lenD at hn
        cases hl : look w.st _ with
        | none => rw [hl] at hn; cases hn
        | some c =>
          rw [hl] at hn
          cases At.of ok q hl with
          | lst z r => cases hn; exact .inl ⟨_, _, rfl, .inl ⟨_, SqL.of z, r.length⟩, k⟩
          | tup z r => cases hn; exact .inl ⟨_, _, rfl, .inr ⟨_, z, r.length⟩, k⟩
          | scr z => cases hn; exact .inl ⟨_, _, rfl, .inl ⟨_, z, by simp⟩, k⟩
          | str s =>
            dsimp only at hn
            split at hn
            · rename_i hz
              cases hn
              exact .inl ⟨_, _, rfl, ⟨by rw [← lim]; exact hz, rfl⟩, k⟩
            · cases hn
          | dK z r => cases hn; rw [r.length] at k; exact .inr (.inl ⟨_, _, rfl, z, k⟩)
          | dT z r => cases hn; rw [r.length] at k; exact .inr (.inr ⟨_, _, rfl, z, r.keys, k⟩)
          | _ => cases hn
      · exact h.elim
    · exact h.elim
  case abs =>
    split at h
    · obtain ⟨v, rfl, q⟩ := one_rep h1
      cases q
      exact ⟨_, rfl, h.here ok _ rfl⟩
    · exact h.elim
  case max2 =>
    split at h
    · obtain ⟨v, u, rfl, q, r⟩ := two_rep h1
      cases q; cases r
      exact ⟨_, _, rfl, h.here ok _ rfl⟩
    · exact h.elim
  case min2 =>
    split at h
    · obtain ⟨v, u, rfl, q, r⟩ := two_rep h1
      cases q; cases r
      exact ⟨_, _, rfl, h.here ok _ rfl⟩
    · exact h.elim
  case max1 =>
    split at h
    · obtain ⟨v, rfl, q⟩ := one_rep h1
      split at h
      · rename_i e
        obtain ⟨a, rfl, z⟩ := ints_seq ok q e
        refine ⟨a, _, rfl, z, by simp, fun m m1 m2 => ?_⟩
        rw [max_one m1 m2]
        exact h.here ok _ rfl
      · exact h.elim
    · exact h.elim
  case min1 =>
    split at h
    · obtain ⟨v, rfl, q⟩ := one_rep h1
      split at h
      · rename_i e
        obtain ⟨a, rfl, z⟩ := ints_seq ok q e
        refine ⟨a, _, rfl, z, by simp, fun m m1 m2 => ?_⟩
        rw [min_one m1 m2]
        exact h.here ok _ rfl
      · exact h.elim
    · exact h.elim
  case sum =>
    split at h
    · obtain ⟨v, rfl, q⟩ := one_rep h1
      split at h
      · rename_i e
        obtain ⟨a, rfl, z⟩ := ints_seq ok q e
        exact ⟨a, _, rfl, z, h.here ok _ rfl⟩
      · exact h.elim
    · exact h.elim
  case all =>
    split at h
    · obtain ⟨v, rfl, q⟩ := one_rep h1
      split at h
      · rename_i e
        obtain ⟨a, rfl, z⟩ := bls_seq ok q e
        exact ⟨a, _, rfl, z, h.here ok _ rfl⟩
      · exact h.elim
    · exact h.elim
  case any =>
    split at h
    · obtain ⟨v, rfl, q⟩ := one_rep h1
      split at h
      · rename_i e
        obtain ⟨a, rfl, z⟩ := bls_seq ok q e
        exact ⟨a, _, rfl, z, h.here ok _ rfl⟩
      · exact h.elim
    · exact h.elim
  case lst =>
    split at h
    · obtain ⟨v, rfl, q⟩ := one_rep h1
      split at h
      · rename_i e
        obtain ⟨vs, r, a, rfl, z⟩ := items_seq ok q e
        exact ⟨a, vs, rfl, z, new_lst ok r h⟩
      · exact h.elim
    · exact h.elim
  case tup =>
    split at h
    · obtain ⟨v, rfl, q⟩ := one_rep h1
      split at h
      · rename_i e
        cases At.of ok q e with
        | lst z r => exact ⟨_, _, rfl, .inl ⟨SqL.of z, new_tup ok r h⟩⟩
      · rename_i e
        have e2 := look_tup ok q e
        cases At.of ok q e with
        | tup z r => exact ⟨_, _, rfl, .inr ⟨z, h.here ok _ (by rw [← e2]; exact q)⟩⟩
      · exact h.elim
    · exact h.elim
  case int =>
    split at h
    · obtain ⟨v, rfl, q⟩ := one_rep h1
      cases q
      exact .inl ⟨_, rfl, h.here ok _ rfl⟩
    · obtain ⟨v, rfl, q⟩ := one_rep h1
      cases q
      exact .inr ⟨_, rfl, h.here ok _ rfl⟩
    · exact h.elim
  case strI =>
    split at h
    · split at h
      · rename_i hz
        obtain ⟨v, rfl, q⟩ := one_rep h1
        cases q
        exact ⟨_, rfl, hz, h.here ok _ rfl⟩
      · exact h.elim
    · exact h.elim
  case divmod =>
    split at h
    · split at h
      · rename_i hz
        obtain ⟨v, u, rfl, q, r⟩ := two_rep h1
        cases q; cases r
        unfold divOk at hz
        simp only [Bool.and_eq_true, decide_eq_true_eq] at hz
        exact ⟨_, _, rfl, ⟨hz.1, PyProof.noPylong_of_log2 hz.2⟩, new_tup (xs := [D.int _, D.int _]) ok ⟨_, _, rfl, rfl, _, _, rfl, rfl, rfl⟩ h⟩
      · exact h.elim
    · exact h.elim
  case sorted => exact h.elim
end
end Den
set_option maxHeartbeats 1000000
/-! DExpr: what is looked at of a text (chkE), and that an expression gives what the language says. -/
namespace Den
open PySem L2

/-- what a name of the module means -/
inductive GK where
  | fn (i : Nat) | cls (c : Nat) | xc (c : Nat) | va (k : Nat) | bi
  deriving DecidableEq

/-- a function's text: its names, its scope, the module's names, the level that it may call -/
structure CK where
  N : List Str
  /-- the scope; of a comprehension's block also the written one -/
  sc : Scope
  so : Scope
  gl : List (Str × GK)
  lv : List Nat
  lvl : Nat
  hot : Bool
  /-- names of attributes and methods; methods, __init__ of classes; functions called by a class -/
  at_ : List Str
  mts : List ((Nat × Nat) × Nat)
  inis : List (Nat × Nat)
  cfs : List ((Nat × Nat) × Nat)
  /-- exceptions that may be raised in suites -/
  unc : List Nat
  rz : Bool

def okN (x : Str) : Bool := x != "__debug__" && x != "__classdict__" && x != "__name__"
def visB (sc : Scope) (x : Str) : Bool := match sc.names.lookup x with
  | some .local => true
  | some .cell => true
  | some .free => true
  | _ => false
def glB (sc : Scope) (x : Str) : Bool := sc.names.lookup x == some .globalImplicit
theorem visB_vis {sc : Scope} {x : Str} (h : visB sc x = true) : Vis sc x := by
  unfold visB at h
  unfold Vis
  split at h
  · rename_i e; exact .inl e
  · rename_i e; exact .inr (.inl e)
  · rename_i e; exact .inr (.inr e)
  · cases h
def isBi (ck : CK) (x : Str) : Bool := glB ck.sc x && okN x && (ck.gl.lookup x == some .bi)

/-- no star, no call of super -/
def noStar : Expr → Bool
  | .Starred _ _ => false
  | _ => true
def noSup : Expr → Bool
  | .Call (.Name _ _) [] [] _ => false
  | _ => true
def noSlice : Expr → Bool
  | .Slice _ _ _ _ => false
  | _ => true
def noSet : Expr → Bool
  | .Set _ _ _ => false
  | _ => true
/-- a test whose truth is its value's -/
def plainT : Expr → Bool
  | .UnaryOp .Not _ _ => false
  | .BoolOp _ _ _ => false
  | .IfExp _ _ _ _ => false
  | .Compare _ _ _ _ => false
  | _ => true

def nmTy : Ty → Str
  | .bool => "bool" | .int => "int" | .str => "str" | .tuple => "tuple" | .list => "list" | .dict => "dict" | .valueError => "ValueError"
def idTy : Ty → String
  | .bool => "bool" | .int => "int" | .str => "str" | .tuple => "tuple" | .list => "list" | .dict => "dict" | .valueError => "ValueError"
/-- a class's name -/
def chkTC (ck : CK) : TC → Expr → Bool
  | .ty t, .Name x _ => isBi ck x && (x == nmTy t)
  | .ec c, .Name x _ => glB ck.sc x && okN x && (ck.gl.lookup x == some (.xc c))
  | _, _ => false
/-! targets -/
def slotsT : T → List Nat
  | .nm i => [i]
  | .nil => []
  | .cons a b => slotsT a ++ slotsT b
  | .tp a => slotsT a
def locB (sc : Scope) (x : Str) : Bool := match sc.names.lookup x with
  | some .local => true
  | some .cell => true
  | _ => false
section
variable (ck : CK)
mutual
def chkT : T → Expr → Bool
  | .nm i, .Name x _ => (ck.N[i]? == some x) && locB ck.so x
  | .tp ts, .Tuple es _ _ => !ck.hot && chkTs ts es
  | _, _ => false
def chkTs : T → List Expr → Bool
  | .nil, [] => true
  | .cons t ts, e :: es => noStar e && chkT t e && chkTs ts es
  | _, _ => false
end
end
/-- what an iterable's text asks of -/
def itA (ck : CK) (k : IK) (tg e : Expr) : Option (List Expr) :=
  match k with
  | .seq => if noStar e && noSet e then some [e] else none
  | .tupl => if noStar e && noSet e then some [e] else none
  | .str => if noStar e && noSet e then some [e] else none
  | .rng1 => match e with
    | .Call (.Name x _) [y] [] _ => if (x == "range") && isBi ck x then some [y] else none
    | _ => none
  | .rng2 => match e with
    | .Call (.Name x _) [y, z] [] _ => if (x == "range") && isBi ck x then some [y, z] else none
    | _ => none
  | .rng3 => match e with
    | .Call (.Name x _) [y, z, u] [] _ => if (x == "range") && isBi ck x then some [y, z, u] else none
    | _ => none
  | .enum => match tg, e with
    | .Tuple _ _ _, .Call (.Name x _) [y] [] _ => if (x == "enumerate") && isBi ck x then some [y] else none
    | _, _ => none
  | .zip => match tg, e with
    | .Tuple _ _ _, .Call (.Name x _) [y, z] [] _ => if (x == "zip") && isBi ck x then some [y, z] else none
    | _, _ => none
  | .rev => match e with
    | .Call (.Name x _) [y] [] _ => if (x == "reversed") && isBi ck x then some [y] else none
    | _ => none
  | .keys => if noStar e && noSet e then some [e] else none
  | .items => match tg, e with
    | .Tuple _ _ _, .Call (.Attribute x n ap) [] [] pos => if (n == "items") && noSup x && noStar x && (ap.endLine == pos.line) then some [x] else none
    | _, _ => none
  | _ => none
/-! tests -/
mutual
def tstOk : E → Bool
  | .ife _ _ _ => false
  | .not a => tstOk a
  | .and as => tstOkA as
  | .or as => tstOkA as
  | _ => true
def tstOkA : E → Bool
  | .cons a as => tstOk a && tstOkA as
  | _ => true
end
def ownP (N : List Str) (own : List Nat) : List (Str × Nat) := own.map fun i => (N.getD i ⟨#[]⟩, i)
def CK.blk (ck : CK) (scope : Scope) : CK := { ck with sc := relS scope ck.sc, so := scope, rz := false }

/-- the methods of that name may be called -/
def lvM (ck : CK) (m : Nat) : Bool := ck.mts.all fun p => !(p.1.2 == m) || decide ((ck.lv[p.2]?).getD 1000000 ≤ ck.lvl)
def lvI (ck : CK) (c : Nat) : Bool := (ck.inis.any fun p => p.1 == c) && ck.inis.all fun p => !(p.1 == c) || decide ((ck.lv[p.2]?).getD 1000000 + 1 ≤ ck.lvl)
def nmM : M → Str
  | .append => "append" | .clear => "clear" | .reverse => "reverse" | .extend => "extend" | .pop => "pop" | .popAt => "pop" | .remove => "remove" | .insert => "insert" | .index => "index" | .count => "count"
  | .get1 => "get" | .get2 => "get" | .setdef => "setdefault" | .dpop1 => "pop" | .dpop2 => "pop" | .update => "update"
  | .join => "join" | .split => "split" | .partition => "partition" | .startswith => "startswith" | .replace => "replace" | .zfill => "zfill" | .upper => "upper" | .isdigit => "isdigit"
/-- what makes a new list -/
def ownOk : E → Bool
  | .bin .add _ _ => true
  | .bin .mul _ _ => true
  | _ => false
def ownOkC : E → Bool
  | .pr .lst _ => true
  | _ => false
/-- how many arguments a method takes -/
def arM : M → E → Bool
  | .get1, .cons _ .nil => true
  | .get2, .cons _ (.cons _ .nil) => true
  | .get1, _ => false
  | .get2, _ => false
  | .append, _ => true
  | .clear, _ => true
  | .reverse, _ => true
  | .extend, _ => true
  | .pop, _ => true
  | .insert, _ => true
  | .setdef, _ => true
  | .dpop1, _ => true
  | .update, _ => true
  | .index, _ => true
  | .remove, _ => true
  | .upper, _ => true
  | _, _ => false
def nilA : E → Bool
  | .nil => true
  | _ => false
/-- a display's key, its value: a name, a constant -/
def chkSim (ck : CK) : E → Expr → Bool
  | .var i, .Name x _ => (ck.N[i]? == some x) && visB ck.sc x && okN x
  | .cst .non, .Constant .none _ _ => true
  | .cst (.bl b), .Constant (.bool c) _ _ => b == c
  | .cst (.int i), .Constant (.int j) _ _ => i == j
  | .cst (.str s), .Constant (.str t) _ _ => s == t
  | _, _ => false
def dspA (ck : CK) : E → List (Option Expr) → List Expr → Bool
  | .nil, [], [] => true
  | .cons a (.cons b r), some k :: ks, v :: vs => chkSim ck a k && chkSim ck b v && dspA ck r ks vs
  | _, _, _ => false
mutual
def chkE (ck : CK) : E → Expr → Bool
  | .var i, .Name x _ => (ck.N[i]? == some x) && visB ck.sc x && okN x
  | .cst .non, .Constant .none _ _ => true
  | .cst (.bl b), .Constant (.bool c) _ _ => b == c
  | .cst (.int i), .Constant (.int j) _ _ => i == j
  | .cst (.str s), .Constant (.str t) _ _ => s == t
  | .gl k, .Name x _ => glB ck.sc x && okN x && (ck.gl.lookup x == some (.va k))
  | .un .neg a, .UnaryOp .USub x _ => chkE ck a x
  | .bin o a b, .BinOp x o' y _ => (o' == pyB o) && chkE ck a x && chkE ck b y
  | .cmp o a b, .Compare x [o'] [y] _ => (o' == pyC o) && noSet y && chkE ck a x && chkE ck b y
  | .chn o p a b c, .Compare x [o', p'] [y, z] _ => (o' == pyC o) && (p' == pyC p) && noSet y && noSet z && chkE ck a x && chkE ck b y && chkE ck c z
  | .not a, .UnaryOp .Not x _ => chkE ck a x
  | .and as, .BoolOp .And es _ => !es.isEmpty && chkA ck as es
  | .or as, .BoolOp .Or es _ => !es.isEmpty && chkA ck as es
  | .ife c a b, .IfExp z x y _ => tstOk c && chkE ck c z && chkE ck a x && chkE ck b y
  | .tup as, .Tuple es _ _ => chkA ck as es
  | .lst _ as, .List es _ => chkA ck as es
  | .dnew _ _, .Dict [] [] _ => true
  | .idx a b, .Subscript x y _ => noSlice y && chkE ck a x && chkE ck b y
  | .slc a lo hi, .Subscript x (.Slice l h none _) _ => chkE ck a x && chkO ck lo l && chkO ck hi h
  | .revl a, .Subscript x (.Slice none none (some (.UnaryOp .USub (.Constant (.int 1) _ _) _)) _) _ => chkE ck a x
  | .fld a f, .Attribute x n _ => (ck.at_[f]? == some n) && noSup x && chkE ck a x
  | .fldx i f, .Attribute (.Name y _) n _ => (ck.N[i]? == some y) && visB ck.sc y && okN y && (ck.at_[f]? == some n)
  | .meth a m md as, .Call (.Attribute x n ap) es [] pos => !ck.hot && (ck.at_[m]? == some n) && noSup x && lvM ck m && decide (es.length < 30) && (ap.endLine == pos.line) && chkE ck a x && chkA ck as es
  | .make c md as, .Call (.Name x _) es [] _ => !ck.hot && glB ck.sc x && okN x && (ck.gl.lookup x == some (.cls c)) && lvI ck c && chkA ck as es
  | .bm m a as, .Call (.Attribute x n ap) es [] pos => !ck.hot && (n == nmM m) && noSup x && decide (es.length < 30) && (ap.endLine == pos.line) && arM m as && chkE ck a x && chkA ck as es
  | .iso a c, .Call (.Name x _) [y, .Name z _] [] _ => (x == "isinstance") && isBi ck x && noStar y && glB ck.sc z && okN z && (ck.gl.lookup z == some (.cls c)) && chkE ck a y
  | .ddsp _ t as, .Dict ks vs _ => !t && decide (ks.length = vs.length) && !ks.isEmpty && decide (ks.length ≤ 15) && dspA ck as ks vs
  | .idxx a b, .Call (.Attribute x n ap) [e] [] pos => !ck.hot && (n == "index") && noSup x && noStar e && (ap.endLine == pos.line) && chkE ck a x && chkE ck b e
  | .mxd mx a d, .Call (.Name x _) [e] [⟨some k, z, _⟩] _ => !ck.hot && (x == (if mx then "max" else "min")) && isBi ck x && noStar e && (k == "default") && chkE ck a e && chkE ck d z
  | .own a, .BinOp x o y p => ownOk a && chkE ck a (.BinOp x o y p)
  | .own a, .Call f es ks p => ownOkC a && chkE ck a (.Call f es ks p)
  | .call f md as, .Call (.Attribute (.Name x _) n ap) es [] pos => !ck.hot && glB ck.sc x && okN x && (match ck.gl.lookup x with
      | some (.cls c) => ck.cfs.any fun p => p.1.1 == c && (ck.at_[p.1.2]? == some n) && p.2 == f
      | _ => false) && decide ((ck.lv[f]?).getD 1000000 ≤ ck.lvl) && decide (es.length < 30) && (ap.endLine == pos.line) && !es.isEmpty && chkA ck as es
  | .call f md as, .Call (.Name x _) es [] _ => !ck.hot && glB ck.sc x && okN x && (ck.gl.lookup x == some (.fn f)) && decide ((ck.lv[f]?).getD 1000000 ≤ ck.lvl) && chkA ck as es
  | .pr p as, .Call (.Name x _) es [] _ => !ck.hot && !es.isEmpty && (x == nmP p) && isBi ck x && chkA ck as es
  | .isi a t, .Call (.Name x _) [y, z] [] _ => (x == "isinstance") && isBi ck x && noStar y && noStar z && chkTC ck t z && chkE ck a y
  | .isx i t, .Call (.Name x _) [.Name y _, z] [] _ => (x == "isinstance") && isBi ck x && noStar z && (ck.N[i]? == some y) && visB ck.sc y && okN y && chkTC ck t z
  | .lc _ own tg k as cnd elt, .ListComp x [⟨t, it, ifs, 0⟩] scope _ => !ck.hot && (match itA ck k t it with
      | some es => chkA ck as es
      | none => false) && blkC ck.N ck.sc scope (ownP ck.N own) && ((slotsT tg).all fun i => decide (i ∈ own)) && chkT (ck.blk scope) tg t && (match ifs with
      | [] => (match cnd with
        | .cst (.bl true) => true
        | _ => false)
      | [c] => tstOk cnd && chkE (ck.blk scope) cnd c
      | _ => false) && chkE (ck.blk scope) elt x
  | _, _ => false
def chkA (ck : CK) : E → List Expr → Bool
  | .nil, [] => true
  | .cons a as, e :: es => noStar e && chkE ck a e && chkA ck as es
  | _, _ => false
def chkO (ck : CK) : E → Option Expr → Bool
  | .nil, none => true
  | .cons a .nil, some e => chkE ck a e
  | _, _ => false
end

/-! ### the readings -/
structure Pre (G : Gm) (pn : List (Addr × Obj)) (b : Nat) (w : Wd) (ρ : DEnv) (σ : L2.St) (H : Hp) : Prop where
  H : w.H = H
  ok : Ok G w
  hb : b ≤ w.st.length
  env : EnvOk G pn w ρ σ
theorem Pre.next {G : Gm} {pn : List (Addr × Obj)} {b : Nat} {w w1 : Wd} {ρ : DEnv} {σ : L2.St} {H : Hp} (p : Pre G pn b w ρ σ H) (ok : Ok G w1) (e : Ext b w w1) : Pre G pn b w1 ρ σ w1.H :=
  ⟨rfl, ok, Nat.le_trans p.hb (e.len p.ok ok), p.env.ext e⟩

section
variable (G : Gm) (pg : Pg) (b : Nat) (pn : List (Addr × Obj)) (W : WX)
def tE (ir : E) : TE := fun σ H Q => ∃ w ρ, Pre G pn b w ρ σ H ∧ Post G b w (evE pg b ir ρ w.st) W σ (KV1 G Q)
def tA (ir : E) : TA := fun σ H Q => ∃ w ρ, Pre G pn b w ρ σ H ∧ Post G b w (evA pg b ir ρ w.st) W σ (fun ds w' => ∀ vs, Reps G w' ds vs → Q vs w'.H)
def tO (ir : E) : TO := fun σ H Q => ∃ w ρ, Pre G pn b w ρ σ H ∧ Post G b w (evO pg b ir ρ w.st) W σ (fun o w' => Q o w'.H)
/-- a test -/
def KB1 (Q : Bool → Hp → Prop) : D → Wd → Prop := fun d w' => ∃ c, d = .bl c ∧ Q c w'.H
def tT (ir : E) : TT := fun σ H Q => ∃ w ρ, Pre G pn b w ρ σ H ∧ Post G b w (evE pg b ir ρ w.st) W σ (KB1 Q)
end

/-- the exceptions that names may hold: in suites alone -/
def epn (X : Cx) (ck : CK) : List (Addr × Obj) := if ck.hot then X.pn else []
theorem epn_cold {X : Cx} {ck : CK} (h : ck.hot = false) : epn X ck = [] := by unfold epn; rw [h]; rfl
theorem epn_mem {X : Cx} {ck : CK} {p : Addr × Obj} (h : p ∈ epn X ck) : p ∈ X.pn := by
  unfold epn at h
  split at h
  · exact h
  · cases h
theorem _root_.L2.PE.imp {X : Cx} {e : Expr} {t t' : TE} (h : PE X e t) (f : ∀ σ H Q, t' σ H Q → t σ H Q) : PE X e t' := ⟨fun pins s σ H Q I q => h.run pins s σ H Q I (f σ H Q q)⟩
theorem _root_.L2.PT.imp {X : Cx} {e : Expr} {t t' : TT} (h : PT X e t) (f : ∀ σ H Q, t' σ H Q → t σ H Q) : PT X e t' := ⟨fun pins s σ H Q I q => h.run pins s σ H Q I (f σ H Q q)⟩
theorem _root_.L2.PW.imp {X : Cx} {e : Expr} {t t' : TT} (h : PW X e t) (f : ∀ σ H Q, t' σ H Q → t σ H Q) : PW X e t' := ⟨fun wh pins s σ H Q I q => h.run wh pins s σ H Q I (f σ H Q q)⟩
theorem _root_.L2.PA.imp {X : Cx} {e : List Expr} {t t' : TA} (h : PA X e t) (f : ∀ σ H Q, t' σ H Q → t σ H Q) : PA X e t' := ⟨fun pos pins s σ H Q I q => h.run pos pins s σ H Q I (f σ H Q q)⟩
theorem _root_.L2.PO.imp {X : Cx} {e : Option Expr} {t t' : TO} (h : PO X e t) (f : ∀ σ H Q, t' σ H Q → t σ H Q) : PO X e t' := ⟨fun pins s σ H Q I q => h.run pins s σ H Q I (f σ H Q q)⟩

/-! ### what a function promises -/
def spOf (G : Gm) (fns : Nat → List D → Sto → Nat → Res D) (n i : Nat) : Sp := fun vs H Q E => vs.length = n ∧ ∃ w ds bs, w.H = H ∧ Ok G w ∧ bs ≤ w.st.length ∧ (∀ p ∈ G.gv, Rep G w p.1 p.2) ∧ Reps G w ds vs ∧
  Post G bs w (fns i ds w.st bs) (fun c d _ H => E c d H) [] (KV1 G Q)

/-- a class as a value -/
def tcv (G : Gm) : TC → Value
  | .ty t => .type (idTy t)
  | .ec c => G.xcl c
  | .cl c => .ref (G.cls c)

/-- a function, where it stands -/
def FnAt (X : Cx) (G : Gm) (pg : Pg) (ck : CK) (i : Nat) (f : Addr) : Prop := ∃ (fd : FuncData) (ps : List Str) (k n : Nat), PySem.W.keepIn X.K (.ref f) = true ∧ ck.lv[i]? = some k ∧
    FnOk X.prog X.w X.K X.mg X.base (CXB G X.prog X.w) k f fd ps (spOf G pg.fns n i) ∧ Binds X.K fd ps [] ∧ ps.length = n ∧ ∀ ds st bs, ds.length ≠ n → pg.fns i ds st bs = .stk
/-- what such an __init__ does: self, y: self.f = y -/
def spXi (C : Addr) (f : Str) : Sp := fun vs H Q _ => ∃ a y, vs = [.ref a, y] ∧ H a = some (exo a C none) ∧ ∀ dx, H dx = none → dx ≠ a → Q .non (upd (upd H dx (exd dx [(f, y)])) a (exo a C (some dx)))
structure InsC (K : PySem.W.Frag) (C : Addr) : Prop where
  cl : L2.Cls K C
  ha : PySem.W.findIn K (.ref C) "__class__" = some (some (.builtin "object.__class__"))
  hn : PySem.W.specialIn K (.builtin "object.__class__") "__get__" = some (some (.builtin "getset_descriptor.__get__"))
  ht : PySem.W.takesIn K (.builtin "object.__class__") = some true
  hm : PySem.W.mroIn K C (.type "object") = some true
/-- what is known of the context -/
structure XG (X : Cx) (G : Gm) (pg : Pg) (ck : CK) : Prop where
  kind : X.env.scope.kind = .function
  so : ∀ x k, k ≠ .free → ck.so.names.lookup x = some k → ck.sc.names.lookup x = some k
  cel : ∀ x, ck.so.names.lookup x = some .cell → X.fn x = true
  xc : ∀ x c, ck.gl.lookup x = some (.xc c) → X.mg x = some (G.xcl c) ∧ ∃ C, G.xcl c = .ref C
  kit : ∀ c t r, pg.kit c t = some r → ∃ C, G.xcl c = .ref C ∧ ExcC X.K C ∧ PySem.W.kitOne X.K (.ref C) (tcv G t) = some r
  sub : ∀ c t r, pg.sub c t = some r → PySem.W.exmOne X.K (G.xcl c) (tcv G t) = some r
  unc : ∀ c, ck.unc.contains c = true → ¬ G.cln (G.xcl c)
  cln : ∀ c, pg.cln c = true → G.cln (G.xcl c)
  ve : ∀ c, pg.vE = some c → G.xcl c = .type "ValueError"
  isc : ∀ c d r, pg.isc c d = some r → InsC X.K (G.cls c) ∧ PySem.W.kitOne X.K (.ref (G.cls c)) (.ref (G.cls d)) = some r
  hc : ck.rz = true → L2H.HotC X
  mkx : ∀ c, pg.xf c = some none → ∃ C, G.xcl c = .ref C ∧ Raises X (.ref C) ∧ PySem.W.keepIn X.K (.ref C) = true ∧ ∃ B newId initId bmB, ExcBaseFacts B newId initId bmB ∧ PySem.W.excIn X.K C bmB newId = true
  mkf : ∀ c f, pg.xf c = some (some f) → ∃ C, G.xcl c = .ref C ∧ OexC X.K C ∧ XfC X.K C ∧ PySem.W.findIn X.K (.ref C) (G.fnm f) = some none ∧ ∃ fI fd ps, PySem.W.findIn X.K (.ref C) "__init__" = some (some (.ref fI)) ∧ PySem.W.typeIn X.K (.ref fI) = some (.type "function") ∧
    FnOk X.prog X.w X.K X.mg X.base (CXB G X.prog X.w) 1 fI fd ps (spXi C (G.fnm f)) ∧ Binds X.K fd ps []
  N : X.N = ck.N
  nd : X.N.Nodup
  sc : X.env.scope = ck.sc
  K : X.K = G.K
  hs : (tupleKind (mixKind X.prog X.w)).hash = G.hs
  hu : X.A.units + 65 < cLine
  calm : ck.hot = false → X.calm = true
  room : ck.hot = false → Room ck.lvl X.A
  bi : ∀ x, ck.gl.lookup x = some .bi → X.mg x = none
  va : ∀ x k, ck.gl.lookup x = some (.va k) → ∀ d, pg.gv k = some d → ∃ v u, (d, v) ∈ G.gv ∧ X.mg x = some u ∧ RelV v u
  fn : ∀ x i, ck.gl.lookup x = some (.fn i) → ∃ (f : Addr) (fd : FuncData) (ps : List Str) (k n : Nat), X.mg x = some (.ref f) ∧ PySem.W.keepIn X.K (.ref f) = true ∧ ck.lv[i]? = some k ∧
    FnOk X.prog X.w X.K X.mg X.base (CXB G X.prog X.w) k f fd ps (spOf G pg.fns n i) ∧ Binds X.K fd ps [] ∧ ps.length = n ∧ ∀ ds st bs, ds.length ≠ n → pg.fns i ds st bs = .stk
  at_ : ∀ i x, ck.at_[i]? = some x → G.fnm i = x
  fa : ∀ c f, pg.fa c f = true → L2.Cls X.K (G.cls c) ∧ NoAttr X.K (G.cls c) (G.fnm f)
  mt : ∀ c m i, pg.mt c m = some i → L2.Cls X.K (G.cls c) ∧ ∃ f, Meth X.K (G.cls c) (G.fnm m) f ∧ ((∀ ds st bs, pg.fns i ds st bs = .stk) ∨ (((c, m), i) ∈ ck.mts ∧ FnAt X G pg ck i f))
  ini : ∀ c i, pg.ini c = some i → ∃ f, Mk X.K (G.cls c) f ∧ ((∀ ds st bs, pg.fns i ds st bs = .stk) ∨ ((c, i) ∈ ck.inis ∧ FnAt X G pg ck i f))
  inm : ∀ p ∈ ck.inis, ∃ i, pg.ini p.1 = some i
  cl : ∀ x c, ck.gl.lookup x = some (.cls c) → X.mg x = some (.ref (G.cls c))
  cf : ∀ c m i, ((c, m), i) ∈ ck.cfs → ∃ mc f, PySem.W.readsIn X.K (G.cls c) mc = true ∧ PySem.W.specialIn X.K (.ref (G.cls c)) "__getattribute__" = some (some (.builtin "type.__getattribute__")) ∧
    PySem.W.findCls X.K (.ref (G.cls c)) mc (G.fnm m) = some (.val (.ref f)) ∧ PySem.W.isFn X.K (.ref f) = true ∧ FnAt X G pg ck i f
theorem XG.kx {X : Cx} {G : Gm} {pg : Pg} {ck : CK} (xg : XG X G pg ck) : kxX X = G.kx := by unfold kxX Gm.kx; rw [xg.K, xg.hs]
end Den
set_option maxHeartbeats 1000000
/-! DCall: a call: the callee's own objects go, or one of them stays. -/
namespace Den
open PySem L2

section
variable {G : Gm} {w w' : Wd} {b : Nat} {pg : Pg} {W : WX} {σ : L2.St} {Q : VK} {d : D} {v : V}

/-! ### freezing all that a value holds -/
section
variable {f : Nat → Option D} (hH : w'.H = w.H) (hl : ∀ a, Tk w' a → Tk w a) (hf : ∀ i v d', f i = some d' → Rep G w (.loc i) v → Rep G w' d' v)
include hH hl hf
mutual
theorem Rep.sub : ∀ (d : D) (v : V) (d' : D), subD f d = some d' → Rep G w d v → Rep G w' d' v
  | .non, _, _, e, r => by cases e; exact r
  | .bl _, _, _, e, r => by cases e; exact r
  | .int _, _, _, e, r => by cases e; exact r
  | .str _, _, _, e, r => by cases e; exact r
  | .tup xs, v, d', e, r => by
    obtain ⟨ys, e1, rfl⟩ := Option.map_eq_some_iff.mp e
    obtain ⟨a, vs, e, t, q⟩ := r
    exact ⟨a, vs, e, t.less hH hl, Reps.sub xs vs ys e1 q⟩
  | .lst xs, v, d', e, r => by
    obtain ⟨ys, e1, rfl⟩ := Option.map_eq_some_iff.mp e
    obtain ⟨a, vs, e, k, z, q⟩ := r
    exact ⟨a, vs, e, fun y => k (hl a y), by rw [hH]; exact z, Reps.sub xs vs ys e1 q⟩
  | .dK kvs, v, d', e, r => by
    obtain ⟨ys, e1, rfl⟩ := Option.map_eq_some_iff.mp e
    obtain ⟨a, us, e, k, z, q⟩ := r
    exact ⟨a, us, e, fun y => k (hl a y), by rw [hH]; exact z, RepK.sub kvs us ys e1 q⟩
  | .dT kvs, v, d', e, r => by
    obtain ⟨ys, e1, rfl⟩ := Option.map_eq_some_iff.mp e
    obtain ⟨a, us, e, k, z, q⟩ := r
    exact ⟨a, us, e, fun y => k (hl a y), by rw [hH]; exact z, RepT.sub kvs us ys e1 q⟩
  | .ins c fs, v, d', e, r => by
    obtain ⟨ys, e1, rfl⟩ := Option.map_eq_some_iff.mp e
    obtain ⟨a, dx, us, e, k, z, q⟩ := r
    exact ⟨a, dx, us, e, fun y => k (hl a y), by rw [hH]; exact z, RepF.sub fs us ys e1 q⟩
  | .scr ns, v, d', e, r => by
    cases e
    obtain ⟨a, e, hr⟩ := r
    refine ⟨a, e, ?_⟩
    rcases hr with ⟨k, z⟩ | z
    · exact .inl ⟨fun y => k (hl a y), by rw [hH]; exact z⟩
    · exact .inr z
  | .loc i, v, d', e, r => hf i v d' e r
theorem Reps.sub : ∀ (ds : List D) (vs : List V) (es : List D), subL f ds = some es → Reps G w ds vs → Reps G w' es vs
  | [], _, _, e, r => by cases e; exact r
  | x :: xs, vs, es, e, r => by
    obtain ⟨y, e1, e2⟩ := Option.bind_eq_some_iff.mp e
    obtain ⟨ys, e3, rfl⟩ := Option.map_eq_some_iff.mp e2
    obtain ⟨v, vr, e, q1, q2⟩ := r
    exact ⟨v, vr, e, Rep.sub x v y e1 q1, Reps.sub xs vr ys e3 q2⟩
theorem RepK.sub : ∀ (ds : List (Key × D)) (vs : List (Key × V)) (es : List (Key × D)), subK f ds = some es → RepK G w ds vs → RepK G w' es vs
  | [], _, _, e, r => by cases e; exact r
  | (k, x) :: xs, vs, es, e, r => by
    obtain ⟨y, e1, e2⟩ := Option.bind_eq_some_iff.mp e
    obtain ⟨ys, e3, rfl⟩ := Option.map_eq_some_iff.mp e2
    obtain ⟨v, vr, e, q1, q2⟩ := r
    exact ⟨v, vr, e, Rep.sub x v y e1 q1, RepK.sub xs vr ys e3 q2⟩
theorem RepT.sub : ∀ (ds : List (List Key × D)) (vs : List XE) (es : List (List Key × D)), subT f ds = some es → RepT G w ds vs → RepT G w' es vs
  | [], _, _, e, r => by cases e; exact r
  | (k, x) :: xs, vs, es, e, r => by
    obtain ⟨y, e1, e2⟩ := Option.bind_eq_some_iff.mp e
    obtain ⟨ys, e3, rfl⟩ := Option.map_eq_some_iff.mp e2
    obtain ⟨p, v, vr, e, t, q1, q2⟩ := r
    exact ⟨p, v, vr, e, t.less hH hl, Rep.sub x v y e1 q1, RepT.sub xs vr ys e3 q2⟩
theorem RepF.sub : ∀ (ds : List (Nat × D)) (vs : List (Str × V)) (es : List (Nat × D)), subF f ds = some es → RepF G w ds vs → RepF G w' es vs
  | [], _, _, e, r => by cases e; exact r
  | (k, x) :: xs, vs, es, e, r => by
    obtain ⟨y, e1, e2⟩ := Option.bind_eq_some_iff.mp e
    obtain ⟨ys, e3, rfl⟩ := Option.map_eq_some_iff.mp e2
    obtain ⟨v, vr, e, q1, q2⟩ := r
    exact ⟨v, vr, e, Rep.sub x v y e1 q1, RepF.sub xs vr ys e3 q2⟩
end
end
/-- an object's content, frozen: the object isn't live any more behind it -/
theorem fz_ok {st : Sto} {n : Nat} (ok : Ok G w) (hst : ∀ (i : Nat) (c : D), st[i]? = some (Cell.mu c) → w.st[i]? = some (Cell.mu c)) (hH : w'.H = w.H) (hl : ∀ a, Tk w' a → Tk w a) (hφ : ∀ i a, i < n → w.φ[i]? = some a → w'.φ[i]? = some a)
    (hn : ∀ (i : Nat) (c : D) (a : Addr), n ≤ i → st[i]? = some (Cell.mu c) → w.φ[i]? = some a → ¬ Tk w' a) : ∀ (k i : Nat) (v : V) (d' : D), fzI st n k i = some d' → Rep G w (.loc i) v → Rep G w' d' v
  | 0, _, _, _, e, _ => by cases e
  | k + 1, i, v, d', e, r => by
    unfold fzI at e
    split at e
    · rename_i hi
      cases e
      obtain ⟨a, rfl, z⟩ := r
      exact ⟨a, rfl, hφ i a hi z⟩
    · rename_i hi
      split at e
      · rename_i c hc
        obtain ⟨a, rfl, ha⟩ := r
        have q : RepC G w c a := ok.cell i _ a (hst i c hc) ha
        have nl := hn i c a (by omega) hc ha
        have ih := fz_ok ok hst hH hl hφ hn k
        cases c <;> try exact q.elim
        · obtain ⟨ys, e1, rfl⟩ := Option.map_eq_some_iff.mp e
          obtain ⟨vs, z, q⟩ := q
          exact ⟨a, vs, rfl, nl, by rw [hH]; exact z, Reps.sub hH hl ih _ _ _ e1 q⟩
        · obtain ⟨ys, e1, rfl⟩ := Option.map_eq_some_iff.mp e
          obtain ⟨vs, z, q⟩ := q
          exact ⟨a, vs, rfl, nl, by rw [hH]; exact .inl z, RepK.sub hH hl ih _ _ _ e1 q⟩
        · obtain ⟨ys, e1, rfl⟩ := Option.map_eq_some_iff.mp e
          obtain ⟨vs, z, q⟩ := q
          exact ⟨a, vs, rfl, nl, by rw [hH]; exact .inl z, RepT.sub hH hl ih _ _ _ e1 q⟩
        · obtain ⟨ys, e1, rfl⟩ := Option.map_eq_some_iff.mp e
          obtain ⟨dx, vs, z, q⟩ := q
          exact ⟨a, dx, vs, rfl, nl, by rw [hH]; exact z, RepF.sub hH hl ih _ _ _ e1 q⟩
      · cases e
theorem cut_fz (ok : Ok G w) (n : Nat) : ∀ (k i : Nat) (v : V) (d' : D), fzI w.st n k i = some d' → Rep G w (.loc i) v → Rep G (w.cut n) d' v :=
  fz_ok (w' := w.cut n) ok (fun _ _ h => h) rfl (fun _ => cut_tk) cut_φ fun i c a hi hc ha tk => by
    rcases tk with ⟨j, d, h1, h2⟩ | tk
    · obtain ⟨hj, h2'⟩ := cut_get h2
      have h1' : w.st[j]? = some (.mu d) ∨ w.st[j]? = some (.lk d) := h1.imp (fun z => (cut_get z).2) fun z => (cut_get z).2
      have := ok.inj j i a d c h1' (.inl hc) h2' ha
      omega
    · exact ok.exd a tk ⟨i, c, .inl hc, ha⟩
theorem deep_ok (ok : Ok G w) {n : Nat} {d d' : D} {v : V} (e : deep w.st n d = some d') (r : Rep G w d v) : Rep G (w.cut n) d' v :=
  Rep.sub (w := w) (w' := w.cut n) rfl (fun _ => cut_tk) (cut_fz ok n 8) d v d' e r

/-- the result stays an object: it becomes the n-th -/
theorem moved (ok0 : Ok G w) (ok : Ok G w') (e : Ext w.st.length w w') (hb : b ≤ w.st.length) {j : Nat} {c c' : D} {a : Addr} (hj : ¬ j < w.st.length) (hs : w'.st[j]? = some (Cell.mu c)) (ha : w'.φ[j]? = some a) (hc : deep (w'.st.set j .dead) w.st.length c = some c') :
    Ext b w ⟨w'.φ.take w.st.length ++ [a], w'.st.take w.st.length ++ [.mu c'], w'.H, w'.ex⟩ ∧ Ok G ⟨w'.φ.take w.st.length ++ [a], w'.st.take w.st.length ++ [.mu c'], w'.H, w'.ex⟩ ∧
    Rep G ⟨w'.φ.take w.st.length ++ [a], w'.st.take w.st.length ++ [.mu c'], w'.H, w'.ex⟩ (.loc (w'.st.take w.st.length).length) (.ref a) := by
  have jl : j < w'.st.length := (List.getElem?_eq_some_iff.mp hs).1
  have hn : w.st.length ≤ w'.st.length := e.len ok0 ok
  have tl : (w'.st.take w.st.length).length = w.st.length := by rw [List.length_take]; omega
  have pl : (w'.φ.take w.st.length).length = w.st.length := by rw [List.length_take, ok.len]; omega
  have sc : Scoped w.st.length w'.st := e.sco _ (Nat.le_refl _) ok0.scoped
  have old : ∀ {i : Nat} {k : Cell}, (w'.st.take w.st.length ++ [Cell.mu c'])[i]? = some k → (i < w.st.length ∧ w'.st[i]? = some k) ∨ (i = w.st.length ∧ k = .mu c') := fun {i k} h => by
    by_cases hi : i < w.st.length
    · rw [List.getElem?_append_left (by omega)] at h; exact .inl (cut_get h)
    · rw [List.getElem?_append_right (by omega)] at h
      have : i = w.st.length := by
        have := (List.getElem?_eq_some_iff.mp h).1
        simp at this; omega
      subst this
      rw [tl, Nat.sub_self] at h
      exact .inr ⟨rfl, (Option.some.inj h).symm⟩
  have oldφ : ∀ {i : Nat} {x : Addr}, (w'.φ.take w.st.length ++ [a])[i]? = some x → (i < w.st.length ∧ w'.φ[i]? = some x) ∨ (i = w.st.length ∧ x = a) := fun {i x} h => by
    by_cases hi : i < w.st.length
    · rw [List.getElem?_append_left (by omega)] at h; exact .inl (cut_get h)
    · rw [List.getElem?_append_right (by omega)] at h
      have : i = w.st.length := by
        have := (List.getElem?_eq_some_iff.mp h).1
        simp at this; omega
      subst this
      rw [pl, Nat.sub_self] at h
      exact .inr ⟨rfl, (Option.some.inj h).symm⟩
  have newφ : ∀ {i : Nat} {x : Addr}, i < w.st.length → w'.φ[i]? = some x → (w'.φ.take w.st.length ++ [a])[i]? = some x := fun {i x} hi h => by
    rw [List.getElem?_append_left (by omega)]; exact (List.getElem?_take_of_lt hi).trans h
  let w2 : Wd := ⟨w'.φ.take w.st.length ++ [a], w'.st.take w.st.length ++ [.mu c'], w'.H, w'.ex⟩
  have mid : ∀ {i x k}, ((w2.st[i]? = some (Cell.mu k) ∨ w2.st[i]? = some (Cell.lk k)) → w2.φ[i]? = some x → ∃ i' k', (w'.st[i']? = some (Cell.mu k') ∨ w'.st[i']? = some (Cell.lk k')) ∧ w'.φ[i']? = some x ∧ (i' = i ∧ i < w.st.length ∨ i' = j ∧ i = w.st.length)) := fun {i x k} h1 h2 => by
    rcases oldφ h2 with ⟨hi, z⟩ | ⟨rfl, rfl⟩
    · refine ⟨i, k, ?_, z, .inl ⟨rfl, hi⟩⟩
      rcases h1 with h1 | h1 <;> rcases old h1 with ⟨_, y⟩ | ⟨y, _⟩
      · exact .inl y
      · omega
      · exact .inr y
      · omega
    · exact ⟨j, c, .inl hs, ha, .inr ⟨rfl, rfl⟩⟩
  have lv : ∀ x, Live w2 x → Live w' x := fun x ⟨i, k, h1, h2⟩ => by
    obtain ⟨i', k', h3, h4, _⟩ := mid h1 h2
    exact ⟨i', k', h3, h4⟩
  have tv : ∀ x, Tk w2 x → Tk w' x := fun x h => h.imp (lv x) id
  have mv : ∀ x, Mu w2 x → Mu w' x := fun x ⟨i, k, h1, h2⟩ => by
    rcases oldφ h2 with ⟨hi, z⟩ | ⟨_, rfl⟩
    · rcases old h1 with ⟨_, y⟩ | ⟨y, _⟩
      · exact ⟨i, k, y, z⟩
      · omega
    · exact ⟨j, c, hs, ha⟩
  have less : ∀ i x, i < w.st.length → w'.φ[i]? = some x → w2.φ[i]? = some x := fun i x hi h => newφ hi h
  have setg : ∀ {i : Nat} {k : D}, (w'.st.set j Cell.dead)[i]? = some (Cell.mu k) → i ≠ j ∧ w'.st[i]? = some (.mu k) := fun {i k} h => by
    rw [getElem?_set_ite] at h
    by_cases y : i = j
    · rw [if_pos y, if_pos jl] at h; cases h
    · rw [if_neg y] at h; exact ⟨y, h⟩
  have fz : ∀ (k i : Nat) (v : V) (d' : D), fzI (w'.st.set j Cell.dead) w.st.length k i = some d' → Rep G w' (.loc i) v → Rep G w2 d' v :=
    fz_ok (w' := w2) ok (fun i c h => (setg h).2) rfl tv less fun i k x hi hk hx tk => by
      obtain ⟨nj, hk'⟩ := setg hk
      rcases tk with ⟨i2, k2, h1, h2⟩ | tk
      · obtain ⟨i', k', h3, h4, h5⟩ := mid h1 h2
        have := ok.inj i' i x k' k h3 (.inl hk') h4 hx
        omega
      · exact ok.exd x tk ⟨i, k, .inl hk', hx⟩
  have cell : RepC G w2 c' a := by
    have q : RepC G w' c a := ok.cell j _ a hs ha
    cases c <;> try exact q.elim
    · obtain ⟨ys, e1, rfl⟩ := Option.map_eq_some_iff.mp hc
      obtain ⟨vs, z, q⟩ := q
      exact ⟨vs, z, Reps.sub (w := w') (w' := w2) rfl tv (fz 8) _ _ _ e1 q⟩
    · obtain ⟨ys, e1, rfl⟩ := Option.map_eq_some_iff.mp hc
      obtain ⟨vs, z, q⟩ := q
      exact ⟨vs, z, RepK.sub (w := w') (w' := w2) rfl tv (fz 8) _ _ _ e1 q⟩
    · obtain ⟨ys, e1, rfl⟩ := Option.map_eq_some_iff.mp hc
      obtain ⟨vs, z, q⟩ := q
      exact ⟨vs, z, RepT.sub (w := w') (w' := w2) rfl tv (fz 8) _ _ _ e1 q⟩
    · obtain ⟨ys, e1, rfl⟩ := Option.map_eq_some_iff.mp hc
      obtain ⟨dx, vs, z, q⟩ := q
      exact ⟨dx, vs, z, RepF.sub (w := w') (w' := w2) rfl tv (fz 8) _ _ _ e1 q⟩
  refine ⟨⟨fun i x h => ?_, fun x l => e.live x (tv x l), fun x m => e.mu x (mv x m), fun x o h n => e.keep x o h n, fun k hk s i cc hi h => ?_, fun x hx => e.exm x hx⟩, ⟨?_, fun i cc x h1 h2 => ?_, fun i i2 x k l h1 h2 h3 h4 => ?_, fun x hx l => ok.exd x hx (lv x l), ok.exh⟩, a, rfl, ?_⟩
  · have hi : i < w.st.length := by rw [← ok0.len]; exact (List.getElem?_eq_some_iff.mp h).1
    exact newφ hi (e.pre i x h)
  · rcases old h with ⟨_, y⟩ | ⟨y, _⟩
    · exact e.sco k (Nat.le_trans hk hb) s i cc hi y
    · omega
  · show (w'.φ.take w.st.length ++ [a]).length = (w'.st.take w.st.length ++ [Cell.mu c']).length
    rw [List.length_append, List.length_append, pl, tl]; rfl
  · rcases oldφ h2 with ⟨hi, z⟩ | ⟨rfl, rfl⟩
    · rcases old h1 with ⟨_, y⟩ | ⟨y, _⟩
      · have q := ok.cell i cc x y z
        have cl := sc i cc hi y
        cases cc with
        | dead => trivial
        | mu d => exact RepC.less (w := w') (w' := w2) rfl tv less cl q
        | lk d => exact RepL.less (w := w') (w' := w2) rfl tv less cl q
      · omega
    · rcases old h1 with ⟨y, _⟩ | ⟨_, rfl⟩
      · omega
      · exact cell
  · obtain ⟨i', k', q1, q2, q3⟩ := mid h1 h3
    obtain ⟨j', l', r1, r2, r3⟩ := mid h2 h4
    have := ok.inj i' j' x k' l' q1 r1 q2 r2
    omega
  · show (w'.φ.take w.st.length ++ [a])[(w'.st.take w.st.length).length]? = some a
    rw [tl, List.getElem?_append_right (by omega), pl, Nat.sub_self]; rfl

theorem XFld.deep (ok : Ok G w) {n : Nat} {cls : Value} {fs fs' : List (Nat × D)} {dd : Option Addr} (c : deepF w.st n fs = some fs') (h : XFld G w cls fs dd) : XFld G (w.cut n) cls fs' dd := by
  rcases h with ⟨rfl, h⟩ | ⟨dx, us, h1, h2, h3, h4⟩
  · cases c; exact .inl ⟨rfl, h⟩
  · exact .inr ⟨dx, us, h1, fun l => h2 (cut_tk l), h3, RepF.sub (w := w) (w' := w.cut n) rfl (fun _ => cut_tk) (cut_fz ok n 8) fs us fs' c h4⟩

theorem post_exc {α : Type} {r : Res α} {k : α → Wd → Prop} (h : Post G b w r W σ k) : Post G b w r (fun c d _ H => W c d σ H) [] k := by
  cases r with
  | ok a st => exact h
  | exc c fs st => exact h
  | stk => exact h

/-- the callee's objects go -/
theorem seal_pure (ok0 : Ok G w) (hb : b ≤ w.st.length) {r : Res D} (h : Post G b w (sealP w.st.length r) W σ (KV1 G Q)) : Post G w.st.length w r W σ (KV1 G Q) := by
  cases r with
  | stk => exact h
  | exc c fs st =>
    intro w' cls dd est ok e x
    subst est
    dsimp only [sealP] at h
    split at h
    · rename_i fs' hc
      exact h (w'.cut w.st.length) cls dd rfl (cut_ok ok (e.sco _ (Nat.le_refl _) ok0.scoped)) (cut_ext ok0 e hb) ⟨x.1, x.2.deep ok hc⟩
    · exact h.elim
  | ok d st =>
    intro w' est ok e v r
    subst est
    dsimp only [sealP] at h
    split at h
    · rename_i d' hc
      exact h (w'.cut w.st.length) rfl (cut_ok ok (e.sco _ (Nat.le_refl _) ok0.scoped)) (cut_ext ok0 e hb) v (deep_ok ok hc r)
    · exact h.elim
/-- .. but the result -/
theorem seal_fresh (ok0 : Ok G w) (hb : b ≤ w.st.length) {r : Res D} (h : Post G b w (sealF w.st.length r) W σ (KV1 G Q)) : Post G w.st.length w r W σ (KV1 G Q) := by
  cases r with
  | stk => exact h
  | exc c fs st =>
    intro w' cls dd est ok e x
    subst est
    dsimp only [sealF] at h
    split at h
    · rename_i fs' hc
      exact h (w'.cut w.st.length) cls dd rfl (cut_ok ok (e.sco _ (Nat.le_refl _) ok0.scoped)) (cut_ext ok0 e hb) ⟨x.1, x.2.deep ok hc⟩
    · exact h.elim
  | ok d st =>
    intro w' est ok e v r
    subst est
    cases d <;> try exact h.elim
    rename_i j
    dsimp only [sealF] at h
    split at h
    · exact h.elim
    · rename_i hj
      split at h
      · rename_i c hc
        split at h
        · rename_i c' hcl
          obtain ⟨a, rfl, ha⟩ := r
          obtain ⟨e2, ok2, r2⟩ := moved (b := b) ok0 ok e hb hj hc ha hcl
          exact h ⟨_, _, w'.H, w'.ex⟩ rfl ok2 e2 _ r2
        · exact h.elim
      · exact h.elim

theorem call_ok {pn : List (Addr × Obj)} {ρ : DEnv} {H : Hp} (p : Pre G pn b w ρ σ H) {f n : Nat} {md : Mode} {ds : List D} {vs : List V} (hn : vs.length = n) (r : Reps G w ds vs)
    (h : Post G b w (callM pg f md ds w.st b) W σ (KV1 G Q)) : spOf G pg.fns n f vs w.H Q (fun c d H => W c d σ H) := by
  cases md with
  | pure => exact ⟨hn, w, ds, w.st.length, rfl, p.ok, Nat.le_refl _, p.env.glob, r, post_exc (seal_pure p.ok p.hb h)⟩
  | fresh => exact ⟨hn, w, ds, w.st.length, rfl, p.ok, Nat.le_refl _, p.env.glob, r, post_exc (seal_fresh p.ok p.hb h)⟩
  | keep => exact ⟨hn, w, ds, b, rfl, p.ok, p.hb, p.env.glob, r, post_exc h⟩
end
end Den
set_option maxHeartbeats 2000000
/-! DExpr2: expressions. -/
namespace Den
open PySem L2

theorem star_cons {e : Expr} {es : List Expr} {env : Env} (h : noStar e = true) : starEach (e :: es) env = (false, eval e env) :: starEach es env := by
  cases e <;> first | rfl | cases h
theorem chkA_stars {ck : CK} {env : Env} {pos : Pos} : ∀ {as : E} {es : List Expr}, chkA ck as es = true → (starEach es env).any (·.1) = false
  | .nil, [], _ => rfl
  | .cons a as, e :: es, h => by
    have h' := (Bool.and_eq_true_iff.mp h)
    have h1 := (Bool.and_eq_true_iff.mp h'.1).1
    rw [star_cons h1, List.any_cons, chkA_stars (pos := pos) h'.2]; rfl
  | .nil, _ :: _, h => by cases h
  | .cons _ _, [], h => by cases h
theorem back_any {pos : Pos} (l : List (Bool × Sem Value)) : (backTo pos l).any (·.1) = l.any (·.1) := by
  unfold backTo
  induction l with
  | nil => rfl
  | cons x r ih => simp_all
theorem isTrue_plainT {e : Expr} {env : Env} (h : plainT e = true) : ∀ whole, isTrue e env whole = (do let v ← whole; standAt e.pos; holding [v] (truthy v)) := by
  intro whole
  cases e <;> first
    | rfl
    | (cases h; done)
    | (rename_i op _ _; cases op <;> first | rfl | cases h)
theorem attr_plain {o : Expr} {f : Str} {env : Env} (h : noSup o = true) : attributeBase o f env (eval o env) = eval o env := by
  cases o with
  | Call g as ks p =>
    cases g <;> try rfl
    cases as <;> try rfl
    cases ks <;> try rfl
    cases h
  | _ => rfl
theorem slice_plain {b : Expr} (h : noSlice b = true) : PlainIx b := by
  intro o i
  cases b <;> first | rfl | cases h
theorem mark_plain {op : CmpOp} {b : Expr} (h : noSet b = true) : behindInMarks op b = false := by
  cases b <;> first | rfl | cases h
theorem okN_d {x : Str} (h : okN x = true) : (x == ("__debug__" : Str)) = false := by
  unfold okN at h
  simp only [Bool.and_eq_true, bne_iff_ne, ne_eq] at h
  simp [h.1.1]
theorem okN_c {x : Str} (h : okN x = true) : (x == ("__classdict__" : Str)) = false := by
  unfold okN at h
  simp only [Bool.and_eq_true, bne_iff_ne, ne_eq] at h
  simp [h.1.2]
theorem okN_n {x : Str} (h : okN x = true) : x ≠ "__name__" := by
  unfold okN at h
  simp only [Bool.and_eq_true, bne_iff_ne, ne_eq] at h
  exact h.2

section
variable {G : Gm} {pg : Pg} {b : Nat} {pn : List (Addr × Obj)} {W : WX} {w : Wd} {ρ : DEnv} {σ : L2.St} {H : Hp} {Q : VK}
/-- a first part's reading from the whole's -/
theorem tE.of {a : E} {k : D → Wd → Prop} (p : Pre G pn b w ρ σ H) (h : Post G b w (evE pg b a ρ w.st) W σ k) (f : ∀ d w1 v, Pre G pn b w1 ρ σ w1.H → Ext b w w1 → k d w1 → Rep G w1 d v → Q v w1.H) : tE G pg b pn W a σ H Q :=
  ⟨w, ρ, p, h.mono fun d w1 ok e q v r => f d w1 v (p.next ok e) e q r⟩
theorem tT.of {a : E} {Q : Bool → Hp → Prop} {k : D → Wd → Prop} (p : Pre G pn b w ρ σ H) (h : Post G b w (evE pg b a ρ w.st) W σ k) (f : ∀ d w1, Pre G pn b w1 ρ σ w1.H → Ext b w w1 → k d w1 → ∃ c, d = .bl c ∧ Q c w1.H) : tT G pg b pn W a σ H Q :=
  ⟨w, ρ, p, h.mono fun d w1 ok e q => f d w1 (p.next ok e) e q⟩
theorem tA.of {a : E} {Q : List V → Hp → Prop} {k : List D → Wd → Prop} (p : Pre G pn b w ρ σ H) (h : Post G b w (evA pg b a ρ w.st) W σ k) (f : ∀ d w1 v, Pre G pn b w1 ρ σ w1.H → Ext b w w1 → k d w1 → Reps G w1 d v → Q v w1.H) : tA G pg b pn W a σ H Q :=
  ⟨w, ρ, p, h.mono fun d w1 ok e q v r => f d w1 v (p.next ok e) e q r⟩
theorem tO.of {a : E} {Q : Option Int → Hp → Prop} {k : Option Int → Wd → Prop} (p : Pre G pn b w ρ σ H) (h : Post G b w (evO pg b a ρ w.st) W σ k) (f : ∀ d w1, Pre G pn b w1 ρ σ w1.H → Ext b w w1 → k d w1 → Q d w1.H) : tO G pg b pn W a σ H Q :=
  ⟨w, ρ, p, h.mono fun d w1 ok e q => f d w1 (p.next ok e) e q⟩
/-- a test's reading as a value's -/
theorem tT.val {a : E} {Q : Bool → Hp → Prop} (h : tT G pg b pn W a σ H Q) : tE G pg b pn W a σ H (fun x H' => ∃ k, x = .bl k ∧ Q k H') := by
  obtain ⟨w, ρ, p, h⟩ := h
  refine tE.of p h fun d w1 v _ _ q r => ?_
  obtain ⟨c, rfl, q⟩ := q
  cases r
  exact ⟨c, rfl, q⟩
end

section
variable {G : Gm} {pg : Pg} {b : Nat}
variable {X : Cx} {ck : CK} {W : WX}
/-- a test by its value -/
theorem pt_plain {e : Expr} {ir : E} (h : plainT e = true) (he : PE X e (tE G pg b (epn X ck) W ir)) : PT X e (tT G pg b (epn X ck) W ir) := by
  refine (pt_val he (isTrue_plainT h)).imp fun σ H Q q => ?_
  exact q.val

theorem hKr {X : Cx} {G : Gm} {f : Value → Value → Sem Value} {r : PySem.W.Frag → R2} (h : X.K = G.K) (q : OpR X f (r X.K)) : OpR X f (r G.K) := h ▸ q

/-- the parts of a text: what a sub-expression is to give -/
abbrev SE (G : Gm) (pg : Pg) (b : Nat) (ir : E) : Prop := ∀ (X : Cx) (ck : CK) (W : WX), XG X G pg ck → TkB G X W → ∀ e, chkE ck ir e = true → PE X e (tE G pg b (epn X ck) W ir)
abbrev SA (G : Gm) (pg : Pg) (b : Nat) (ir : E) : Prop := ∀ (X : Cx) (ck : CK) (W : WX), XG X G pg ck → TkB G X W → ∀ es, chkA ck ir es = true → PA X es (tA G pg b (epn X ck) W ir)
abbrev SO (G : Gm) (pg : Pg) (b : Nat) (ir : E) : Prop := ∀ (X : Cx) (ck : CK) (W : WX), XG X G pg ck → TkB G X W → ∀ o, chkO ck ir o = true → PO X o (tO G pg b (epn X ck) W ir)

theorem s_var (i : Nat) : SE G pg b (.var i) := fun X ck W xg tk e h => by
  cases e <;> try (exact (Bool.false_ne_true h).elim)
  rename_i x pos
  have h' := Bool.and_eq_true_iff.mp h
  have h1 := Bool.and_eq_true_iff.mp h'.1
  refine (pe_var (i := i) (by rw [xg.N]; exact beq_iff_eq.mp h1.1) (by rw [xg.sc]; exact visB_vis h1.2) (okN_d h'.2) (okN_c h'.2)).imp fun σ H Q ⟨w, ρ, p, q⟩ => ?_
  cases hi : ρ[i]? with
  | none => dsimp only [evE] at q; rw [hi] at q; exact q.elim
  | some o =>
    cases o with
    | no => dsimp only [evE] at q; rw [hi] at q; exact q.elim
    | x c fs => dsimp only [evE] at q; rw [hi] at q; exact q.elim
    | v d =>
      obtain ⟨v, hv, r⟩ := p.env.slot i _ hi (fun z => nomatch z)
      refine ⟨v, hv, ?_⟩
      rw [← p.H]
      dsimp only [evE] at q
      rw [hi] at q
      exact q.here p.ok v r
theorem s_gl (k : Nat) : SE G pg b (.gl k) := fun X ck W xg tk e h => by
  cases e <;> try (exact (Bool.false_ne_true h).elim)
  rename_i x pos
  have h' := Bool.and_eq_true_iff.mp h
  have h1 := Bool.and_eq_true_iff.mp h'.1
  cases hd : pg.gv k with
  | none =>
    refine ⟨fun pins s σ H Q I q => ?_⟩
    obtain ⟨w, ρ, p, q⟩ := q
    dsimp only [evE] at q
    rw [hd] at q
    exact q.elim
  | some d =>
    obtain ⟨v, u, hm, hg, hr⟩ := xg.va x k (beq_iff_eq.mp h'.2) d hd
    refine (pe_glob (v := v) (by unfold Gl Env.kindOf; rw [xg.sc]; exact beq_iff_eq.mp h1.1) hg hr (okN_d h1.2)).imp fun σ H Q ⟨w, ρ, p, q⟩ => ?_
    dsimp only [evE] at q
    rw [hd] at q
    show Q v H
    rw [← p.H]
    exact q.here p.ok v (p.env.glob _ hm)
theorem s_cst (d : D) : SE G pg b (.cst d) := fun X ck W xg tk e h => by
  cases e <;> try (cases d <;> exact (Bool.false_ne_true h).elim)
  rename_i c k pos
  cases d <;> cases c <;> try (exact (Bool.false_ne_true h).elim)
  · exact pe_non.imp fun σ H Q ⟨w, ρ, p, q⟩ => by rw [← p.H]; exact q.here p.ok _ rfl
  · have e := beq_iff_eq.mp h; subst e; exact pe_bl.imp fun σ H Q ⟨w, ρ, p, q⟩ => by rw [← p.H]; exact q.here p.ok _ rfl
  · have e := beq_iff_eq.mp h; subst e; exact pe_int.imp fun σ H Q ⟨w, ρ, p, q⟩ => by rw [← p.H]; exact q.here p.ok _ rfl
  · have e := beq_iff_eq.mp h; subst e; exact pe_str.imp fun σ H Q ⟨w, ρ, p, q⟩ => by rw [← p.H]; exact q.here p.ok _ rfl
theorem s_un {o : U} {a : E} (sa : SE G pg b a) : SE G pg b (.un o a) := fun X ck W xg tk e h => by
  cases o
  cases e <;> try (exact (Bool.false_ne_true h).elim)
  rename_i op x pos
  cases op <;> try (exact (Bool.false_ne_true h).elim)
  refine (pe_un un_neg (sa X ck W xg tk x h)).imp fun σ H Q ⟨w, ρ, p, q⟩ => ?_
  refine tE.of p q.bind fun d w1 v p1 e1 k1 r1 => ?_
  unfold opU at k1
  cases d <;> try (exact k1.elim)
  cases r1
  exact ⟨_, rfl, k1.here p1.ok _ rfl⟩
theorem s_bin {o : B} {a c : E} (sa : SE G pg b a) (sb : SE G pg b c) : SE G pg b (.bin o a c) := fun X ck W xg tk e h => by
  cases e <;> try (exact (Bool.false_ne_true h).elim)
  rename_i x op y pos
  have h' := Bool.and_eq_true_iff.mp h
  have h1 := Bool.and_eq_true_iff.mp h'.1
  have eo := beq_iff_eq.mp h1.1
  subst eo
  refine (pe_op (xg.K ▸ B_R o : OpR X _ (rB G.K o)) (sa X ck W xg tk x h1.2) (sb X ck W xg tk y h'.2)).imp fun σ H Q ⟨w, ρ, p, q⟩ => ?_
  refine tE.of p q.bind fun d1 w1 v1 p1 e1 k1 r1 => tE.of p1 k1.bind fun d2 w2 v2 p2 e2 k2 r2 => ?_
  exact B_ok o p2.ok (Rep.ext e2 _ _ r1) r2 k2
theorem s_cmp {o : C} {a c : E} (sa : SE G pg b a) (sb : SE G pg b c) : SE G pg b (.cmp o a c) := fun X ck W xg tk e h => by
  cases e <;> try (exact (Bool.false_ne_true h).elim)
  rename_i x ops ys pos
  match ops, ys, h with
  | [op], [y], h =>
    have h' := Bool.and_eq_true_iff.mp h
    have h1 := Bool.and_eq_true_iff.mp h'.1
    have h2 := Bool.and_eq_true_iff.mp h1.1
    have eo := beq_iff_eq.mp h2.1
    subst eo
    refine (pe_cmpR (xg.kx ▸ C_R xg.hu o : OpR X _ (rC G.kx o)) (sa X ck W xg tk x h1.2) (sb X ck W xg tk y h'.2) (mark_plain h2.2)).imp fun σ H Q ⟨w, ρ, p, q⟩ => ?_
    refine tE.of p q.bind fun d1 w1 v1 p1 e1 k1 r1 => tE.of p1 k1.bind fun d2 w2 v2 p2 e2 k2 r2 => ?_
    exact C_ok o p2.ok (Rep.ext e2 _ _ r1) r2 k2
  | [], _, h => exact (Bool.false_ne_true h).elim
  | [_], [], h => exact (Bool.false_ne_true h).elim
  | [_], _ :: _ :: _, h => exact (Bool.false_ne_true h).elim
  | _ :: _ :: _, _, h => exact (Bool.false_ne_true h).elim
/-- .. as a test -/
theorem t_cmp {o : C} {a c : E} (sa : SE G pg b a) (sb : SE G pg b c) (X : Cx) (ck : CK) (W : WX) (xg : XG X G pg ck) (tk : TkB G X W) (e : Expr) (h : chkE ck (.cmp o a c) e = true) : PT X e (tT G pg b (epn X ck) W (.cmp o a c)) := by
  cases e <;> try (exact (Bool.false_ne_true h).elim)
  rename_i x ops ys pos
  match ops, ys, h with
  | [op], [y], h =>
    have h' := Bool.and_eq_true_iff.mp h
    have h1 := Bool.and_eq_true_iff.mp h'.1
    have h2 := Bool.and_eq_true_iff.mp h1.1
    have eo := beq_iff_eq.mp h2.1
    subst eo
    refine (pt_cmpR (xg.kx ▸ C_R xg.hu o : OpR X _ (rC G.kx o)) (sa X ck W xg tk x h1.2) (sb X ck W xg tk y h'.2) (mark_plain h2.2)).imp fun σ H Q q => ?_
    obtain ⟨w, ρ, p, q⟩ := q.val
    refine tE.of p q.bind fun d1 w1 v1 p1 e1 k1 r1 => tE.of p1 k1.bind fun d2 w2 v2 p2 e2 k2 r2 => ?_
    exact C_ok o p2.ok (Rep.ext e2 _ _ r1) r2 k2
  | [], _, h => exact (Bool.false_ne_true h).elim
  | [_], [], h => exact (Bool.false_ne_true h).elim
  | [_], _ :: _ :: _, h => exact (Bool.false_ne_true h).elim
  | _ :: _ :: _, _, h => exact (Bool.false_ne_true h).elim
theorem chain_ok {o o' : C} {a c d : E} {pn : List (Addr × Obj)} {σ : L2.St} {H : Hp} {Q : VK} (q : tE G pg b pn W (.chn o o' a c d) σ H Q) : tChain (rC G.kx o) (rC G.kx o') (tE G pg b pn W a) (tE G pg b pn W c) (tE G pg b pn W d) σ H Q := by
  obtain ⟨w, ρ, p, q⟩ := q
  refine tE.of p q.bind fun d1 w1 v1 p1 e1 k1 r1 => tE.of p1 k1.bind fun d2 w2 v2 p2 e2 k2 r2 => ?_
  refine C_ok o p2.ok (Rep.ext e2 _ _ r1) r2 (k2.bind.mono fun z w3 ok3 e3 k3 v3 r3 => ?_)
  have p3 := p2.next ok3 e3
  cases z <;> try (exact k3.elim)
  rename_i t
  cases r3
  refine ⟨t, rfl, ?_⟩
  cases t with
  | true =>
    rw [if_pos rfl]
    refine tE.of p3 (Post.bind k3) fun d4 w4 v4 p4 e4 k4 r4 => ?_
    exact C_ok o' p4.ok (Rep.ext e4 _ _ (Rep.ext e3 _ _ r2)) r4 k4
  | false =>
    rw [if_neg Bool.false_ne_true]
    exact Post.here ok3 k3 _ rfl
theorem s_chn {o o' : C} {a c d : E} (sa : SE G pg b a) (sb : SE G pg b c) (sc : SE G pg b d) : SE G pg b (.chn o o' a c d) := fun X ck W xg tk e h => by
  cases e <;> try (exact (Bool.false_ne_true h).elim)
  rename_i x ops ys pos
  match ops, ys, h with
  | [op, op'], [y, z], h =>
    simp only [chkE, Bool.and_eq_true, beq_iff_eq] at h
    obtain ⟨⟨⟨⟨⟨⟨h1, h2⟩, h3⟩, h4⟩, h5⟩, h6⟩, h7⟩ := h
    subst h1 h2
    have hm : lastMarks [pyC o, pyC o'] [y, z] = false := mark_plain h4
    exact (pe_chain (xg.kx ▸ C_R xg.hu o : OpR X _ (rC G.kx o)) (xg.kx ▸ C_R xg.hu o' : OpR X _ (rC G.kx o')) (sa X ck W xg tk x h5) (sb X ck W xg tk y h6) (sc X ck W xg tk z h7) hm).imp fun σ H Q q => chain_ok q
  | [], _, h => exact (Bool.false_ne_true h).elim
  | [_], _, h => exact (Bool.false_ne_true h).elim
  | [_, _], [], h => exact (Bool.false_ne_true h).elim
  | [_, _], [_], h => exact (Bool.false_ne_true h).elim
  | [_, _], _ :: _ :: _ :: _, h => exact (Bool.false_ne_true h).elim
  | _ :: _ :: _ :: _, _, h => exact (Bool.false_ne_true h).elim
end
end Den
set_option maxHeartbeats 2000000
/-! DExpr3: further expressions; tests. -/
namespace Den
open PySem L2

section
variable {G : Gm} {pg : Pg} {b : Nat}
theorem s_not {a : E} (sa : SE G pg b a) : SE G pg b (.not a) := fun X ck W xg tk e h => by
  cases e <;> try (exact (Bool.false_ne_true h).elim)
  rename_i op x pos
  cases op <;> try (exact (Bool.false_ne_true h).elim)
  refine (pe_not (sa X ck W xg tk x h)).imp fun σ H Q ⟨w, ρ, p, q⟩ => ?_
  refine tE.of p q.bind fun d w1 v p1 e1 k1 r1 => ?_
  cases d <;> try (exact k1.elim)
  cases r1
  exact ⟨_, rfl, k1.here p1.ok _ rfl⟩
/-- and, or: over the list of parts -/
def tAnds (G : Gm) (pg : Pg) (b : Nat) (pn : List (Addr × Obj)) (W : WX) (as : E) : TE := fun σ H Q => ∃ w ρ, Pre G pn b w ρ σ H ∧ Post G b w (evAnd pg b as ρ w.st) W σ (KV1 G Q)
def tOrs (G : Gm) (pg : Pg) (b : Nat) (pn : List (Addr × Obj)) (W : WX) (as : E) : TE := fun σ H Q => ∃ w ρ, Pre G pn b w ρ σ H ∧ Post G b w (evOr pg b as ρ w.st) W σ (KV1 G Q)
/-- each part of a list of parts -/
def EachE (P : E → Prop) : E → Prop
  | .cons a as => P a ∧ EachE P as
  | _ => True
theorem ands {as : E} (sa : EachE (SE G pg b) as) {X : Cx} {ck : CK} {W : WX} (xg : XG X G pg ck) (tk : TkB G X W) {pos : Pos} : ∀ {es : List Expr}, chkA ck as es = true → es ≠ [] → PE X (.BoolOp .And es pos) (tAnds G pg b (epn X ck) W as) := by
  induction as with
  | cons a as _ ih =>
    intro es h hne
    cases es with
    | nil => cases h
    | cons e es =>
      have h' := Bool.and_eq_true_iff.mp h
      have h1 := Bool.and_eq_true_iff.mp h'.1
      cases es with
      | nil =>
        refine (pe_one (sa.1 X ck W xg tk e h1.2)).imp fun σ H Q ⟨w, ρ, p, q⟩ => ?_
        refine tE.of p q.bind fun d w1 v p1 e1 k1 r1 => ?_
        cases d <;> try (exact k1.elim)
        rename_i c
        cases r1
        cases c with
        | true =>
          cases as <;> try (exact (Bool.false_ne_true h'.2).elim)
          exact Post.here p1.ok k1 _ rfl
        | false => exact Post.here p1.ok k1 _ rfl
      | cons e2 es =>
        refine (pe_and (sa.1 X ck W xg tk e h1.2) (ih sa.2 h'.2 (by simp))).imp fun σ H Q ⟨w, ρ, p, q⟩ => ?_
        refine tE.of p q.bind fun d w1 v p1 e1 k1 r1 => ?_
        cases d <;> try (exact k1.elim)
        rename_i c
        cases r1
        refine ⟨c, rfl, ?_⟩
        cases c with
        | true => rw [if_pos rfl]; exact ⟨w1, ρ, p1, k1⟩
        | false => rw [if_neg Bool.false_ne_true]; exact Post.here p1.ok k1 _ rfl
  | nil => intro es h hne; cases es with
    | nil => exact (hne rfl).elim
    | cons _ _ => cases h
  | _ => intro es h; cases es <;> cases h
theorem ors {as : E} (sa : EachE (SE G pg b) as) {X : Cx} {ck : CK} {W : WX} (xg : XG X G pg ck) (tk : TkB G X W) {pos : Pos} : ∀ {es : List Expr}, chkA ck as es = true → es ≠ [] → PE X (.BoolOp .Or es pos) (tOrs G pg b (epn X ck) W as) := by
  induction as with
  | cons a as _ ih =>
    intro es h hne
    cases es with
    | nil => cases h
    | cons e es =>
      have h' := Bool.and_eq_true_iff.mp h
      have h1 := Bool.and_eq_true_iff.mp h'.1
      cases es with
      | nil =>
        refine (pe_one (sa.1 X ck W xg tk e h1.2)).imp fun σ H Q ⟨w, ρ, p, q⟩ => ?_
        refine tE.of p q.bind fun d w1 v p1 e1 k1 r1 => ?_
        cases d <;> try (exact k1.elim)
        rename_i c
        cases r1
        cases c with
        | false =>
          cases as <;> try (exact (Bool.false_ne_true h'.2).elim)
          exact Post.here p1.ok k1 _ rfl
        | true => exact Post.here p1.ok k1 _ rfl
      | cons e2 es =>
        refine (pe_or (sa.1 X ck W xg tk e h1.2) (ih sa.2 h'.2 (by simp))).imp fun σ H Q ⟨w, ρ, p, q⟩ => ?_
        refine tE.of p q.bind fun d w1 v p1 e1 k1 r1 => ?_
        cases d <;> try (exact k1.elim)
        rename_i c
        cases r1
        refine ⟨c, rfl, ?_⟩
        cases c with
        | false => rw [if_neg Bool.false_ne_true]; exact ⟨w1, ρ, p1, k1⟩
        | true => rw [if_pos rfl]; exact Post.here p1.ok k1 _ rfl
  | nil => intro es h hne; cases es with
    | nil => exact (hne rfl).elim
    | cons _ _ => cases h
  | _ => intro es h; cases es <;> cases h
theorem not_empty {es : List Expr} (h : (!es.isEmpty) = true) : es ≠ [] := fun z => by rw [z] at h; cases h
theorem s_and {as : E} (sa : EachE (SE G pg b) as) : SE G pg b (.and as) := fun X ck W xg tk e h => by
  cases e <;> try (exact (Bool.false_ne_true h).elim)
  rename_i op es pos
  cases op <;> try (exact (Bool.false_ne_true h).elim)
  have h' := Bool.and_eq_true_iff.mp h
  exact ands sa xg tk h'.2 (not_empty h'.1)
theorem s_or {as : E} (sa : EachE (SE G pg b) as) : SE G pg b (.or as) := fun X ck W xg tk e h => by
  cases e <;> try (exact (Bool.false_ne_true h).elim)
  rename_i op es pos
  cases op <;> try (exact (Bool.false_ne_true h).elim)
  have h' := Bool.and_eq_true_iff.mp h
  exact ors sa xg tk h'.2 (not_empty h'.1)

/-! ### tests -/
abbrev ST (G : Gm) (pg : Pg) (b : Nat) (ir : E) : Prop := tstOk ir = true → ∀ (X : Cx) (ck : CK) (W : WX), XG X G pg ck → TkB G X W → ∀ e, chkE ck ir e = true → PT X e (tT G pg b (epn X ck) W ir)
theorem t_not {a : E} (sa : ST G pg b a) : ST G pg b (.not a) := fun ht X ck W xg tk e h => by
  cases e <;> try (exact (Bool.false_ne_true h).elim)
  rename_i op x pos
  cases op <;> try (exact (Bool.false_ne_true h).elim)
  refine (pt_not (sa ht X ck W xg tk x h)).imp fun σ H Q ⟨w, ρ, p, q⟩ => ?_
  refine tT.of p q.bind fun d w1 p1 e1 k1 => ?_
  cases d <;> try (exact k1.elim)
  rename_i c
  obtain ⟨c', ec, q'⟩ := Post.here p1.ok k1
  cases ec
  exact ⟨c, rfl, q'⟩
def tAndT (G : Gm) (pg : Pg) (b : Nat) (pn : List (Addr × Obj)) (W : WX) (as : E) : TT := fun σ H Q => ∃ w ρ, Pre G pn b w ρ σ H ∧ Post G b w (evAnd pg b as ρ w.st) W σ (KB1 Q)
def tOrT (G : Gm) (pg : Pg) (b : Nat) (pn : List (Addr × Obj)) (W : WX) (as : E) : TT := fun σ H Q => ∃ w ρ, Pre G pn b w ρ σ H ∧ Post G b w (evOr pg b as ρ w.st) W σ (KB1 Q)
theorem andsT {as : E} (sa : EachE (ST G pg b) as) (ht : tstOkA as = true) {X : Cx} {ck : CK} {W : WX} (xg : XG X G pg ck) (tk : TkB G X W) {pos : Pos} : ∀ {es : List Expr}, chkA ck as es = true → es ≠ [] → PW X (.BoolOp .And es pos) (tAndT G pg b (epn X ck) W as) := by
  induction as with
  | cons a as _ ih =>
    intro es h hne
    have ht' := Bool.and_eq_true_iff.mp ht
    cases es with
    | nil => cases h
    | cons e es =>
      have h' := Bool.and_eq_true_iff.mp h
      have h1 := Bool.and_eq_true_iff.mp h'.1
      cases es with
      | nil =>
        refine (pw_and1 (sa.1 ht'.1 X ck W xg tk e h1.2)).imp fun σ H Q ⟨w, ρ, p, q⟩ => ?_
        refine tT.of p q.bind fun d w1 p1 e1 k1 => ?_
        cases d <;> try (exact k1.elim)
        rename_i c
        cases c with
        | true =>
          cases as <;> try (exact (Bool.false_ne_true h'.2).elim)
          exact Post.here p1.ok k1
        | false => exact Post.here p1.ok k1
      | cons e2 es =>
        refine (pw_and (sa.1 ht'.1 X ck W xg tk e h1.2) (ih sa.2 ht'.2 h'.2 (by simp))).imp fun σ H Q ⟨w, ρ, p, q⟩ => ?_
        refine tT.of p q.bind fun d w1 p1 e1 k1 => ?_
        cases d <;> try (exact k1.elim)
        rename_i c
        refine ⟨c, rfl, ?_⟩
        cases c with
        | true => rw [if_pos rfl]; exact ⟨w1, ρ, p1, k1⟩
        | false =>
          rw [if_neg Bool.false_ne_true]
          obtain ⟨c', ec, q'⟩ := Post.here p1.ok k1
          cases ec; exact q'
  | nil => intro es h hne; cases es with
    | nil => exact (hne rfl).elim
    | cons _ _ => cases h
  | _ => intro es h; cases es <;> cases h
theorem orsT {as : E} (sa : EachE (ST G pg b) as) (ht : tstOkA as = true) {X : Cx} {ck : CK} {W : WX} (xg : XG X G pg ck) (tk : TkB G X W) {pos : Pos} : ∀ {es : List Expr}, chkA ck as es = true → es ≠ [] → PW X (.BoolOp .Or es pos) (tOrT G pg b (epn X ck) W as) := by
  induction as with
  | cons a as _ ih =>
    intro es h hne
    have ht' := Bool.and_eq_true_iff.mp ht
    cases es with
    | nil => cases h
    | cons e es =>
      have h' := Bool.and_eq_true_iff.mp h
      have h1 := Bool.and_eq_true_iff.mp h'.1
      cases es with
      | nil =>
        refine (pw_or1 (sa.1 ht'.1 X ck W xg tk e h1.2)).imp fun σ H Q ⟨w, ρ, p, q⟩ => ?_
        refine tT.of p q.bind fun d w1 p1 e1 k1 => ?_
        cases d <;> try (exact k1.elim)
        rename_i c
        cases c with
        | false =>
          cases as <;> try (exact (Bool.false_ne_true h'.2).elim)
          exact Post.here p1.ok k1
        | true => exact Post.here p1.ok k1
      | cons e2 es =>
        refine (pw_or (sa.1 ht'.1 X ck W xg tk e h1.2) (ih sa.2 ht'.2 h'.2 (by simp))).imp fun σ H Q ⟨w, ρ, p, q⟩ => ?_
        refine tT.of p q.bind fun d w1 p1 e1 k1 => ?_
        cases d <;> try (exact k1.elim)
        rename_i c
        refine ⟨c, rfl, ?_⟩
        cases c with
        | false => rw [if_neg Bool.false_ne_true]; exact ⟨w1, ρ, p1, k1⟩
        | true =>
          rw [if_pos rfl]
          obtain ⟨c', ec, q'⟩ := Post.here p1.ok k1
          cases ec; exact q'
  | nil => intro es h hne; cases es with
    | nil => exact (hne rfl).elim
    | cons _ _ => cases h
  | _ => intro es h; cases es <;> cases h
theorem t_and {as : E} (sa : EachE (ST G pg b) as) : ST G pg b (.and as) := fun ht X ck W xg tk e h => by
  cases e <;> try (exact (Bool.false_ne_true h).elim)
  rename_i op es pos
  cases op <;> try (exact (Bool.false_ne_true h).elim)
  have h' := Bool.and_eq_true_iff.mp h
  exact (andsT sa ht xg tk h'.2 (not_empty h'.1)).pt
theorem t_or {as : E} (sa : EachE (ST G pg b) as) : ST G pg b (.or as) := fun ht X ck W xg tk e h => by
  cases e <;> try (exact (Bool.false_ne_true h).elim)
  rename_i op es pos
  cases op <;> try (exact (Bool.false_ne_true h).elim)
  have h' := Bool.and_eq_true_iff.mp h
  exact (orsT sa ht xg tk h'.2 (not_empty h'.1)).pt
theorem t_chn {o o' : C} {a c d : E} (sa : SE G pg b a) (sb : SE G pg b c) (sc : SE G pg b d) : ST G pg b (.chn o o' a c d) := fun _ X ck W xg tk e h => by
  cases e <;> try (exact (Bool.false_ne_true h).elim)
  rename_i x ops ys pos
  match ops, ys, h with
  | [op, op'], [y, z], h =>
    simp only [chkE, Bool.and_eq_true, beq_iff_eq] at h
    obtain ⟨⟨⟨⟨⟨⟨h1, h2⟩, h3⟩, h4⟩, h5⟩, h6⟩, h7⟩ := h
    subst h1 h2
    have hm : lastMarks [pyC o, pyC o'] [y, z] = false := mark_plain h4
    exact (pt_chain (xg.kx ▸ C_R xg.hu o : OpR X _ (rC G.kx o)) (xg.kx ▸ C_R xg.hu o' : OpR X _ (rC G.kx o')) (sa X ck W xg tk x h5) (sb X ck W xg tk y h6) (sc X ck W xg tk z h7) hm).imp fun σ H Q q => chain_ok q.val
  | [], _, h => exact (Bool.false_ne_true h).elim
  | [_], _, h => exact (Bool.false_ne_true h).elim
  | [_, _], [], h => exact (Bool.false_ne_true h).elim
  | [_, _], [_], h => exact (Bool.false_ne_true h).elim
  | [_, _], _ :: _ :: _ :: _, h => exact (Bool.false_ne_true h).elim
  | _ :: _ :: _ :: _, _, h => exact (Bool.false_ne_true h).elim

/-! ### further values -/
theorem s_ife {c a d : E} (tc : ST G pg b c) (sc : SE G pg b c) (sa : SE G pg b a) (sb : SE G pg b d) : SE G pg b (.ife c a d) := fun X ck W xg tk e h => by
  cases e <;> try (exact (Bool.false_ne_true h).elim)
  rename_i z x y pos
  have h' := Bool.and_eq_true_iff.mp h
  have h1 := Bool.and_eq_true_iff.mp h'.1
  have h2 := Bool.and_eq_true_iff.mp h1.1
  refine (pe_ifExp (tc h2.1 X ck W xg tk z h2.2) (sa X ck W xg tk x h1.2) (sb X ck W xg tk y h'.2)).imp fun σ H Q ⟨w, ρ, p, q⟩ => ?_
  refine tT.of p q.bind fun d w1 p1 e1 k1 => ?_
  cases d <;> try (exact k1.elim)
  rename_i t
  refine ⟨t, rfl, ?_⟩
  cases t with
  | true => rw [if_pos rfl]; exact ⟨w1, ρ, p1, k1⟩
  | false => rw [if_neg Bool.false_ne_true]; exact ⟨w1, ρ, p1, k1⟩
theorem s_tup {as : E} (sa : SA G pg b as) : SE G pg b (.tup as) := fun X ck W xg tk e h => by
  cases e <;> try (exact (Bool.false_ne_true h).elim)
  rename_i es k pos
  refine (pe_tup (sa X ck W xg tk es h)).imp fun σ H Q ⟨w, ρ, p, q⟩ => ?_
  refine tA.of p q.bind fun ds w1 vs p1 e1 k1 r1 => ?_
  split at k1
  · rename_i hl
    exact ⟨by rw [← r1.length, ← lim]; exact hl, new_tup p1.ok r1 k1⟩
  · exact k1.elim
theorem s_lst {m : Bool} {as : E} (sa : SA G pg b as) : SE G pg b (.lst m as) := fun X ck W xg tk e h => by
  cases e <;> try (exact (Bool.false_ne_true h).elim)
  rename_i es pos
  refine (pe_lst (sa X ck W xg tk es h)).imp fun σ H Q ⟨w, ρ, p, q⟩ => ?_
  refine tA.of p q.bind fun ds w1 vs p1 e1 k1 r1 => ?_
  split at k1
  · rename_i hl
    refine ⟨by rw [← r1.length, ← lim]; exact hl, ?_⟩
    cases m with
    | false => exact new_lst p1.ok r1 k1
    | true =>
      intro a ha
      have hcl : closed w1.st.length (.lst ds) = true := by
        have := Reps.closed ds vs r1
        rw [p1.ok.len] at this; exact this
      obtain ⟨e2, ok2, r2⟩ := alloc p1.ok p1.hb ha (.lst vs) (.lst ds) (fun w' e' z => ⟨vs, z, Reps.ext e' ds vs r1⟩) hcl
      exact k1 _ rfl ok2 e2 _ r2
  · exact k1.elim
theorem s_dnew {m t : Bool} : SE G pg b (.dnew m t) := fun X ck W xg tk e h => by
  cases e <;> try (exact (Bool.false_ne_true h).elim)
  rename_i ks vs pos
  cases ks <;> cases vs <;> try (exact (Bool.false_ne_true h).elim)
  cases t with
  | false =>
    refine pe_dnewK.imp fun σ H Q ⟨w, ρ, p, q⟩ => ?_
    rw [← p.H]
    intro a ha
    cases m with
    | false =>
      obtain ⟨e', _, n, k⟩ := Post.new p.ok q ha (.dK [])
      exact k _ ⟨a, [], rfl, n, .inl upd_same, rfl⟩
    | true =>
      obtain ⟨e2, ok2, r2⟩ := alloc p.ok p.hb ha (.dK []) (.dK []) (fun w' e' z => ⟨[], z, rfl⟩) rfl
      exact q _ rfl ok2 e2 _ r2
  | true =>
    refine (xg.kx ▸ pe_dnewT : PE X (.Dict [] [] pos) (tDNewT G.kx)).imp fun σ H Q ⟨w, ρ, p, q⟩ => ?_
    rw [← p.H]
    intro a ha
    cases m with
    | false =>
      obtain ⟨e', _, n, k⟩ := Post.new p.ok q ha (dX G.hs a [])
      exact k _ ⟨a, [], rfl, n, .inl upd_same, rfl⟩
    | true =>
      obtain ⟨e2, ok2, r2⟩ := alloc p.ok p.hb ha (dX G.hs a []) (.dT []) (fun w' e' z => ⟨[], z, rfl⟩) rfl
      exact q _ rfl ok2 e2 _ r2
theorem s_idx {a c : E} (sa : SE G pg b a) (sb : SE G pg b c) : SE G pg b (.idx a c) := fun X ck W xg tk e h => by
  cases e <;> try (exact (Bool.false_ne_true h).elim)
  rename_i x y pos
  have h' := Bool.and_eq_true_iff.mp h
  have h1 := Bool.and_eq_true_iff.mp h'.1
  refine (pe_ix (xg.kx ▸ ix_all xg.hu : IxR X (rIxAll G.kx)) (sa X ck W xg tk x h1.2) (sb X ck W xg tk y h'.2) (slice_plain h1.1)).imp fun σ H Q ⟨w, ρ, p, q⟩ => ?_
  refine tE.of p q.bind fun d1 w1 v1 p1 e1 k1 r1 => tE.of p1 k1.bind fun d2 w2 v2 p2 e2 k2 r2 => ?_
  exact idx_ok p2.ok (Rep.ext e2 _ _ r1) r2 k2
theorem s_slc {a l u : E} (sa : SE G pg b a) (sl : SO G pg b l) (su : SO G pg b u) : SE G pg b (.slc a l u) := fun X ck W xg tk e h => by
  cases e <;> try (exact (Bool.false_ne_true h).elim)
  rename_i x y pos
  cases y <;> try (exact (Bool.false_ne_true h).elim)
  rename_i lo hi st p2
  cases st <;> try (exact (Bool.false_ne_true h).elim)
  have h' := Bool.and_eq_true_iff.mp h
  have h1 := Bool.and_eq_true_iff.mp h'.1
  refine (pe_slice (xg.K ▸ sl_all : SlR X (rSlAll G.K)) (sa X ck W xg tk x h1.1) (sl X ck W xg tk lo h1.2) (su X ck W xg tk hi h'.2)).imp fun σ H Q ⟨w, ρ, p, q⟩ => ?_
  refine tE.of p q.bind fun d1 w1 v1 p1 e1 k1 r1 => tO.of p1 k1.bind fun l w2 p2 e2 k2 => tO.of p2 k2.bind fun u w3 p3 e3 k3 => ?_
  exact slc_ok p3.ok (Rep.ext (e2.trans e3) _ _ r1) k3
theorem revl_shape {ck : CK} {a : E} {e : Expr} (h : chkE ck (.revl a) e = true) : ∃ x k p1 p2 p3 pos, e = .Subscript x (.Slice none none (some (.UnaryOp .USub (.Constant (.int 1) k p1) p2)) p3) pos ∧ chkE ck a x = true := by
  unfold chkE at h
  split at h <;> first
    | (cases h; done)
    | (rename_i e1; cases e1; done)
    | (rename_i e1; cases e1; exact ⟨_, _, _, _, _, _, rfl, h⟩)
    | (rename_i e1 e2; cases e1; done)
    | (rename_i e1 e2 e3; cases e2; done)
theorem s_revl {a : E} (sa : SE G pg b a) : SE G pg b (.revl a) := fun X ck W xg tk e h => by
  obtain ⟨x, k, q1, q2, q3, pos, rfl, hx⟩ := revl_shape h
  refine (pe_revL (sa X ck W xg tk x hx)).imp fun σ H Q ⟨w, ρ, p, q⟩ => ?_
  refine tE.of p q.bind fun d w1 v p1 e1 k1 r1 => ?_
  cases hl : look w1.st d with
  | none => simp only [hl] at k1; exact k1.elim
  | some c =>
    simp only [hl] at k1
    cases At.of p1.ok r1 hl with
    | lst z q => exact ⟨_, _, rfl, SqL.of z, new_lst p1.ok q.reverse k1⟩
    | @scr ns _ z =>
      refine ⟨_, _, rfl, by rw [xg.K]; exact z, ?_⟩
      have hq : Reps G w1 (List.map D.int ns).reverse (List.map V.int ns).reverse := Reps.reverse Reps.ofInts
      exact new_lst p1.ok hq k1
    | _ => exact k1.elim
theorem chkA_cons {ck : CK} {env : Env} {as : E} {e : Expr} {es : List Expr} (h : chkA ck as (e :: es) = true) : starEach (e :: es) env = (false, eval e env) :: starEach es env ∧ ∀ pos, (backTo pos (starEach es env)).any (·.1) = false := by
  cases as <;> try (exact (Bool.false_ne_true h).elim)
  have h' := Bool.and_eq_true_iff.mp h
  exact ⟨star_cons (Bool.and_eq_true_iff.mp h'.1).1, fun pos => by rw [back_any]; exact chkA_stars (pos := pos) h'.2⟩
theorem boot_P (f : P) : bootBuiltins (nmP f) = some (pyP f) := by
  cases f <;> decide +kernel
theorem pyP_kind (f : P) : (∃ i, pyP f = .builtin i) ∨ ∃ t, pyP f = .type t := by
  cases f <;> first | exact .inl ⟨_, rfl⟩ | exact .inr ⟨_, rfl⟩
theorem s_pr {f : P} {as : E} (sa : SA G pg b as) : SE G pg b (.pr f as) := fun X ck W xg tk e h => by
  cases e <;> try (exact (Bool.false_ne_true h).elim)
  rename_i g es ks pos
  cases g <;> try (exact (Bool.false_ne_true h).elim)
  rename_i x xp
  cases ks <;> try (exact (Bool.false_ne_true h).elim)
  simp only [chkE, isBi, Bool.and_eq_true, beq_iff_eq, Bool.not_eq_true', glB] at h
  obtain ⟨⟨⟨⟨h1, h2⟩, h3⟩, ⟨⟨h4, h5⟩, h6⟩⟩, h7⟩ := h
  cases es with
  | nil => cases h2
  | cons e es =>
    have hm := xg.bi x h6
    have hg : Gl X x := by unfold Gl Env.kindOf; rw [xg.sc]; exact h4
    have hr : CallR X (pyP f) (rP G.kx f) := xg.kx ▸ P_R (xg.calm h1) f
    obtain ⟨hs, hp⟩ := chkA_cons (env := X.env) h7
    have hv : bootBuiltins x = some (pyP f) := by rw [h3]; exact boot_P f
    have core : PE X (.Call (.Name x xp) (e :: es) [] pos) (tCB (rP G.kx f) (tA G pg b (epn X ck) W as)) := by
      rcases pyP_kind f with ⟨i, ei⟩ | ⟨t, et⟩
      · rw [ei] at hr hv
        exact pe_callB hr hg hm hv (sa X ck W xg tk _ h7) (okN_n h5) (okN_d h5) hs (hp pos)
      · rw [et] at hr hv
        exact pe_callTy hr hg hm hv (sa X ck W xg tk _ h7) (okN_n h5) (okN_d h5) hs (hp pos)
    refine core.imp fun σ H Q ⟨w, ρ, p, q⟩ => ?_
    exact tA.of p q.bind fun ds w1 vs p1 e1 k1 r1 => P_ok f p1.ok r1 k1
/-- a call without arguments -/
theorem pe_call0D {X : Cx} {CX : CXT} {k : Nat} {f : Addr} {fd : FuncData} {ps : List Str} {sp : Sp} {E : L2.St → XK} {x : Str} {p pos : Pos} (F : FnOk X.prog X.w X.K X.mg X.base CX k f fd ps sp) (hr : Room k X.A) (hg : Gl X x) (hm : X.mg x = some (.ref f)) (hk : PySem.W.keepIn X.K (.ref f) = true) (hb : Binds X.K fd ps [])
    (hx : ∀ σ, PassesAt CX X σ (E σ)) (hdb : (x == ("__debug__" : Str)) = false) : PE X (.Call (.Name x p) [] [] pos) (tCallS sp E tNil) := by
  refine ⟨fun pins s σ H Q I h => ?_⟩
  refine wpAny_Call_Name_kw (ld_glob I hg hm ?_ hdb)
  exact PySem.W.callWith_K0 I.kIn hk (run_fnS (us := []) F hr hb (hx σ) I .nil h)
theorem callM_len {w : Wd} {W : WX} {σ : L2.St} {k : D → Wd → Prop} {f n : Nat} {md : Mode} {ds : List D} (hn : ∀ ds st bs, ds.length ≠ n → pg.fns f ds st bs = .stk) (h : Post G b w (callM pg f md ds w.st b) W σ k) : ds.length = n := by
  refine Classical.byContradiction fun z => ?_
  cases md <;> (unfold callM at h; dsimp only at h; rw [hn _ _ _ z] at h; exact h.elim)
theorem s_callN {f : Nat} {md : Mode} {as : E} (sa : SA G pg b as) {X : Cx} {ck : CK} {W : WX} (xg : XG X G pg ck) (tk : TkB G X W) {x : Str} {xp pos : Pos} {es : List Expr} (h : chkE ck (.call f md as) (.Call (.Name x xp) es [] pos) = true) :
    PE X (.Call (.Name x xp) es [] pos) (tE G pg b (epn X ck) W (.call f md as)) := by
  simp only [chkE, Bool.and_eq_true, beq_iff_eq, Bool.not_eq_true', glB, decide_eq_true_eq] at h
  obtain ⟨⟨⟨⟨⟨h1, h4⟩, h5⟩, h6⟩, hl⟩, h7⟩ := h
  obtain ⟨fa, fd, ps, k, n, hm, hk, hlv, F, hb, hn, hlen⟩ := xg.fn x f h6
  have hg : Gl X x := by unfold Gl Env.kindOf; rw [xg.sc]; exact h4
  have hr : Room k X.A := (xg.room h1).mono (by rw [hlv] at hl; exact hl)
  cases es with
  | nil =>
    refine (pe_call0D (E := WE W) F hr hg hm hk hb tk.at_ (okN_d h5)).imp fun σ H Q ⟨w, ρ, p, q⟩ => ?_
    cases as <;> try (exact (Bool.false_ne_true h7).elim)
    show spOf G pg.fns n f [] H Q _
    rw [← p.H]
    have q' : Post G b w (callM pg f md [] w.st b) W σ (KV1 G Q) := q
    exact call_ok p (ds := []) (callM_len hlen q') rfl q'
  | cons e es =>
    obtain ⟨hs, hp⟩ := chkA_cons (env := X.env) h7
    refine (pe_callS (E := WE W) F hr hg hm hk hb tk.at_ (sa X ck W xg tk _ h7) (okN_d h5) hs (hp pos)).imp fun σ H Q ⟨w, ρ, p, q⟩ => ?_
    exact tA.of p q.bind fun ds w1 vs p1 e1 k1 r1 => call_ok p1 (by rw [← r1.length]; exact callM_len hlen k1) r1 k1
end
end Den
set_option maxHeartbeats 2000000
/-! DCls: methods by the object's class, functions called by a class, instances made, attributes read. -/
namespace Den
open PySem L2 PySem.Spec PyProof.Rows

theorem meth_ht {o : Expr} {m : Str} {apos pos : Pos} {args : List Expr} {env : Env} (hb : noSup o = true) (hf : methodCallForm (args.length + ([] : List Keyword).length) (backTo pos (starEach args env)) (backToKw pos (keywordEach [] env)) = true) (hl : (apos.endLine == pos.line) = true) :
    eval (.Call (.Attribute o m apos) args [] pos) env = (do
      let ov ← eval o env
      standAt apos.atName
      let (f, first) ← holding [ov] (getMethod ov m (do return (← importBound o env).getD true))
      callWith pos f first (backTo pos (starEach args env)) (backToKw pos (keywordEach [] env))) := by
  rw [arm_eval_Call, attr_plain hb]
  unfold methodCall
  rw [hf]
  unfold calleeOf methodCallPos
  simp only [hl, Bool.not_true, Bool.false_or, if_true, pure_bind]
theorem few_form {ck : CK} {env : Env} {pos : Pos} {as : E} {es : List Expr} (h : chkA ck as es = true) (hl : es.length < 30) : methodCallForm (es.length + ([] : List Keyword).length) (backTo pos (starEach es env)) (backToKw pos (keywordEach [] env)) = true := by
  have h1 := chkA_stars (env := env) (pos := pos) h
  unfold methodCallForm
  rw [Bool.and_eq_true, Bool.and_eq_true]
  refine ⟨⟨?_, rfl⟩, ?_⟩
  · rw [List.all_eq_true]
    intro x hx
    have hx' : x ∈ backTo pos (starEach es env) := hx
    have e1 : (backTo pos (starEach es env)).any (·.1) = false := by rw [back_any]; exact h1
    have := List.any_eq_false.mp e1 x hx'
    simpa using this
  · exact decide_eq_true (by show es.length + 0 + 0 < 30; omega)

section
variable {CX : CXT} {X : Cx} {E : L2.St → XK} {o e : Expr} {es : List Expr} {ta : TE} {t : TA} {apos pos p : Pos} {m x : Str}
/-- o.m(..): the class, the method by the object -/
def tMethP (CX : CXT) (X : Cx) (m : Str) (E : L2.St → XK) (ta : TE) (t : TA) : TE := fun σ H Q => ta σ H fun x H1 => ∃ a C dx fs f, x = .ref a ∧ H1 a = some (.ins C dx fs) ∧ fs.lookup m = none ∧ L2.Cls X.K C ∧ Meth X.K C m f ∧
  t σ H1 fun vs H2 => ∃ fd ps sp k, FnOk X.prog X.w X.K X.mg X.base CX k f fd ps sp ∧ Room k X.A ∧ Binds X.K fd ps [] ∧ sp (x :: vs) H2 Q (E σ)
theorem pe_methP {pl : Sem Bool} (he : PE X o ta) (hx : ∀ σ, PassesAt CX X σ (E σ)) (ha : PA X (e :: es) t) (hst : starEach (e :: es) X.env = (false, eval e X.env) :: starEach es X.env) (hpl : (backTo pos (starEach es X.env)).any (·.1) = false)
    (ht : eval (.Call (.Attribute o m apos) (e :: es) [] pos) X.env = (do
      let ov ← eval o X.env
      standAt apos.atName
      let (f, first) ← holding [ov] (getMethod ov m pl)
      callWith pos f first (backTo pos (starEach (e :: es) X.env)) (backToKw pos (keywordEach [] X.env)))) : PE X (.Call (.Attribute o m apos) (e :: es) [] pos) (tMethP CX X m E ta t) := by
  refine ⟨fun pins s σ H Q I h => ?_⟩
  refine PySem.W.methodCall_KW (pl := pl) (thn (he.run pins s σ H _ I h) fun u s1 ⟨x, H1, I1, rx, a, C, dx, fs, f, ex, ea, l, c, hm, q⟩ => ?_) ht
  subst ex
  obtain rfl : u = Value.ref a := rx
  refine getmeth_ok I1 ea c hm l ?_
  refine PySem.W.callWith_K (first := [.ref a]) (h₀ := X.base) I.ok.mod.kin hm.kp (thn (ha.run pos pins s1 σ H1 _ I1 q) fun us s2 ⟨vs, H2, I2, r, fd, ps, sp, k, F, hr, hb, q2⟩ => ⟨I2.kIn, ?_⟩) hst hpl
  exact run_fnS (us := .ref a :: us) (vs := .ref a :: vs) F hr hb (hx σ) I2 (.cons rfl r) q2
theorem pe_methP0 {pl : Sem Bool} (he : PE X o ta) (hx : ∀ σ, PassesAt CX X σ (E σ)) (hn : ∀ σ H Q, t σ H Q → Q [] H)
    (ht : eval (.Call (.Attribute o m apos) [] [] pos) X.env = (do
      let ov ← eval o X.env
      standAt apos.atName
      let (f, first) ← holding [ov] (getMethod ov m pl)
      callWith pos f first (backTo pos (starEach [] X.env)) (backToKw pos (keywordEach [] X.env)))) : PE X (.Call (.Attribute o m apos) [] [] pos) (tMethP CX X m E ta t) := by
  refine ⟨fun pins s σ H Q I h => ?_⟩
  refine PySem.W.methodCall_KW (pl := pl) (thn (he.run pins s σ H _ I h) fun u s1 ⟨x, H1, I1, rx, a, C, dx, fs, f, ex, ea, l, c, hm, q⟩ => ?_) ht
  subst ex
  obtain rfl : u = Value.ref a := rx
  obtain ⟨fd, ps, sp, k, F, hr, hb, q2⟩ := hn _ _ _ q
  refine getmeth_ok I1 ea c hm l ?_
  exact PySem.W.callWith_K0 (first := [.ref a]) I1.kIn hm.kp (run_fnS (us := [.ref a]) (vs := [.ref a]) F hr hb (hx σ) I1 (.cons rfl .nil) q2)

/-- C(..) -/
def tMakeP (CX : CXT) (X : Cx) (C : Addr) (f : Addr) (E : L2.St → XK) (t : TA) : TE := fun σ H Q => t σ H fun vs H1 => ∀ x dx, H1 x = none → H1 dx = none → dx ≠ x →
  ∃ fd ps sp k, FnOk X.prog X.w X.K X.mg X.base CX k f fd ps sp ∧ Room (k + 1) X.A ∧ Binds X.K fd ps [] ∧
    sp (.ref x :: vs) (upd (upd H1 dx (.own x)) x (.ins C dx [])) (fun v H2 => v = .non ∧ Q (.ref x) H2) (E σ)
theorem run_makeP {C f : Addr} {pins : List (Addr × Obj)} {σ : L2.St} {H : Hp} {s : Shared} {Q : VK} {us : List Value} {vs : List V} (M : Mk X.K C f) (hx : PassesAt CX X σ (E σ)) (I : Inv X pins σ H s) (r : Vals vs us)
    (h : ∀ x dx, H x = none → H dx = none → dx ≠ x → ∃ fd ps sp k, FnOk X.prog X.w X.K X.mg X.base CX k f fd ps sp ∧ Room (k + 1) X.A ∧ Binds X.K fd ps [] ∧
      sp (.ref x :: vs) (upd (upd H dx (.own x)) x (.ins C dx [])) (fun v H2 => v = .non ∧ Q (.ref x) H2) (E σ)) :
    wpAny (model X.prog X.w) X.A (call (.ref C) us) (EP X pins σ Q) X.xe s := by
  obtain ⟨fd, ps, sp, k, F, hr, hb, hq⟩ := h (s.heap.objs.size + 1) s.heap.objs.size (I.hok.fresh (Nat.le_succ _)) (I.hok.fresh (Nat.le_refl _)) (Nat.ne_of_lt (Nat.lt_succ_self _))
  have I2 := Inv.made (C := C) I
  have r2 : Vals (V.ref (s.heap.objs.size + 1) :: vs) (Value.ref (s.heap.objs.size + 1) :: us) := .cons rfl r
  have hl : (Value.ref (s.heap.objs.size + 1) :: us).length = ps.length := by
    have e := r2.length
    rw [F.len _ _ _ _ hq] at e
    exact e.symm
  have b := hb _ (Value.ref (s.heap.objs.size + 1) :: us) I2.kIn (by rw [List.append_nil]; exact hl)
  rw [List.append_nil] at b
  refine wpAny_call (make_map (f := f) I.kIn M.makes M.init (beq_iff_eq.mp M.fn) (codeAny_mono (F.run _ X.stack _ _ ⟨Value.ref (s.heap.objs.size + 1) :: us, []⟩ (Value.ref (s.heap.objs.size + 1) :: us) _ _ (E σ) (hr.make C us [])
    (I2.env0.make C us []) b r2 hq) fun r s' hq' => ?_))
  cases r with
  | error e => exact hx pins _ _ e s' I2 hq'
  | ok fl =>
    cases fl with
    | ret u =>
      obtain ⟨v, H', I3, rv, ev, q3⟩ := I2.after hq'
      subst ev
      exact ⟨rv, ⟨V.ref (s.heap.objs.size + 1), H', I3, rfl, q3⟩⟩
    | next => exact False.elim hq'
    | brk => exact False.elim hq'
    | cont => exact False.elim hq'
theorem pe_makeP {C f : Addr} (M : Mk X.K C f) (hg : Gl X x) (hm : X.mg x = some (.ref C)) (hx : ∀ σ, PassesAt CX X σ (E σ)) (ha : PA X (e :: es) t) (hdb : (x == ("__debug__" : Str)) = false)
    (he : starEach (e :: es) X.env = (false, eval e X.env) :: starEach es X.env) (hpl : (backTo pos (starEach es X.env)).any (·.1) = false) : PE X (.Call (.Name x p) (e :: es) [] pos) (tMakeP CX X C f E t) := by
  refine ⟨fun pins s σ H Q I h => ?_⟩
  refine wpAny_Call_Name_kw (ld_glob I hg hm ?_ hdb)
  refine PySem.W.callWith_K (h₀ := X.base) I.ok.mod.kin M.kp (thn (ha.run pos pins s σ H _ I h) fun us s1 ⟨vs, H1, I1, r, q⟩ => ⟨I1.kIn, ?_⟩) he hpl
  exact run_makeP M (hx σ) I1 r q
theorem pe_makeP0 {C f : Addr} (M : Mk X.K C f) (hg : Gl X x) (hm : X.mg x = some (.ref C)) (hx : ∀ σ, PassesAt CX X σ (E σ)) (hn : ∀ σ H Q, t σ H Q → Q [] H) (hdb : (x == ("__debug__" : Str)) = false) : PE X (.Call (.Name x p) [] [] pos) (tMakeP CX X C f E t) := by
  refine ⟨fun pins s σ H Q I h => ?_⟩
  refine wpAny_Call_Name_kw (ld_glob I hg hm ?_ hdb)
  exact PySem.W.callWith_K0 I.kIn M.kp (run_makeP (us := []) M (hx σ) I .nil (hn _ _ _ h))

/-! ### C.m(..), m a def of C: C.m is the def itself -/
open PySem.W PySem.Calls in
theorem fn_getC {prog : Program} {w : World} {A : Around} {s : Shared} {K : Frag} {p C : Addr} {R : Result → Shared → Prop} (X : K.In s.heap) (hp : typeIn K (.ref p) = some (.type "function"))
    (h : R (.ok (.ret (.ref p))) s) : codeAny (model prog w) A (.call (.builtin "function.__get__") ⟨[.ref p, .none, .ref C], []⟩) R s := by
  obtain ⟨o, ho, hc⟩ := Option.map_eq_some_iff.mp hp
  obtain ⟨hh, g, dr, t, os⟩ := s
  refine codeAny_call_builtin KF.slot_fn.plain KF.entry_fn (KF.slot_fn.check _ _ _ _ _ _ _ _ ⟨_, X _ _ ho, hc⟩ (KF.args_fn _ _ _) ?_)
  rw [show Builtin.«function.__get__» ⟨[.ref p, .none, .ref C], []⟩ = ret (.ref p) by kernel_rfl]
  exact wpAny_pure h
def tClsM (CX : CXT) (X : Cx) (f : Addr) (E : L2.St → XK) (t : TA) : TE := fun σ H Q => t σ H fun vs H2 => ∃ fd ps sp k, FnOk X.prog X.w X.K X.mg X.base CX k f fd ps sp ∧ Room k X.A ∧ Binds X.K fd ps [] ∧ sp vs H2 Q (E σ)
theorem pe_clsM {C f : Addr} {mc : Value} {pl : Sem Bool} (hr : PySem.W.readsIn X.K C mc = true) (hga : PySem.W.specialIn X.K (.ref C) "__getattribute__" = some (some (.builtin "type.__getattribute__")))
    (hf : PySem.W.findCls X.K (.ref C) mc m = some (.val (.ref f))) (hty : PySem.W.isFn X.K (.ref f) = true) (hk : PySem.W.keepIn X.K (.ref f) = true)
    (hg : Gl X x) (hm : X.mg x = some (.ref C)) (hdb : (x == ("__debug__" : Str)) = false) (hx : ∀ σ, PassesAt CX X σ (E σ)) (ha : PA X (e :: es) t) (hst : starEach (e :: es) X.env = (false, eval e X.env) :: starEach es X.env) (hpl : (backTo pos (starEach es X.env)).any (·.1) = false)
    (ht : eval (.Call (.Attribute (.Name x p) m apos) (e :: es) [] pos) X.env = (do
      let ov ← eval (.Name x p) X.env
      standAt apos.atName
      let (f, first) ← holding [ov] (getMethod ov m pl)
      callWith pos f first (backTo pos (starEach (e :: es) X.env)) (backToKw pos (keywordEach [] X.env)))) : PE X (.Call (.Attribute (.Name x p) m apos) (e :: es) [] pos) (tClsM CX X f E t) := by
  refine ⟨fun pins s σ H Q I h => ?_⟩
  refine PySem.W.methodCall_KW (pl := pl) ?_ ht
  refine ld_glob I hg hm ?_ hdb
  refine PySem.W.method_cls I.kIn hga ?_
  refine PySem.W.cls_value I.kIn hr hf rfl ?_
  refine PySem.W.callWith_K (first := []) (h₀ := X.base) I.ok.mod.kin hk (thn (ha.run pos pins _ σ H _ (I.tok _) h) fun us s2 ⟨vs, H2, I2, r, fd, ps, sp, k, F, hr, hb, q2⟩ => ⟨I2.kIn, ?_⟩) hst hpl
  exact run_fnS F hr hb (hx σ) I2 r q2
end

/-! ### attributes -/
section
variable {G : Gm} {w : Wd} {pg : Pg} {b : Nat}
theorem RepF.get : ∀ {fs : List (Nat × D)} {us : List (Str × V)} {f : Nat} {d : D}, RepF G w fs us → fs.lookup f = some d → ∃ v, us.lookup (G.fnm f) = some v ∧ Rep G w d v
  | [], _, _, _, _, h => by cases h
  | (k, x) :: r, us, f, d, q, h => by
    obtain ⟨v, vr, rfl, q1, q2⟩ := q
    rw [List.lookup_cons] at h ⊢
    by_cases e : f = k
    · subst e
      rw [beq_self_eq_true] at h ⊢
      cases h
      exact ⟨v, rfl, q1⟩
    · rw [show (f == k) = false from beq_eq_false_iff_ne.mpr e] at h
      rw [show (G.fnm f == G.fnm k) = false from beq_eq_false_iff_ne.mpr fun z => e (G.fin _ _ z)]
      exact RepF.get q2 h
theorem RepF.noget : ∀ {fs : List (Nat × D)} {us : List (Str × V)} {f : Nat}, RepF G w fs us → fs.lookup f = none → us.lookup (G.fnm f) = none
  | [], _, _, h, _ => by cases h; rfl
  | (k, x) :: r, us, f, q, h => by
    obtain ⟨v, vr, rfl, q1, q2⟩ := q
    rw [List.lookup_cons] at h ⊢
    by_cases e : f = k
    · subst e
      rw [beq_self_eq_true] at h
      cases h
    · rw [show (f == k) = false from beq_eq_false_iff_ne.mpr e] at h
      rw [show (G.fnm f == G.fnm k) = false from beq_eq_false_iff_ne.mpr fun z => e (G.fin _ _ z)]
      exact RepF.noget q2 h
theorem s_fld {a : E} {f : Nat} (se : SE G pg b a) : SE G pg b (.fld a f) := fun X ck W xg tk e h => by
  cases e <;> try (exact (Bool.false_ne_true h).elim)
  rename_i x n pos
  simp only [chkE, Bool.and_eq_true, beq_iff_eq] at h
  obtain ⟨⟨h1, h2⟩, h3⟩ := h
  have hn := xg.at_ f n h1
  refine (pe_fld (se X ck W xg tk x h3) (attr_plain h2)).imp fun σ H Q ⟨w, ρ, p, q⟩ => ?_
  refine tE.of p q.bind fun d w1 v p1 e1 k1 r1 => ?_
  unfold fldD at k1
  cases hl : look w1.st d with
  | none => simp only [hl] at k1; exact k1.elim
  | some c =>
    cases c <;> try (simp only [hl] at k1; exact k1.elim)
    rename_i c fs
    simp only [hl] at k1
    have a1 := At.of p1.ok r1 hl
    cases a1 with
    | ins z q1 =>
      cases hfa : pg.fa c f with
      | false => rw [hfa] at k1; exact k1.elim
      | true =>
        rw [hfa] at k1
        simp only [if_true] at k1
        cases hg : fs.lookup f with
        | none => rw [hg] at k1; exact k1.elim
        | some d' =>
          rw [hg] at k1
          obtain ⟨v', hv', r'⟩ := RepF.get q1 hg
          obtain ⟨hC, hA⟩ := xg.fa c f hfa
          rw [xg.K, ← hn]
          rw [xg.K] at hC hA
          exact ⟨_, _, _, _, v', rfl, z, hC, hA, hv', k1.here p1.ok v' r'⟩
theorem fn_room {X : Cx} {ck : CK} {k lv : Nat} (xg : XG X G pg ck) (hh : ck.hot = false) (hl : (some k).getD 1000000 ≤ ck.lvl) : Room k X.A := (xg.room hh).mono hl
theorem s_meth {a as : E} {m : Nat} {md : Mode} (se : SE G pg b a) (sa : SA G pg b as) : SE G pg b (.meth a m md as) := fun X ck W xg tk e h => by
  cases e <;> try (exact (Bool.false_ne_true h).elim)
  rename_i g es ks pos
  cases g <;> try (exact (Bool.false_ne_true h).elim)
  rename_i o n ap
  cases ks <;> try (exact (Bool.false_ne_true h).elim)
  simp only [chkE, Bool.and_eq_true, beq_iff_eq, Bool.not_eq_true', decide_eq_true_eq] at h
  obtain ⟨⟨⟨⟨⟨⟨⟨h1, h2⟩, h3⟩, h4⟩, h5⟩, h6⟩, h7⟩, h8⟩ := h
  have hn := xg.at_ m n h2
  have ht := meth_ht (m := n) (env := X.env) h3 (few_form (env := X.env) (pos := pos) h8 h5) (beq_iff_eq.mpr h6)
  have rd : ∀ σ H Q, tE G pg b (epn X ck) W (.meth a m md as) σ H Q → tMethP (CXB G X.prog X.w) X n (WE W) (tE G pg b (epn X ck) W a) (tA G pg b (epn X ck) W as) σ H Q := fun σ H Q ⟨w, ρ, p, q⟩ => by
    refine tE.of p q.bind fun d w1 v p1 e1 k1 r1 => ?_
    unfold clsOf at k1
    cases hl : look w1.st d with
    | none => simp only [hl] at k1; exact k1.elim
    | some c =>
      cases c <;> try (simp only [hl] at k1; exact k1.elim)
      rename_i c fs
      simp only [hl] at k1
      have a1 := At.of p1.ok r1 hl
      cases a1 with
      | ins z q1 =>
        cases hlk : fs.lookup m with
        | some _ => rw [hlk] at k1; exact k1.elim
        | none =>
          rw [hlk] at k1
          simp only [Option.isNone_none, if_true] at k1
          cases hmt : pg.mt c m with
          | none => rw [hmt] at k1; exact k1.elim
          | some i =>
            rw [hmt] at k1
            obtain ⟨hC, f, hM, hF⟩ := xg.mt c m i hmt
            refine ⟨_, _, _, _, f, rfl, z, by rw [← hn]; exact RepF.noget q1 hlk, hC, by rw [← hn]; exact hM, ?_⟩
            refine tA.of p1 k1.bind fun ds w2 vs p2 e2 k2 r2 => ?_
            have r1' := Rep.ext e2 _ _ r1
            rcases hF with hF | ⟨hmem, fd, ps, k, nn, _, hlv, F, hb, hps, hlen⟩
            · have : callM pg i md (d :: ds) w2.st b = .stk := by cases md <;> (unfold callM; dsimp only; rw [hF]; try rfl)
              rw [this] at k2; exact k2.elim
            · have hlv' := List.all_eq_true.mp h4 _ hmem
              simp only [beq_self_eq_true, Bool.not_true, Bool.false_or, decide_eq_true_eq, hlv] at hlv'
              exact ⟨fd, ps, _, k, F, (xg.room h1).mono hlv', hb, call_ok (ds := d :: ds) p2 (by rw [← (show (d :: ds).length = (_ :: vs).length by simp [r2.length])]; exact callM_len hlen k2) ⟨_, _, rfl, r1', r2⟩ k2⟩
  cases es with
  | nil =>
    refine (pe_methP0 (E := WE W) (se X ck W xg tk o h7) tk.at_ (fun σ H Q q => ?_) ht).imp rd
    cases as <;> try (exact (Bool.false_ne_true h8).elim)
    obtain ⟨w, ρ, p, q⟩ := q
    have q' : Post G b w (.ok [] w.st) W σ (fun ds w' => ∀ vs, Reps G w' ds vs → Q vs w'.H) := q
    have := q'.here p.ok [] rfl
    rw [p.H] at this
    exact this
  | cons e es =>
    obtain ⟨hs, hp⟩ := chkA_cons (env := X.env) h8
    exact (pe_methP (E := WE W) (se X ck W xg tk o h7) tk.at_ (sa X ck W xg tk _ h8) hs (hp pos) ht).imp rd
theorem s_call {f : Nat} {md : Mode} {as : E} (sa : SA G pg b as) : SE G pg b (.call f md as) := fun X ck W xg tk e h => by
  cases e <;> try (exact (Bool.false_ne_true h).elim)
  rename_i g es ks pos
  cases g <;> try (exact (Bool.false_ne_true h).elim)
  · rename_i o n ap
    cases o <;> try (exact (Bool.false_ne_true h).elim)
    rename_i x xp
    cases ks <;> try (exact (Bool.false_ne_true h).elim)
    simp only [chkE, Bool.and_eq_true, beq_iff_eq, Bool.not_eq_true', decide_eq_true_eq, glB] at h
    obtain ⟨⟨⟨⟨⟨⟨⟨⟨h1, h2⟩, h3⟩, h4⟩, h5⟩, h6⟩, h7⟩, h8⟩, h9⟩ := h
    cases hx : ck.gl.lookup x with
    | none => rw [hx] at h4; cases h4
    | some u =>
      cases u <;> try (rw [hx] at h4; cases h4; done)
      rename_i c
      rw [hx] at h4
      obtain ⟨⟨⟨c', m⟩, i⟩, hmem, h4'⟩ := List.any_eq_true.mp h4
      simp only [Bool.and_eq_true, beq_iff_eq] at h4'
      obtain ⟨⟨rfl, hm⟩, rfl⟩ := h4'
      obtain ⟨mc, fa, hr, hga, hfc, hfn, fd, ps, k, nn, hk, hlv, F, hb, hps, hlen⟩ := xg.cf _ _ _ hmem
      rw [xg.at_ m n hm] at hfc
      have hg : Gl X x := by unfold Gl Env.kindOf; rw [xg.sc]; exact h2
      have ht := meth_ht (o := .Name x xp) (m := n) (env := X.env) rfl (few_form (env := X.env) (pos := pos) h9 h6) (beq_iff_eq.mpr h7)
      cases es with
      | nil => cases h8
      | cons e es =>
        obtain ⟨hs, hp⟩ := chkA_cons (env := X.env) h9
        refine (pe_clsM (E := WE W) hr hga hfc hfn hk hg (xg.cl x _ hx) (okN_d h3) tk.at_ (sa X ck W xg tk _ h9) hs (hp pos) ht).imp fun σ H Q ⟨w, ρ, p, q⟩ => ?_
        refine tA.of p q.bind fun ds w1 vs p1 e1 k1 r1 => ⟨fd, ps, _, k, F, (xg.room h1).mono (by rw [hlv] at h5; exact h5), hb, ?_⟩
        exact call_ok p1 (by rw [← r1.length]; exact callM_len hlen k1) r1 k1
  · rename_i x xp
    cases ks <;> try (exact (Bool.false_ne_true h).elim)
    exact s_callN sa xg tk h
end
end Den
set_option maxHeartbeats 2000000
/-! DMake: instances made; methods of lists and dicts. -/
namespace Den
open PySem L2 PySem.Spec PyProof.Rows

section
variable {G : Gm} {w : Wd} {pg : Pg} {b : Nat}
theorem s_make {c : Nat} {as : E} {md : Mode} (sa : SA G pg b as) : SE G pg b (.make c md as) := fun X ck W xg tk e h => by
  cases e <;> try (exact (Bool.false_ne_true h).elim)
  rename_i g es ks pos
  cases g <;> try (exact (Bool.false_ne_true h).elim)
  rename_i x xp
  cases ks <;> try (exact (Bool.false_ne_true h).elim)
  simp only [chkE, Bool.and_eq_true, beq_iff_eq, Bool.not_eq_true', glB] at h
  obtain ⟨⟨⟨⟨⟨h1, h2⟩, h3⟩, h4⟩, h5⟩, h6⟩ := h
  have hg : Gl X x := by unfold Gl Env.kindOf; rw [xg.sc]; exact h2
  obtain ⟨h5a, h5⟩ := Bool.and_eq_true_iff.mp h5
  obtain ⟨p0, hp0, hp1⟩ := List.any_eq_true.mp h5a
  obtain ⟨i, hi⟩ := xg.inm p0 hp0
  rw [beq_iff_eq.mp hp1] at hi
  · skip
    obtain ⟨fa, hM, hF⟩ := xg.ini c i hi
    have rd : ∀ σ H Q, tE G pg b (epn X ck) W (.make c md as) σ H Q → tMakeP (CXB G X.prog X.w) X (G.cls c) fa (WE W) (tA G pg b (epn X ck) W as) σ H Q := fun σ H Q ⟨w, ρ, p, q⟩ => by
      refine tA.of p q.bind fun ds w1 vs p1 e1 k1 r1 => ?_
      simp only [hi] at k1
      intro x dx hx hdx hne
      obtain ⟨B, hB, k2⟩ : ∃ B, B ≤ w1.st.length ∧ Post G B w1 ((pg.fns i (.loc w1.st.length :: ds) (w1.st ++ [.mu (.ins c [])]) B).bind fun d st => match d with
        | .non => Res.ok (Den.D.loc w1.st.length) st
        | _ => .stk) W σ (KV1 G Q) := by
        cases md with
        | pure => exact ⟨_, Nat.le_refl _, seal_pure p1.ok p1.hb k1⟩
        | fresh => exact ⟨_, Nat.le_refl _, seal_fresh p1.ok p1.hb k1⟩
        | keep => exact ⟨b, p1.hb, k1⟩
      obtain ⟨ea, oka, _⟩ := grow (b := B) p1.ok hdx (.own x)
      have hx2 : upd w1.H dx (.own x) x = none := by rw [upd_ne (Ne.symm hne)]; exact hx
      obtain ⟨eb, okb, rb⟩ := alloc (b := B) oka hB hx2 (.ins (G.cls c) dx []) (.ins c []) (fun w' _ z => ⟨dx, [], z, rfl⟩) rfl
      rcases hF with hF | ⟨hmem, fd, ps, k, nn, _, hlv, F, hb, hps, hlen⟩
      · rw [hF] at k2; exact k2.elim
      · have hlv' := List.all_eq_true.mp h5 _ hmem
        simp only [beq_self_eq_true, Bool.not_true, Bool.false_or, decide_eq_true_eq, hlv] at hlv'
        have r2 := Reps.ext (ea.trans eb) ds vs r1
        have hn : (Den.D.loc w1.st.length :: ds).length = nn := by
          refine Classical.byContradiction fun z => ?_
          rw [hlen _ _ _ z] at k2; exact k2.elim
        refine ⟨fd, ps, _, k, F, (xg.room h1).mono hlv', hb, ⟨by rw [← hn]; simp [r1.length], _, _, B, rfl, okb, ?_, (p1.env.ext (ea.trans eb)).glob, (show Reps G _ (Den.D.loc w1.st.length :: ds) (V.ref x :: vs) from ⟨_, _, rfl, rb, r2⟩), ?_⟩⟩
        · exact Nat.le_trans hB (by show _ ≤ (w1.st ++ _).length; simp)
        · have k3 := (Post.from (ea.trans eb) k2).bind
          refine post_exc (k3.mono fun d w3 ok3 e3 k3 v rv => ?_)
          cases d <;> try (exact k3.elim)
          refine ⟨rv, ?_⟩
          exact k3.here ok3 (.ref x) (Rep.ext e3 _ _ rb)
    cases es with
    | nil =>
      refine (pe_makeP0 (E := WE W) hM hg (xg.cl x c h4) tk.at_ (fun σ H Q q => ?_) (okN_d h3)).imp rd
      cases as <;> try (exact (Bool.false_ne_true h6).elim)
      obtain ⟨w, ρ, p, q⟩ := q
      have := (show Post G b w (.ok [] w.st) W σ (fun ds w' => ∀ vs, Reps G w' ds vs → Q vs w'.H) from q).here p.ok [] rfl
      rw [p.H] at this
      exact this
    | cons e es =>
      obtain ⟨hs, hp⟩ := chkA_cons (env := X.env) h6
      exact (pe_makeP (E := WE W) hM hg (xg.cl x c h4) tk.at_ (sa X ck W xg tk _ h6) (okN_d h3) hs (hp pos)).imp rd
end
end Den
set_option maxHeartbeats 2000000
/-! DDm: dict methods that change: setdefault, pop, update; keys are ints, texts or tuples of these. -/
namespace Den
open PySem L2 PySem.Spec PyProof.Rows

/-- d.setdefault(y, z) -/
def rSetd (kx : Kx) : V → List V → Hp → VK → Prop := fun x xs H Q => ∃ a y z, x = .ref a ∧ xs = [y, z] ∧
  ((∃ (kvs : List (Key × V)) (k : Key), H a = some (.dK kvs) ∧ y = kV k ∧ kvs.length < sizeLine ∧ (∀ v, valV kvs k = some v → Q v H) ∧ (valV kvs k = none → Q z (upd H a (.dK (putK kvs k z))))) ∨
  (∃ (kvs : List XE) (k : List Key) (b : Addr), H a = some (dX kx.hs a kvs) ∧ KeysX kx.K H kvs ∧ y = .ref b ∧ KeyX kx.K H b k ∧ kvs.length < sizeLine ∧ (∀ v, valX kvs k = some v → Q v H) ∧ (valX kvs k = none → Q z (upd H a (dX kx.hs a (putX kvs k b z))))))
theorem mt_setd {X : Cx} (hu : X.A.units + 1 < cLine) : MtR X "dict.setdefault" (rSetd (kxX X)) := by
  intro pins s σ H x xs v us Q I rx rxs h
  obtain ⟨a, y, z, rfl, rfl, h⟩ := h
  cases rx
  obtain ⟨u1, u2, rfl, r1, r2⟩ := vals2 rxs
  rcases h with ⟨kvs, k, ha, rfl, hl, q1, q2⟩ | ⟨kvs, k, b, ha, ks, rfl, hb, hl, q1, q2⟩
  · exact d_setd I ha r1 r2 hl (fun v hv w' s4 I4 rw' => ⟨v, _, I4, rw', q1 v hv⟩) fun hn w' s4 I4 rw' => ⟨z, _, I4, rw', q2 hn⟩
  · cases r1
    obtain ⟨z0, hd, xs', rel, dd⟩ := dx_rd I.hok I.kIn ks (.inl ha)
    have hz : xs'.length ≤ sizeLine := by rw [← Paired.length rel]; exact z0
    refine call_setdefault_heap (knd := tupleKind (mixKind X.prog X.w)) (k := k) (hsz := hz) (tupleKind_room_in1 hu) (key_ofX I.hok I.kIn hb) hd dd (fun p hp => ?_) (fun hn h' dd' hs => ?_)
    · have r := rel.val k
      rw [hp] at r
      obtain ⟨v0, ev, rv⟩ : ∃ v0, valX kvs k = some v0 ∧ RelV v0 p.2 := by
        cases ev : valX kvs k with
        | none => rw [ev] at r; exact (show False from r).elim
        | some v0 => rw [ev] at r; exact ⟨v0, rfl, r⟩
      exact ⟨v0, H, I.tok _, rv, q1 v0 ev⟩
    · have r := rel.val k
      rw [hn] at r
      have e : valX kvs k = none := by
        cases ev : valX kvs k with
        | none => rfl
        | some v0 => rw [ev] at r; exact (show False from r).elim
      have hl2 : (putX kvs k b z).length ≤ sizeLine := by have := putX_len kvs k b z; omega
      have rel2 := rel.put k (b := b) r2
      rw [storedH_new hn] at rel2
      exact ⟨z, _, dx_write I ha hl2 hd rel2 (by first | exact dd' | (rw [storedH_new hn] at dd'; exact dd')) hs, r2, q2 e⟩
theorem KT2.drop (k : List Key) : ∀ {us : List XE} {xs : List (List Key × Addr × Value)}, KT2 us xs → KT2 (dropX us k) (withoutH xs k)
  | _, _, Paired.nil => Paired.nil
  | _, _, Paired.cons (a := p) (b := q) (l₁ := us) (l₂ := xs) h t => by
    have ih := KT2.drop k t
    by_cases e : p.1 = k
    · have e2 : q.1 = k := h.1.symm.trans e
      have z1 : dropX (p :: us) k = dropX us k := List.filter_cons_of_neg (by simp [e])
      have z2 : withoutH (q :: xs) k = withoutH xs k := List.filter_cons_of_neg (by simp [e2])
      rw [z1, z2]
      exact ih
    · have e2 : ¬ q.1 = k := fun z => e (h.1.trans z)
      have z1 : dropX (p :: us) k = p :: dropX us k := List.filter_cons_of_pos (by simp [e])
      have z2 : withoutH (q :: xs) k = q :: withoutH xs k := List.filter_cons_of_pos (by simp [e2])
      rw [z1, z2]
      exact Paired.cons h ih
/-- d.pop(y), there -/
def rPop1 (kx : Kx) : V → List V → Hp → VK → Prop := fun x xs H Q => ∃ a y, x = .ref a ∧ xs = [y] ∧
  ((∃ (kvs : List (Key × V)) (k : Key) (v : V), H a = some (.dK kvs) ∧ y = kV k ∧ valV kvs k = some v ∧ Q v (upd H a (.dK (dropK kvs k)))) ∨
  (∃ (kvs : List XE) (k : List Key) (b : Addr) (v : V), H a = some (dX kx.hs a kvs) ∧ KeysX kx.K H kvs ∧ y = .ref b ∧ KeyX kx.K H b k ∧ valX kvs k = some v ∧ Q v (upd H a (dX kx.hs a (dropX kvs k)))))
theorem mt_pop1 {X : Cx} (hu : X.A.units + 1 < cLine) : MtR X "dict.pop" (rPop1 (kxX X)) := by
  intro pins s σ H x xs v us Q I rx rxs h
  obtain ⟨a, y, rfl, rfl, h⟩ := h
  cases rx
  obtain ⟨u1, rfl, r1⟩ := Vals.one rxs
  rcases h with ⟨kvs, k, v, ha, rfl, l, q⟩ | ⟨kvs, k, b, v, ha, ks, rfl, hb, l, q⟩
  · exact d_pop I ha r1 l (.inl rfl) fun w' s4 I4 rw' => ⟨v, _, I4, rw', q⟩
  · cases r1
    obtain ⟨z0, hd, xs', rel, dd⟩ := dx_rd I.hok I.kIn ks (.inl ha)
    have hz : xs'.length ≤ sizeLine := by rw [← Paired.length rel]; exact z0
    have r := rel.val k
    rw [l] at r
    obtain ⟨p, hp, rv⟩ : ∃ p, atKey xs' k = some p ∧ RelV v p.2 := by
      cases ev : atKey xs' k with
      | none => rw [ev] at r; exact (show False from r).elim
      | some p => rw [ev] at r; exact ⟨p, rfl, r⟩
    refine call_pop_heap (knd := tupleKind (mixKind X.prog X.w)) (k := k) (hsz := hz) (.inl rfl) (PySem.F.args_dict_pop_2 _ _) (tupleKind_room_in1 hu) (key_ofX I.hok I.kIn hb) hd dd hp (fun h' dd' hs => ?_)
    exact ⟨v, _, dx_write I ha (Nat.le_trans (dropX_le kvs k) z0) hd (KT2.drop k rel) dd' hs, rv, q⟩
/-- what d.update(e) leaves -/
def mergeX (kvs more : List XE) : List XE := more.foldl (fun d p => putX d p.1 p.2.1 p.2.2) kvs
theorem mergeX_len : ∀ (more kvs : List XE), (mergeX kvs more).length ≤ kvs.length + more.length
  | [], kvs => by simp [mergeX]
  | p :: r, kvs => by
    show (mergeX (putX kvs p.1 p.2.1 p.2.2) r).length ≤ _
    have h1 := mergeX_len r (putX kvs p.1 p.2.1 p.2.2)
    have h2 := putX_len kvs p.1 p.2.1 p.2.2
    simp only [List.length_cons]
    omega
theorem KT2.merge : ∀ {more : List XE} {ys : List (List Key × Addr × Value)}, KT2 more ys → ∀ {kvs : List XE} {xs : List (List Key × Addr × Value)}, KT2 kvs xs → KT2 (mergeX kvs more) (storedAllH xs ys)
  | _, _, .nil, _, _, r => r
  | _, _, .cons (a := p) (b := q) h t, kvs, xs, r => by
    obtain ⟨h1, h2, h3⟩ := h
    have := KT2.put r p.1 (b := p.2.1) (u := q.2.2) h3
    show KT2 (mergeX (putX kvs p.1 p.2.1 p.2.2) _) (storedAllH (storedH xs q.1 q.2.1 q.2.2) _)
    rw [← h1, ← h2]
    exact KT2.merge t this
/-- d.update(e): tuples for keys, d not empty -/
def rUpdT (kx : Kx) : V → List V → Hp → VK → Prop := fun x xs H Q => ∃ (a c : Addr) (kvs more : List XE), x = .ref a ∧ xs = [.ref c] ∧ a ≠ c ∧ H a = some (dX kx.hs a kvs) ∧ KeysX kx.K H kvs ∧ Rd H c (dX kx.hs c more) ∧ KeysX kx.K H more ∧ kvs ≠ [] ∧ kvs.length + more.length ≤ sizeLine ∧ Q .non (upd H a (dX kx.hs a (mergeX kvs more)))
theorem mt_updT {X : Cx} (hu : X.A.units + 1 < cLine) : MtR X "dict.update" (rUpdT (kxX X)) := by
  intro pins s σ H x xs v us Q I rx rxs h
  obtain ⟨a, c, kvs, more, rfl, rfl, hac, ha, ka, hc, kc, hne, hl, q⟩ := h
  cases rx
  obtain ⟨u1, rfl, r1⟩ := Vals.one rxs
  cases r1
  obtain ⟨z0, hd, xs', rel, dd⟩ := dx_rd I.hok I.kIn ka (.inl ha)
  obtain ⟨z1, hd1, ys', rel1, dd1⟩ := dx_rd I.hok I.kIn kc hc
  have e1 := Paired.length rel
  have e2 := Paired.length rel1
  refine call_update_dictH (knd := tupleKind (mixKind X.prog X.w)) (tupleKind_room_in1 hu) hac hd1 dd dd1 (.inl fun e => hne (by
    subst e
    cases rel; rfl)) (by omega) fun h' dd' _ hs => ?_
  have hl2 := mergeX_len more kvs
  exact ⟨.non, _, dx_write (t' := s.toks) I ha (by omega) hd (KT2.merge rel1 rel) dd' hs, rfl, q⟩

/-- l.remove(y), there -/
def rRemD (K : PySem.W.Frag) : V → List V → Hp → VK → Prop := fun x xs H Q => ∃ (a : Addr) (vs : List V) (y : V) (d : PyData) (ds : List PyData) (j : Nat), x = V.ref a ∧ xs = [y] ∧ H a = some (.lst vs) ∧ DpAll K H vs ds ∧ Dp K H y d ∧
  SeqAt.shaped (.list ds) = true ∧ SeqAt.shaped d = true ∧ SeqAt.dataPlace ds d = some j ∧ Q .non (upd H a (.lst (vs.eraseIdx j)))
theorem mt_remD {X : Cx} (hu : X.A.units + 65 < cLine) : MtR X "list.remove" (rRemD X.K) := by
  intro pins s σ H x xs v us Q I rx rxs h
  obtain ⟨a, ws, y, d, ds, j, rfl, rfl, hH, hl, hy, sl, sd, hp, q⟩ := h
  cases rx
  obtain ⟨uy, rfl, ry⟩ := Vals.one rxs
  obtain ⟨bs, r1⟩ := Dp.reads I d y uy hy ry
  have hxs : PyData.canLayAll0 ds = true := SeqAt.canLay_of_shaped sl
  have hroom : X.A.units + 1 + min (PyData.depthAll ds) d.depth < cLine := room_in_shaped sd hu
  obtain ⟨z, its, n, r, hlen, e⟩ := I.lstM hH
  obtain ⟨as, h4⟩ := Dp.readsAll I ds _ its hl r
  have hpl : PyData.plainAll ds = true := PyData.plainAll_of_canLay0 ds hxs
  refine SeqAt.remove_list_data (l := a) (vs := its.toArray) ⟨_, e, rfl, n, rfl⟩ (show ReadsAll s.heap its.toArray.toList ds as from h4) r1 hpl (PyData.plain_of_canLay0 d (SeqAt.canLay_of_shaped sd)) hroom hp (by rw [List.size_toArray]; omega) ?_
  refine ⟨.non, _, I.lset (its' := its.eraseIdx j) (t' := s.toks) hH e ?_ (r.eraseIdx j) ?_, rfl, q⟩
  · show its.toArray.eraseIdxIfInBounds j = (its.eraseIdx j).toArray
    rw [List.eraseIdxIfInBounds_toArray]
  · have := List.length_eraseIdx_le ws j
    omega

section
variable {G : Gm} {pg : Pg} {b : Nat} {w : Wd}
theorem RepK.any {k : Key} : ∀ {kvs : List (Key × D)} {us : List (Key × V)}, RepK G w kvs us → (kvs.any fun kv => decide (kv.1 = k)) = us.any fun kv => decide (kv.1 = k)
  | [], _, h => by cases h; rfl
  | (g, x) :: r, us, h => by
    obtain ⟨u, ur, rfl, h1, h2⟩ := h
    rw [List.any_cons, List.any_cons, RepK.any h2]
theorem RepK.len : ∀ {kvs : List (Key × D)} {us : List (Key × V)}, RepK G w kvs us → kvs.length = us.length
  | [], _, h => by cases h; rfl
  | (g, x) :: r, us, h => by obtain ⟨u, ur, rfl, h1, h2⟩ := h; simp [RepK.len h2]
theorem RepK.upd {k : Key} {d : D} {v : V} (r : Rep G w d v) : ∀ {kvs : List (Key × D)} {us : List (Key × V)}, RepK G w kvs us → RepK G w (kvs.map fun kv => if kv.1 = k then (kv.1, d) else kv) (us.map fun kv => if kv.1 = k then (kv.1, v) else kv)
  | [], _, h => by cases h; rfl
  | (g, x) :: r', us, h => by
    obtain ⟨u, ur, rfl, h1, h2⟩ := h
    rw [List.map_cons, List.map_cons]
    by_cases e : g = k
    · rw [if_pos e, if_pos e]; exact ⟨v, _, rfl, r, RepK.upd r h2⟩
    · rw [if_neg e, if_neg e]; exact ⟨u, _, rfl, h1, RepK.upd r h2⟩
theorem RepK.snoc {k : Key} {d : D} {v : V} (r : Rep G w d v) : ∀ {kvs : List (Key × D)} {us : List (Key × V)}, RepK G w kvs us → RepK G w (kvs ++ [(k, d)]) (us ++ [(k, v)])
  | [], _, h => by cases h; exact ⟨v, [], rfl, r, rfl⟩
  | (g, x) :: r', us, h => by obtain ⟨u, ur, rfl, h1, h2⟩ := h; exact ⟨u, _, rfl, h1, RepK.snoc r h2⟩
theorem RepK.put {k : Key} {d : D} {v : V} (r : Rep G w d v) {kvs : List (Key × D)} {us : List (Key × V)} (h : RepK G w kvs us) : RepK G w (dput kvs k d) (putK us k v) := by
  unfold dput putK
  rw [h.any]
  split
  · exact h.upd r
  · exact h.snoc r
theorem closedK_put {n : Nat} {k : Key} {d : D} (hd : closed n d = true) {kvs : List (Key × D)} (h : closedK n kvs = true) : closedK n (dput kvs k d) = true := by
  unfold dput
  split
  · rename_i hh
    clear hh
    induction kvs with
    | nil => rfl
    | cons p r ih =>
      obtain ⟨g, x⟩ := p
      obtain ⟨h1, h2⟩ := Bool.and_eq_true_iff.mp h
      rw [List.map_cons]
      by_cases e : g = k
      · rw [if_pos e]; exact Bool.and_eq_true_iff.mpr ⟨hd, ih h2⟩
      · rw [if_neg e]; exact Bool.and_eq_true_iff.mpr ⟨h1, ih h2⟩
  · rename_i hh
    clear hh
    induction kvs with
    | nil => exact Bool.and_eq_true_iff.mpr ⟨hd, rfl⟩
    | cons p r ih =>
      obtain ⟨h1, h2⟩ := Bool.and_eq_true_iff.mp h
      exact Bool.and_eq_true_iff.mpr ⟨h1, ih h2⟩

theorem RepT.any {k : List Key} : ∀ {kvs : List (List Key × D)} {us : List XE}, RepT G w kvs us → (kvs.any fun kv => decide (kv.1 = k)) = us.any fun kv => decide (kv.1 = k)
  | [], _, h => by cases h; rfl
  | (g, x) :: r, us, h => by
    obtain ⟨p, u, ur, rfl, t, h1, h2⟩ := h
    rw [List.any_cons, List.any_cons, RepT.any h2]
theorem RepT.len : ∀ {kvs : List (List Key × D)} {us : List XE}, RepT G w kvs us → kvs.length = us.length
  | [], _, h => by cases h; rfl
  | (g, x) :: r, us, h => by obtain ⟨p, u, ur, rfl, t, h1, h2⟩ := h; simp [RepT.len h2]
theorem RepT.upd {k : List Key} {d : D} {v : V} (r : Rep G w d v) : ∀ {kvs : List (List Key × D)} {us : List XE}, RepT G w kvs us → RepT G w (kvs.map fun kv => if kv.1 = k then (kv.1, d) else kv) (us.map fun p => if p.1 = k then (p.1, p.2.1, v) else p)
  | [], _, h => by cases h; rfl
  | (g, x) :: r', us, h => by
    obtain ⟨p, u, ur, rfl, t, h1, h2⟩ := h
    rw [List.map_cons, List.map_cons]
    by_cases e : g = k
    · rw [if_pos e, if_pos e]; exact ⟨p, v, _, rfl, t, r, RepT.upd r h2⟩
    · rw [if_neg e, if_neg e]; exact ⟨p, u, _, rfl, t, h1, RepT.upd r h2⟩
theorem RepT.snoc {k : List Key} {b : Addr} {d : D} {v : V} (tb : TpA G w b (k.map kV)) (r : Rep G w d v) : ∀ {kvs : List (List Key × D)} {us : List XE}, RepT G w kvs us → RepT G w (kvs ++ [(k, d)]) (us ++ [(k, b, v)])
  | [], _, h => by cases h; exact ⟨b, v, [], rfl, tb, r, rfl⟩
  | (g, x) :: r', us, h => by obtain ⟨p, u, ur, rfl, t, h1, h2⟩ := h; exact ⟨p, u, _, rfl, t, h1, RepT.snoc tb r h2⟩
theorem RepT.put {k : List Key} {b : Addr} {d : D} {v : V} (tb : TpA G w b (k.map kV)) (r : Rep G w d v) {kvs : List (List Key × D)} {us : List XE} (h : RepT G w kvs us) : RepT G w (dput kvs k d) (putX us k b v) := by
  unfold dput putX
  rw [h.any]
  split
  · exact h.upd r
  · exact h.snoc tb r
theorem closedT_put {n : Nat} {k : List Key} {d : D} (hd : closed n d = true) {kvs : List (List Key × D)} (h : closedT n kvs = true) : closedT n (dput kvs k d) = true := by
  unfold dput
  split
  · rename_i hh
    clear hh
    induction kvs with
    | nil => rfl
    | cons p r ih =>
      obtain ⟨g, x⟩ := p
      obtain ⟨h1, h2⟩ := Bool.and_eq_true_iff.mp h
      rw [List.map_cons]
      by_cases e : g = k
      · rw [if_pos e]; exact Bool.and_eq_true_iff.mpr ⟨hd, ih h2⟩
      · rw [if_neg e]; exact Bool.and_eq_true_iff.mpr ⟨h1, ih h2⟩
  · rename_i hh
    clear hh
    induction kvs with
    | nil => exact Bool.and_eq_true_iff.mpr ⟨hd, rfl⟩
    | cons p r ih =>
      obtain ⟨h1, h2⟩ := Bool.and_eq_true_iff.mp h
      exact Bool.and_eq_true_iff.mpr ⟨h1, ih h2⟩


theorem RepK.drop {k : Key} : ∀ {kvs : List (Key × D)} {us : List (Key × V)}, RepK G w kvs us → RepK G w (ddrop kvs k) (dropK us k)
  | [], _, h => by cases h; rfl
  | (g, x) :: r, us, h => by
    obtain ⟨u, ur, rfl, h1, h2⟩ := h
    unfold ddrop dropK
    by_cases e : g = k
    · subst e
      simpa [ddrop, dropK] using RepK.drop (k := g) h2
    · have := RepK.drop (k := k) h2
      simp only [List.filter_cons, ne_eq, e, not_false_eq_true, decide_true, if_true]
      exact ⟨u, _, rfl, h1, this⟩
theorem RepT.drop {k : List Key} : ∀ {kvs : List (List Key × D)} {us : List XE}, RepT G w kvs us → RepT G w (ddrop kvs k) (dropX us k)
  | [], _, h => by cases h; rfl
  | (g, x) :: r, us, h => by
    obtain ⟨p, u, ur, rfl, t, h1, h2⟩ := h
    unfold ddrop dropX
    by_cases e : g = k
    · subst e
      simpa [ddrop, dropX] using RepT.drop (k := g) h2
    · have := RepT.drop (k := k) h2
      simp only [List.filter_cons, ne_eq, e, not_false_eq_true, decide_true, if_true]
      exact ⟨p, u, _, rfl, t, h1, this⟩
theorem closedK_drop {n : Nat} {k : Key} : ∀ {kvs : List (Key × D)}, closedK n kvs = true → closedK n (ddrop kvs k) = true
  | [], _ => rfl
  | (g, x) :: r, h => by
    obtain ⟨h1, h2⟩ := Bool.and_eq_true_iff.mp h
    unfold ddrop
    have := closedK_drop (k := k) h2
    by_cases e : g = k
    · subst e; simpa [ddrop] using this
    · simp only [List.filter_cons, ne_eq, e, not_false_eq_true, decide_true, if_true]
      exact Bool.and_eq_true_iff.mpr ⟨h1, this⟩
theorem closedT_drop {n : Nat} {k : List Key} : ∀ {kvs : List (List Key × D)}, closedT n kvs = true → closedT n (ddrop kvs k) = true
  | [], _ => rfl
  | (g, x) :: r, h => by
    obtain ⟨h1, h2⟩ := Bool.and_eq_true_iff.mp h
    unfold ddrop
    have := closedT_drop (k := k) h2
    by_cases e : g = k
    · subst e; simpa [ddrop] using this
    · simp only [List.filter_cons, ne_eq, e, not_false_eq_true, decide_true, if_true]
      exact Bool.and_eq_true_iff.mpr ⟨h1, this⟩
theorem RepT.merge : ∀ {more : List (List Key × D)} {ms : List XE}, RepT G w more ms → ∀ {kvs : List (List Key × D)} {us : List XE}, RepT G w kvs us → RepT G w (dmerge kvs more) (mergeX us ms)
  | [], _, h, _, _, r => by cases h; exact r
  | (g, x) :: m, _, h, kvs, us, r => by
    obtain ⟨p, u, ur, rfl, t, h1, h2⟩ := h
    exact RepT.merge h2 (RepT.put t h1 r)
theorem closedT_merge {n : Nat} : ∀ {more kvs : List (List Key × D)}, (more.all fun p => closed n p.2) = true → closedT n kvs = true → closedT n (dmerge kvs more) = true
  | [], _, _, h => h
  | (g, x) :: m, kvs, h1, h => by
    rw [List.all_cons] at h1
    obtain ⟨h2, h3⟩ := Bool.and_eq_true_iff.mp h1
    show closedT n (dmerge (dput kvs g x) m) = true
    exact closedT_merge h3 (closedT_put h2 h)
end
end Den
set_option maxHeartbeats 2000000
/-! DBm: methods of lists and dicts. -/
namespace Den
open PySem L2 PySem.Spec PyProof.Rows

section
variable {G : Gm} {w : Wd} {pg : Pg} {b : Nat}
/-- what a built-in class's method asks and gives -/
structure BmOk (G : Gm) (b : Nat) (X : Cx) (m : M) (T id : String) (r : V → List V → Hp → VK → Prop) : Prop where
  pa : PlainAttrs T
  slot : Slot T (nmM m) id
  ty : typeOf (.builtin id) = pure (.type "method_descriptor")
  mt : MtR X id r
  hT : ∀ (w : Wd) (o : D) (v : V), Ok G w → Rep G w o v → bmT m w.st o = true → tyV G.kx T v w.H
  hr : ∀ (w : Wd) (o : D) (v : V) (ds : List D) (vs : List V) (W : WX) (σ : L2.St) (Q : VK), Ok G w → b ≤ w.st.length → Rep G w o v → Reps G w ds vs → Post G b w (bmeth m o ds w.st b) W σ (KV1 G Q) → r v vs w.H Q
theorem bm_ok {X : Cx} {ck : CK} {W : WX} {m : M} {T id : String} {r : V → List V → Hp → VK → Prop} {a as : E} (B : BmOk G b X m T id r) (se : SE G pg b a) (sa : SA G pg b as) (xg : XG X G pg ck) (tk : TkB G X W) {e : Expr} (h : chkE ck (.bm m a as) e = true) :
    PE X e (tE G pg b (epn X ck) W (.bm m a as)) := by
  cases e <;> try (exact (Bool.false_ne_true h).elim)
  rename_i g es ks pos
  cases g <;> try (exact (Bool.false_ne_true h).elim)
  rename_i o n ap
  cases ks <;> try (exact (Bool.false_ne_true h).elim)
  simp only [chkE, Bool.and_eq_true, beq_iff_eq, Bool.not_eq_true', decide_eq_true_eq] at h
  obtain ⟨⟨⟨⟨⟨⟨⟨h1, h2⟩, h3⟩, h4⟩, h5⟩, h6⟩, h7⟩, h8⟩ := h
  have rd : ∀ σ H Q, tE G pg b (epn X ck) W (.bm m a as) σ H Q → tE G pg b (epn X ck) W a σ H (fun x H1 => tyV (kxX X) T x H1 ∧ tA G pg b (epn X ck) W as σ H1 fun xs H2 => r x xs H2 Q) := fun σ H Q ⟨w, ρ, p, q⟩ => by
    refine tE.of p q.bind fun d w1 v p1 e1 k1 r1 => ?_
    split at k1
    · rename_i hb
      refine ⟨by rw [xg.kx]; exact B.hT w1 d v p1.ok r1 hb, tA.of p1 k1.bind fun ds w2 vs p2 e2 k2 r2 => ?_⟩
      exact B.hr w2 d v ds vs W σ Q p2.ok p2.hb (Rep.ext e2 _ _ r1) r2 k2
    · exact k1.elim
  subst h2
  cases es with
  | nil =>
    refine (pe_bm0 (to := tE G pg b (epn X ck) W a) B.pa B.slot B.ty B.mt (se X ck W xg tk o h7) (attr_plain h3) (beq_iff_eq.mpr h5)).imp fun σ H Q q => ?_
    cases as <;> try (exact (Bool.false_ne_true h8).elim)
    obtain ⟨w, ρ, p, q⟩ := rd σ H Q q
    refine ⟨w, ρ, p, q.mono fun d w1 ok1 e1 k1 v rv => ?_⟩
    obtain ⟨k2, w2, ρ2, p2, q2⟩ := k1 v rv
    refine ⟨k2, ?_⟩
    have := (show Post G b w2 (.ok [] w2.st) W σ (fun ds w' => ∀ vs, Reps G w' ds vs → r v vs w'.H Q) from q2).here p2.ok [] rfl
    rw [p2.H] at this
    exact this
  | cons e es =>
    obtain ⟨hs, hp⟩ := chkA_cons (env := X.env) h8
    refine (pe_bm (to := tE G pg b (epn X ck) W a) B.pa B.slot B.ty B.mt (se X ck W xg tk o h7) (sa X ck W xg tk _ h8) (attr_plain h3) ?_ (beq_iff_eq.mpr h5) hs (hp pos)).imp rd
    have := few_form (env := X.env) (pos := pos) h8 h4
    exact this
theorem lst_ty0 {m : M} (h1 : lstM m = true) (h2 : dicM m = false) (h3 : strM m = false) : ∀ (w : Wd) (o : D) (v : V), Ok G w → Rep G w o v → bmT m w.st o = true → L2.tyV G.K "list" v w.H := fun w o v ok r h => by
  unfold bmT at h
  cases hl : look w.st o with
  | none => simp only [hl] at h; cases h
  | some c =>
    simp only [hl] at h
    cases c <;> try (first | (cases h; done) | (rw [h2] at h; cases h; done) | (rw [h3] at h; cases h; done))
    have a := At.of ok r hl
    cases a with
    | lst z q => exact .inl ⟨rfl, _, SqL.of z⟩
theorem lst_ty {m : M} (h1 : lstM m = true) (h2 : dicM m = false) (h3 : strM m = false) : ∀ (w : Wd) (o : D) (v : V), Ok G w → Rep G w o v → bmT m w.st o = true → tyV G.kx "list" v w.H := fun w o v ok r h => .inl (lst_ty0 h1 h2 h3 w o v ok r h)
theorem fits_cl {i c : Nat} {x : D} (h : fits b i x = true) (h1 : i < c) (h2 : c ≤ b) : closed c x = true := by
  unfold fits at h
  rcases Bool.or_eq_true_iff.mp h with h | h
  · have := of_decide_eq_true h; omega
  · exact closed_mono (Nat.le_of_lt h1) x h
theorem closedL_append {n : Nat} : ∀ {xs ys : List D}, closedL n (xs ++ ys) = (closedL n xs && closedL n ys)
  | [], ys => by simp [closedL]
  | x :: xs, ys => by simp [closedL, closedL_append (xs := xs), Bool.and_assoc]
theorem closedL_rev {n : Nat} : ∀ {xs : List D}, closedL n xs.reverse = closedL n xs
  | [] => rfl
  | x :: xs => by simp [closedL, closedL_append, closedL_rev (xs := xs), Bool.and_comm]
theorem closedL_mem {n : Nat} : ∀ {xs : List D}, closedL n xs = true ↔ ∀ x ∈ xs, closed n x = true
  | [] => by simp [closedL]
  | x :: xs => by simp [closedL, closedL_mem (xs := xs)]
/-- an object of the store at hand -/
theorem mu_lst (ok : Ok G w) {i : Nat} {xs : List D} {v : V} (r : Rep G w (.loc i) v) (h : w.st[i]? = some (.mu (.lst xs))) : ∃ a vs, v = .ref a ∧ w.φ[i]? = some a ∧ w.H a = some (.lst vs) ∧ Reps G w xs vs := by
  obtain ⟨a, rfl, ha⟩ := r
  obtain ⟨vs, z, q⟩ : RepC G w (.lst xs) a := ok.cell i _ a h ha
  exact ⟨a, vs, rfl, ha, z, q⟩
/-- a list changes -/
theorem lst_set (ok : Ok G w) {i : Nat} {xs ys : List D} {a : Addr} {us : List V} {W : WX} {σ : L2.St} {Q : VK} {d : D} {u : V} (ha : w.φ[i]? = some a) (h : w.st[i]? = some (.mu (.lst xs))) (q : ∀ w', Ext b w w' → Reps G w' ys us)
    (hc : ∀ c, i < c → c ≤ b → closedL c xs = true → closedL c ys = true) (rd : Rep G w d u) (k : Post G b w (.ok d (w.st.set i (.mu (.lst ys)))) W σ (KV1 G Q)) : Q u (upd w.H a (.lst us)) := by
  obtain ⟨e, o⟩ := write (b := b) (d' := .lst ys) ok h ha (fun w' e z => ⟨us, z, q w' e⟩) hc
  exact k _ rfl o e u (Rep.ext e d u rd)
theorem bm_append {X : Cx} : BmOk G b X .append "list" "list.append" rAppend := ⟨PySem.F.plainAttrs_list, PySem.F.slot_list_append, PySem.F.type_list_append, mt_append, lst_ty rfl rfl rfl, fun w o v ds vs W σ Q ok hb r rs k => by
  dsimp only [bmeth] at k
  split at k
  · rename_i i x
    split at k
    · rename_i xs hx
      split at k
      · rename_i hc
        obtain ⟨h1, h2⟩ := Bool.and_eq_true_iff.mp hc
        obtain ⟨a, us, rfl, ha, z, q⟩ := mu_lst ok r hx
        obtain ⟨u, ur, rfl, r1, r2⟩ := rs
        cases r2
        refine ⟨a, us, u, rfl, rfl, z, by rw [← q.length, ← lim]; exact of_decide_eq_true h1, ?_⟩
        exact lst_set ok ha hx (fun w' e => (Reps.ext e _ _ q).append (es := [x]) ⟨u, [], rfl, Rep.ext e _ _ r1, rfl⟩) (fun c hc1 hc2 hc3 => by
          rw [closedL_append, hc3]; simp [closedL, fits_cl h2 hc1 hc2]) (d := .non) rfl k
      · exact k.elim
    · exact k.elim
  · exact k.elim⟩
theorem bm_clear {X : Cx} : BmOk G b X .clear "list" "list.clear" rClear := ⟨PySem.F.plainAttrs_list, PySem.F.slot_list_clear, PySem.F.type_list_clear, mt_clear, lst_ty rfl rfl rfl, fun w o v ds vs W σ Q ok hb r rs k => by
  dsimp only [bmeth] at k
  split at k
  · rename_i i
    split at k
    · rename_i xs hx
      obtain ⟨a, us, rfl, ha, z, q⟩ := mu_lst ok r hx
      cases rs
      exact ⟨a, us, rfl, rfl, z, lst_set ok ha hx (ys := []) (fun w' e => rfl) (fun _ _ _ _ => rfl) (d := .non) rfl k⟩
    · exact k.elim
  · exact k.elim⟩
theorem bm_reverse {X : Cx} : BmOk G b X .reverse "list" "list.reverse" rReverse := ⟨PySem.F.plainAttrs_list, PySem.F.slot_list_reverse, PySem.F.type_list_reverse, mt_reverse, lst_ty rfl rfl rfl, fun w o v ds vs W σ Q ok hb r rs k => by
  dsimp only [bmeth] at k
  split at k
  · rename_i i
    split at k
    · rename_i xs hx
      obtain ⟨a, us, rfl, ha, z, q⟩ := mu_lst ok r hx
      cases rs
      exact ⟨a, us, rfl, rfl, z, lst_set ok ha hx (fun w' e => (Reps.ext e _ _ q).reverse) (fun _ _ _ h => by rw [closedL_rev]; exact h) (d := .non) rfl k⟩
    · exact k.elim
  · exact k.elim⟩
theorem bm_pop {X : Cx} : BmOk G b X .pop "list" "list.pop" rPop := ⟨PySem.F.plainAttrs_list, PySem.F.slot_list_pop, PySem.F.type_list_pop, mt_pop, lst_ty rfl rfl rfl, fun w o v ds vs W σ Q ok hb r rs k => by
  dsimp only [bmeth] at k
  split at k
  · rename_i i
    split at k
    · rename_i xs hx
      split at k
      · rename_i y hy
        obtain ⟨a, us, rfl, ha, z, q⟩ := mu_lst ok r hx
        cases rs
        obtain ⟨u, hu, ru⟩ := q.get hy
        refine ⟨a, us, u, rfl, rfl, z, by rw [← q.length]; exact hu, lst_set ok ha hx (fun w' e => (Reps.ext e _ _ q).dropLast) (fun _ _ _ h => ?_) ru k⟩
        rw [closedL_mem] at h ⊢
        exact fun x hx => h x (List.dropLast_subset _ hx)
      · exact k.elim
    · exact k.elim
  · exact k.elim⟩
theorem bm_insert {X : Cx} : BmOk G b X .insert "list" "list.insert" (fun x vs H Q => ∃ (l : Addr) (xs : List V) (i : Int) (y : V), x = .ref l ∧ vs = [.int i, y] ∧ H l = some (.lst xs) ∧ xs.length < sizeLine ∧ 0 ≤ i ∧ i < 2 ^ 63 ∧
    Q .non (upd H l (.lst (xs.take i.toNat ++ [y] ++ xs.drop i.toNat)))) := ⟨PySem.F.plainAttrs_list, PySem.F.slot_list_insert, PySem.F.type_list_insert, mt_insert, lst_ty rfl rfl rfl, fun w o v ds vs W σ Q ok hb r rs k => by
  dsimp only [bmeth] at k
  split at k
  · rename_i i n x
    split at k
    · rename_i xs hx
      split at k
      · rename_i hc
        simp only [Bool.and_eq_true, decide_eq_true_eq] at hc
        obtain ⟨⟨⟨⟨h1, h2⟩, h3⟩, h4⟩, h5⟩ := hc
        obtain ⟨a, us, rfl, ha, z, q⟩ := mu_lst ok r hx
        obtain ⟨u, ur, rfl, r1, u2, ur2, rfl, r2, r3⟩ := rs
        cases r1
        cases r3
        have h1' := smallI_ok h1
        refine ⟨a, us, n, u2, rfl, rfl, z, by rw [← q.length, ← lim]; exact h4, h2, by omega, ?_⟩
        refine lst_set ok ha hx (ys := xs.take n.toNat ++ x :: xs.drop n.toNat) (fun w' e => ?_) (fun c hc1 hc2 hc3 => ?_) (d := .non) rfl k
        · rw [List.append_assoc]
          exact ((Reps.ext e _ _ q).take _).append (es := x :: xs.drop n.toNat) ⟨u2, _, rfl, Rep.ext e _ _ r2, (Reps.ext e _ _ q).drop _⟩
        · rw [closedL_append]
          simp only [closedL, Bool.and_eq_true]
          rw [closedL_mem] at hc3
          exact ⟨closedL_mem.mpr fun y hy => hc3 y (List.mem_of_mem_take hy), fits_cl h5 hc1 hc2, closedL_mem.mpr fun y hy => hc3 y (List.mem_of_mem_drop hy)⟩
      · exact k.elim
    · exact k.elim
  · exact k.elim⟩
theorem bm_extend {X : Cx} : BmOk G b X .extend "list" "list.extend" rExtend := ⟨PySem.F.plainAttrs_list, PySem.F.slot_list_extend, PySem.F.type_list_extend, mt_extend, lst_ty rfl rfl rfl, fun w o v ds vs W σ Q ok hb r rs k => by
  dsimp only [bmeth] at k
  split at k
  · rename_i i d
    split at k
    · rename_i xs ys hx hy
      split at k
      · rename_i hc
        obtain ⟨h1, h2⟩ := Bool.and_eq_true_iff.mp hc
        obtain ⟨a, us, rfl, ha, z, q⟩ := mu_lst ok r hx
        obtain ⟨u, ur, rfl, r1, r2⟩ := rs
        cases r2
        have a1 := At.of ok r1 hy
        cases a1 with
        | lst z2 q2 =>
          refine ⟨a, _, us, _, rfl, rfl, z, z2, by rw [← q.length, ← q2.length, ← lim]; exact of_decide_eq_true h1, ?_⟩
          refine lst_set ok ha hx (fun w' e => (Reps.ext e _ _ q).append (Reps.ext e _ _ q2)) (fun c hc1 hc2 hc3 => ?_) (d := .non) rfl k
          rw [closedL_append, hc3, Bool.true_and, closedL_mem]
          exact fun y hy => fits_cl (List.all_eq_true.mp h2 y hy) hc1 hc2
      · exact k.elim
    · exact k.elim
  · exact k.elim⟩

/-! ### dict.get -/
theorem isD_of (ok : Ok G w) {o : D} {v : V} {m : M} (r : Rep G w o v) (h1 : lstM m = false) (h3 : strM m = false) (h : bmT m w.st o = true) : ∃ a, v = .ref a ∧ IsD G.kx w.H a := by
  unfold bmT at h
  cases hl : look w.st o with
  | none => simp only [hl] at h; cases h
  | some c =>
    simp only [hl] at h
    have a := At.of ok r hl
    cases a <;> first | (cases h; done) | (rw [h1] at h; cases h; done) | (rw [h3] at h; cases h; done) | skip
    · rename_i z q; exact ⟨_, rfl, .inl ⟨_, z⟩⟩
    · rename_i z q; exact ⟨_, rfl, .inr ⟨_, z, q.keys⟩⟩
theorem m1_of {X : Cx} {ck : CK} {o e : Expr} {n : Str} {ap pos : Pos} {as : E} (h3 : noSup o = true) (h5 : ap.endLine = pos.line) (h8 : chkA ck as [e] = true) : M1 X o n ap e pos := by
  obtain ⟨hs, hp⟩ := chkA_cons (env := X.env) h8
  have hs' : starEach [e] X.env = [(false, eval e X.env)] := hs
  exact ⟨attr_plain h3, few_form (env := X.env) (pos := pos) h8 (by show 1 < 30; decide), beq_iff_eq.mpr h5, by rw [hs']; rfl⟩
theorem m2_of {X : Cx} {ck : CK} {o e f : Expr} {n : Str} {ap pos : Pos} {as : E} (h3 : noSup o = true) (h5 : ap.endLine = pos.line) (h8 : chkA ck as [e, f] = true) : M2 X o n ap e f pos := by
  cases as <;> try (exact (Bool.false_ne_true h8).elim)
  rename_i a1 a2
  have h8' := Bool.and_eq_true_iff.mp h8
  have hs : starEach [e, f] X.env = (false, eval e X.env) :: starEach [f] X.env := (chkA_cons (env := X.env) h8).1
  have hs2 : starEach [f] X.env = [(false, eval f X.env)] := (chkA_cons (env := X.env) h8'.2).1
  exact ⟨attr_plain h3, few_form (env := X.env) (pos := pos) h8 (by show 2 < 30; decide), beq_iff_eq.mpr h5, by rw [hs, hs2]; rfl⟩
theorem get_core (ok : Ok G w) {o k : D} {v u : V} {m : M} (r : Rep G w o v) (rk : Rep G w k u) {oo : Option D} (h : (look w.st o).bind (fun d => dlook d k) = some oo) :
    ∃ p z, v = .ref p ∧ DGet G.kx w.H p u z ∧ ((oo = none ∧ z = none) ∨ ∃ d y, oo = some d ∧ z = some y ∧ Rep G w d y) := by
  obtain ⟨c, h1, h2⟩ := Option.bind_eq_some_iff.mp h
  exact dlook_get ok (At.of ok r h1) rk h2
theorem bind_assoc {α β γ : Type} (r : Res α) (f : α → Sto → Res β) (g : β → Sto → Res γ) : (r.bind f).bind g = r.bind fun a st => (f a st).bind g := by cases r <;> rfl
theorem arg1 {ρ : DEnv} {W : WX} {σ : L2.St} {α : Type} {ka : E} {f : List D → Sto → Res α} {K : α → Wd → Prop} (k : Post G b w ((evA pg b (.cons ka .nil) ρ w.st).bind f) W σ K) : Post G b w (evE pg b ka ρ w.st) W σ (fun d2 w2 => Post G b w2 (f [d2] w2.st) W σ K) := by
  have e : evA pg b (.cons ka .nil) ρ w.st = (evE pg b ka ρ w.st).bind fun x st => .ok [x] st := rfl
  rw [e, bind_assoc] at k
  exact k.bind
theorem arg2 {ρ : DEnv} {W : WX} {σ : L2.St} {α : Type} {ka kb : E} {f : List D → Sto → Res α} {K : α → Wd → Prop} (k : Post G b w ((evA pg b (.cons ka (.cons kb .nil)) ρ w.st).bind f) W σ K) :
    Post G b w (evE pg b ka ρ w.st) W σ (fun d2 w2 => Post G b w2 (evE pg b kb ρ w2.st) W σ (fun d3 w3 => Post G b w3 (f [d2, d3] w3.st) W σ K)) := by
  have e : evA pg b (.cons ka (.cons kb .nil)) ρ w.st = (evE pg b ka ρ w.st).bind fun x st => (evE pg b kb ρ st).bind fun y st => .ok [x, y] st := by
    show (evE pg b ka ρ w.st).bind (fun x st => ((evE pg b kb ρ st).bind fun y st => .ok [y] st).bind fun xs st => .ok (x :: xs) st) = _
    congr
    funext x st
    rw [bind_assoc]; rfl
  rw [e, bind_assoc] at k
  refine k.bind.mono fun d2 w2 _ _ k2 => ?_
  rw [bind_assoc] at k2
  exact k2.bind
theorem s_get1 {a as : E} (se : SE G pg b a) (ee : EachE (SE G pg b) as) : SE G pg b (.bm .get1 a as) := fun X ck W xg tk e h => by
  cases e <;> try (exact (Bool.false_ne_true h).elim)
  rename_i g es ks pos
  cases g <;> try (exact (Bool.false_ne_true h).elim)
  rename_i o n ap
  cases ks <;> try (exact (Bool.false_ne_true h).elim)
  simp only [chkE, Bool.and_eq_true, beq_iff_eq, Bool.not_eq_true', decide_eq_true_eq] at h
  obtain ⟨⟨⟨⟨⟨⟨⟨h1, h2⟩, h3⟩, h4⟩, h5⟩, h6⟩, h7⟩, h8⟩ := h
  subst h2
  cases as <;> try (cases h6; done)
  rename_i ka kr
  cases kr <;> try (cases h6; done)
  cases es with
  | nil => exact (Bool.false_ne_true h8).elim
  | cons k r =>
    have h9 := Bool.and_eq_true_iff.mp h8
    cases r with
    | cons _ _ => exact (Bool.false_ne_true h9.2).elim
    | nil =>
      have hk := (Bool.and_eq_true_iff.mp h9.1).2
      refine (pe_dget1 (by have := xg.hu; omega) (se X ck W xg tk o h7) (ee.1 X ck W xg tk k hk) (m1_of h3 h5 h8)).imp fun σ H Q ⟨w, ρ, p, q⟩ => ?_
      rw [xg.kx]
      refine tE.of p q.bind fun d w1 v p1 e1 k1 r1 => ?_
      split at k1
      · rename_i hb
        obtain ⟨p0, rfl, hd⟩ := isD_of p1.ok r1 rfl rfl hb
        refine ⟨p0, rfl, hd, tE.of p1 (arg1 k1) fun d2 w2 v2 p2 e2 k2 r2 => ?_⟩
        dsimp only [bmeth] at k2
        split at k2
        · rename_i oo ho
          obtain ⟨p1', z, e', hg, hz⟩ := get_core (m := .get1) p2.ok (Rep.ext e2 _ _ r1) r2 ho
          cases e'
          refine ⟨z, hg, ?_⟩
          rcases hz with ⟨rfl, rfl⟩ | ⟨d3, y, rfl, rfl, ry⟩
          · exact k2.here p2.ok _ rfl
          · exact k2.here p2.ok _ ry
        · exact k2.elim
      · exact k1.elim
theorem s_get2 {a as : E} (se : SE G pg b a) (ee : EachE (SE G pg b) as) : SE G pg b (.bm .get2 a as) := fun X ck W xg tk e h => by
  cases e <;> try (exact (Bool.false_ne_true h).elim)
  rename_i g es ks pos
  cases g <;> try (exact (Bool.false_ne_true h).elim)
  rename_i o n ap
  cases ks <;> try (exact (Bool.false_ne_true h).elim)
  simp only [chkE, Bool.and_eq_true, beq_iff_eq, Bool.not_eq_true', decide_eq_true_eq] at h
  obtain ⟨⟨⟨⟨⟨⟨⟨h1, h2⟩, h3⟩, h4⟩, h5⟩, h6⟩, h7⟩, h8⟩ := h
  subst h2
  cases as <;> try (cases h6; done)
  rename_i ka kr
  cases kr <;> try (cases h6; done)
  rename_i kb kr
  cases kr <;> try (cases h6; done)
  cases es with
  | nil => exact (Bool.false_ne_true h8).elim
  | cons k r =>
    have h9 := Bool.and_eq_true_iff.mp h8
    cases r with
    | nil => exact (Bool.false_ne_true h9.2).elim
    | cons k' r =>
      have h10 := Bool.and_eq_true_iff.mp h9.2
      cases r with
      | cons _ _ => exact (Bool.false_ne_true h10.2).elim
      | nil =>
        have hk := (Bool.and_eq_true_iff.mp h9.1).2
        have hk' := (Bool.and_eq_true_iff.mp h10.1).2
        refine (pe_dget2 (by have := xg.hu; omega) (se X ck W xg tk o h7) (ee.1 X ck W xg tk k hk) (ee.2.1 X ck W xg tk k' hk') (m2_of h3 h5 h8)).imp fun σ H Q ⟨w, ρ, p, q⟩ => ?_
        rw [xg.kx]
        refine tE.of p q.bind fun d w1 v p1 e1 k1 r1 => ?_
        split at k1
        · rename_i hb
          obtain ⟨p0, rfl, hd⟩ := isD_of p1.ok r1 rfl rfl hb
          refine ⟨p0, rfl, hd, tE.of p1 (arg2 k1) fun d2 w2 v2 p2 e2 k2 r2 => tE.of p2 k2 fun d3 w3 v3 p3 e3 k3 r3 => ?_⟩
          dsimp only [bmeth] at k3
          split at k3
          · rename_i oo ho
            obtain ⟨p1', z, e', hg, hz⟩ := get_core (m := .get2) p3.ok (Rep.ext (e2.trans e3) _ _ r1) (Rep.ext e3 _ _ r2) ho
            cases e'
            refine ⟨z, hg, ?_⟩
            rcases hz with ⟨rfl, rfl⟩ | ⟨d3, y, rfl, rfl, ry⟩
            · exact k3.here p3.ok _ r3
            · exact k3.here p3.ok _ ry
          · exact k3.elim
        · exact k1.elim
/-! ### methods that change a dict; places in a list -/
theorem dic_ty {m : M} (h1 : lstM m = false) (h2 : dicW m = true) (h3 : strM m = false) : ∀ (w : Wd) (o : D) (v : V), Ok G w → Rep G w o v → bmT m w.st o = true → tyV G.kx "dict" v w.H := fun w o v ok r h => by
  have hm : isMu w.st o = true := by
    unfold bmT at h
    cases hl : look w.st o with
    | none => simp only [hl] at h; cases h
    | some c => cases c <;> simp only [hl, h1, h2, h3, Bool.not_true, Bool.false_or, Bool.and_eq_true] at h <;> first | exact h.2 | cases h
  unfold isMu at hm
  split at hm
  · rename_i i
    split at hm
    · rename_i d hd
      obtain ⟨a, rfl, ha⟩ := r
      have q := ok.cell i _ a hd ha
      unfold bmT at h
      have hl : look w.st (.loc i) = some d := by unfold look; simp only [hd]
      cases d with
      | dK kvs => obtain ⟨us, z, _⟩ : RepC G w (.dK kvs) a := q; exact .inl (.inr (.inr (.inl ⟨rfl, .inl ⟨us, z⟩⟩)))
      | dT kvs => obtain ⟨us, z, _⟩ : RepC G w (.dT kvs) a := q; exact .inr ⟨rfl, a, us, rfl, z⟩
      | _ => simp only [hl, h1, h3, Bool.false_eq_true] at h
    · cases hm
  · cases hm
theorem key_K (ok : Ok G w) {k : D} {u : V} {kk : Key} (r : Rep G w k u) (e : toK k = some kk) : u = kV kk := toK_rep r e
theorem mu_dK (ok : Ok G w) {i : Nat} {kvs : List (Key × D)} {v : V} (r : Rep G w (.loc i) v) (h : w.st[i]? = some (.mu (.dK kvs))) : ∃ a us, v = .ref a ∧ w.φ[i]? = some a ∧ w.H a = some (.dK us) ∧ RepK G w kvs us := by
  obtain ⟨a, rfl, ha⟩ := r
  obtain ⟨us, z, q⟩ : RepC G w (.dK kvs) a := ok.cell i _ a h ha
  exact ⟨a, us, rfl, ha, z, q⟩
theorem mu_dT (ok : Ok G w) {i : Nat} {kvs : List (List Key × D)} {v : V} (r : Rep G w (.loc i) v) (h : w.st[i]? = some (.mu (.dT kvs))) : ∃ a us, v = .ref a ∧ w.φ[i]? = some a ∧ w.H a = some (dX G.hs a us) ∧ RepT G w kvs us := by
  obtain ⟨a, rfl, ha⟩ := r
  obtain ⟨us, z, q⟩ : RepC G w (.dT kvs) a := ok.cell i _ a h ha
  exact ⟨a, us, rfl, ha, z, q⟩
theorem dK_set (ok : Ok G w) {i : Nat} {xs ys : List (Key × D)} {a : Addr} {us : List (Key × V)} {W : WX} {σ : L2.St} {Q : VK} {d : D} {u : V} (ha : w.φ[i]? = some a) (h : w.st[i]? = some (.mu (.dK xs))) (q : ∀ w', Ext b w w' → RepK G w' ys us)
    (hc : ∀ c, i < c → c ≤ b → closedK c xs = true → closedK c ys = true) (rd : Rep G w d u) (k : Post G b w (.ok d (w.st.set i (.mu (.dK ys)))) W σ (KV1 G Q)) : Q u (upd w.H a (.dK us)) := by
  obtain ⟨e, o⟩ := write (b := b) (d' := .dK ys) ok h ha (fun w' e z => ⟨us, z, q w' e⟩) hc
  exact k _ rfl o e u (Rep.ext e d u rd)
theorem dT_set (ok : Ok G w) {i : Nat} {xs ys : List (List Key × D)} {a : Addr} {us : List XE} {W : WX} {σ : L2.St} {Q : VK} {d : D} {u : V} (ha : w.φ[i]? = some a) (h : w.st[i]? = some (.mu (.dT xs))) (q : ∀ w', Ext b w w' → RepT G w' ys us)
    (hc : ∀ c, i < c → c ≤ b → closedT c xs = true → closedT c ys = true) (rd : Rep G w d u) (k : Post G b w (.ok d (w.st.set i (.mu (.dT ys)))) W σ (KV1 G Q)) : Q u (upd w.H a (dX G.hs a us)) := by
  obtain ⟨e, o⟩ := write (b := b) (d' := .dT ys) (o := dX G.hs a us) ok h ha (fun w' e z => ⟨us, z, q w' e⟩) hc
  exact k _ rfl o e u (Rep.ext e d u rd)
theorem bm_setd {X : Cx} (xk : kxX X = G.kx) (hu : X.A.units + 1 < cLine) : BmOk G b X .setdef "dict" "dict.setdefault" (rSetd G.kx) := ⟨PySem.F.plainAttrs_dict, PySem.F.slot_dict_setdefault, PySem.F.type_dict_setdefault, xk ▸ mt_setd hu, dic_ty rfl rfl rfl, fun w o v ds vs W σ Q ok hb r rs k => by
  dsimp only [bmeth] at k
  split at k
  · rename_i i kd x
    split at k
    · rename_i d hd
      obtain ⟨uy, ur, rfl, r1, uz, ur2, rfl, r2, r3⟩ := rs
      cases r3
      cases d with
      | dK kvs =>
        obtain ⟨a, us, rfl, ha, z, q⟩ := mu_dK ok r hd
        have hl0 := q.len
        dsimp only [dlook] at k
        cases hk : toK kd with
        | none => rw [hk] at k; exact k.elim
        | some kk =>
          rw [hk] at k
          dsimp only [Option.map_some] at k
          refine ⟨a, _, _, rfl, rfl, .inl ⟨us, kk, z, toK_rep r1 hk, ?_⟩⟩
          rcases q.val kk with ⟨h1, h2⟩ | ⟨d0, z0, h1, h2, h3⟩
          · rw [h1] at k
            dsimp only at k
            split at k
            · rename_i hf
              dsimp only [dputD] at k
              rw [hk] at k
              dsimp only [Option.bind_some] at k
              by_cases hl : kvs.length < LIM
              · rw [if_pos hl] at k
                refine ⟨by rw [← hl0, ← lim]; exact hl, fun v hv => (by rw [h2] at hv; cases hv), fun _ => ?_⟩
                exact dK_set ok ha hd (fun w' e => RepK.put (Rep.ext e _ _ r2) (RepK.ext e _ _ q)) (fun c hc1 hc2 hc3 => closedK_put (fits_cl hf hc1 hc2) hc3) r2 k
              · rw [if_neg hl] at k; exact k.elim
            · exact k.elim
          · rw [h1] at k
            dsimp only at k
            by_cases hl : dsz (.dK kvs) < LIM
            · rw [if_pos hl] at k
              refine ⟨by rw [← hl0, ← lim]; exact hl, fun v hv => ?_, fun hn => (by rw [h2] at hn; cases hn)⟩
              rw [h2] at hv; cases hv
              exact k.here ok _ h3
            · rw [if_neg hl] at k; exact k.elim
      | dT kvs =>
        obtain ⟨a, us, rfl, ha, z, q⟩ := mu_dT ok r hd
        have hl0 := q.len
        dsimp only [dlook] at k
        cases kd <;> try (exact k.elim)
        rename_i ks
        dsimp only at k
        cases hk : toKs ks with
        | none => rw [hk] at k; exact k.elim
        | some kk =>
          rw [hk] at k
          dsimp only [Option.map_some] at k
          obtain ⟨a', vs', rfl, ta, qa⟩ := r1
          have ek := toKs_reps qa hk
          subst ek
          refine ⟨a, _, _, rfl, rfl, .inr ⟨us, kk, a', z, q.keys, rfl, ta.key, ?_⟩⟩
          rcases q.val kk with ⟨h1, h2⟩ | ⟨d0, z0, h1, h2, h3⟩
          · rw [h1] at k
            dsimp only at k
            split at k
            · rename_i hf
              dsimp only [dputD] at k
              rw [hk] at k
              dsimp only [Option.bind_some] at k
              by_cases hl : kvs.length < LIM
              · rw [if_pos hl] at k
                refine ⟨by rw [← hl0, ← lim]; exact hl, fun v hv => (by rw [h2] at hv; cases hv), fun _ => ?_⟩
                exact dT_set ok ha hd (fun w' e => RepT.put (ta.ext e) (Rep.ext e _ _ r2) (RepT.ext e _ _ q)) (fun c hc1 hc2 hc3 => closedT_put (fits_cl hf hc1 hc2) hc3) r2 k
              · rw [if_neg hl] at k; exact k.elim
            · exact k.elim
          · rw [h1] at k
            dsimp only at k
            by_cases hl : dsz (.dT kvs) < LIM
            · rw [if_pos hl] at k
              refine ⟨by rw [← hl0, ← lim]; exact hl, fun v hv => ?_, fun hn => (by rw [h2] at hn; cases hn)⟩
              rw [h2] at hv; cases hv
              exact k.here ok _ h3
            · rw [if_neg hl] at k; exact k.elim
      | _ => exact k.elim
    · exact k.elim
  · exact k.elim⟩
theorem bm_dpop1 {X : Cx} (xk : kxX X = G.kx) (hu : X.A.units + 1 < cLine) : BmOk G b X .dpop1 "dict" "dict.pop" (rPop1 G.kx) := ⟨PySem.F.plainAttrs_dict, PySem.F.slot_dict_pop, PySem.F.type_dict_pop, xk ▸ mt_pop1 hu, dic_ty rfl rfl rfl, fun w o v ds vs W σ Q ok hb r rs k => by
  dsimp only [bmeth] at k
  split at k
  · rename_i i kd
    split at k
    · rename_i d hd
      obtain ⟨uy, ur, rfl, r1, r3⟩ := rs
      cases r3
      cases d with
      | dK kvs =>
        obtain ⟨a, us, rfl, ha, z, q⟩ := mu_dK ok r hd
        dsimp only [dlook] at k
        cases hk : toK kd with
        | none => rw [hk] at k; exact k.elim
        | some kk =>
          rw [hk] at k
          dsimp only [Option.map_some] at k
          rcases q.val kk with ⟨h1, h2⟩ | ⟨d0, z0, h1, h2, h3⟩
          · rw [h1] at k; exact k.elim
          · rw [h1] at k
            dsimp only [ddropD] at k
            rw [hk] at k
            refine ⟨a, _, rfl, rfl, .inl ⟨us, kk, z0, z, toK_rep r1 hk, h2, ?_⟩⟩
            exact dK_set ok ha hd (fun w' e => RepK.drop (RepK.ext e _ _ q)) (fun c hc1 hc2 hc3 => closedK_drop hc3) h3 k
      | dT kvs =>
        obtain ⟨a, us, rfl, ha, z, q⟩ := mu_dT ok r hd
        dsimp only [dlook] at k
        cases kd <;> try (exact k.elim)
        rename_i ks
        dsimp only at k
        cases hk : toKs ks with
        | none => rw [hk] at k; exact k.elim
        | some kk =>
          rw [hk] at k
          dsimp only [Option.map_some] at k
          obtain ⟨a', vs', rfl, ta, qa⟩ := r1
          have ek := toKs_reps qa hk
          subst ek
          rcases q.val kk with ⟨h1, h2⟩ | ⟨d0, z0, h1, h2, h3⟩
          · rw [h1] at k; exact k.elim
          · rw [h1] at k
            dsimp only [ddropD] at k
            rw [hk] at k
            refine ⟨a, _, rfl, rfl, .inr ⟨us, kk, a', z0, z, q.keys, rfl, ta.key, h2, ?_⟩⟩
            exact dT_set ok ha hd (fun w' e => RepT.drop (RepT.ext e _ _ q)) (fun c hc1 hc2 hc3 => closedT_drop hc3) h3 k
      | _ => exact k.elim
    · exact k.elim
  · exact k.elim⟩
theorem bm_update {X : Cx} (xk : kxX X = G.kx) (hu : X.A.units + 1 < cLine) : BmOk G b X .update "dict" "dict.update" (rUpdT G.kx) := ⟨PySem.F.plainAttrs_dict, PySem.F.slot_dict_update, PySem.F.type_dict_update, xk ▸ mt_updT hu, dic_ty rfl rfl rfl, fun w o v ds vs W σ Q ok hb r rs k => by
  dsimp only [bmeth] at k
  split at k
  · rename_i i d
    split at k
    · exact k.elim
    · rename_i hne
      split at k
      · rename_i kvs ms hd hm
        split at k
        · rename_i hc
          simp only [Bool.and_eq_true, decide_eq_true_eq, Bool.not_eq_true'] at hc
          obtain ⟨⟨h1, h2⟩, h3⟩ := hc
          obtain ⟨a, us, rfl, ha, z, q⟩ := mu_dT ok r hd
          obtain ⟨uy, ur, rfl, r1, r3⟩ := rs
          cases r3
          have am := At.of ok r1 hm
          cases am with
          | dT z2 q2 =>
            rename_i c ws
            have hac : a ≠ c := fun e => by
              subst e
              cases d with
              | loc j =>
                obtain ⟨_, e2, hj⟩ := r1
                cases e2
                have hj' : ∃ dj, w.st[j]? = some (.mu dj) ∨ w.st[j]? = some (.lk dj) := by
                  unfold look at hm
                  dsimp only at hm
                  split at hm <;> first | exact ⟨_, .inl ‹_›⟩ | exact ⟨_, .inr ‹_›⟩ | cases hm
                obtain ⟨dj, hj'⟩ := hj'
                have := ok.inj i j a _ _ (.inl hd) hj' ha hj
                subst this
                exact hne (by simp [isLoc])
              | dT ns =>
                obtain ⟨_, _, e2, n, _, _⟩ := r1
                cases e2
                exact n (.inl ⟨i, _, .inl hd, ha⟩)
              | _ => cases hm
            have hl1 := q.len
            have hl2 := q2.len
            refine ⟨a, c, us, ws, rfl, rfl, hac, z, q.keys, z2, q2.keys, fun e => ?_, by rw [← hl1, ← hl2, ← lim]; exact h2, ?_⟩
            · subst e
              have : kvs = [] := List.length_eq_zero_iff.mp hl1
              subst this
              cases h1
            · exact dT_set ok ha hd (fun w' e => RepT.merge (RepT.ext e _ _ q2) (RepT.ext e _ _ q)) (fun c hc1 hc2 hc3 => closedT_merge (List.all_eq_true.mpr fun p hp => fits_cl (List.all_eq_true.mp h3 p hp) hc1 hc2) hc3) (d := .non) rfl k
        · exact k.elim
      · exact k.elim
  · exact k.elim⟩
theorem plD_ok (ok : Ok G w) {c x : D} {v u : V} {j : Nat} (a : At G w c v) (r : Rep G w x u) (h : plD w.st c x = some j) : ∃ p vs d ds, v = .ref p ∧ SqL G.K w.H p vs ∧ DpAll G.K w.H vs ds ∧ Dp G.K w.H u d ∧ SeqAt.shaped (.list ds) = true ∧ SeqAt.shaped d = true ∧ SeqAt.dataPlace ds d = some j := by
  unfold plD at h
  split at h
  · rename_i ps p e1 e2
    split at h
    · rename_i hs
      have hs' := Bool.and_eq_true_iff.mp hs
      have dx := toPS_dp ok r e2
      have dc : Dp G.K w.H v (.list ps) := dp_of (.inl a) e1
      cases dc with
      | lst z q => exact ⟨_, _, p, ps, rfl, z, q, dx, hs'.2, hs'.1, h⟩
    · cases h
  · cases h
theorem bm_index {X : Cx} {ck : CK} (xg : XG X G pg ck) (hu : X.A.units + 65 < cLine) : BmOk G b X .index "list" "list.index" (rIndexD X.K) := ⟨PySem.F.plainAttrs_list, PySem.F.slot_list_index, PySem.F.type_list_index, mt_indexD hu, lst_ty rfl rfl rfl, fun w o v ds vs W σ Q ok hb r rs k => by
  dsimp only [bmeth] at k
  split at k
  · rename_i x
    split at k
    · rename_i j hj
      obtain ⟨c, h1, h2⟩ := Option.bind_eq_some_iff.mp hj
      obtain ⟨uy, ur, rfl, r1, r3⟩ := rs
      cases r3
      obtain ⟨p, ws, d, es, rfl, z, q, dx, s1, s2, hp⟩ := plD_ok ok (At.of ok r h1) r1 h2
      rw [xg.K]
      have hp' := List.findIdx?_eq_some_iff_getElem.mp hp
      obtain ⟨hjl, h5, h6⟩ := hp'
      refine ⟨p, uy, d, es, j, es[j], rfl, rfl, .lst z q, dx, s1, s2, List.getElem?_eq_getElem hjl, h5, fun m z' hm hz => ?_, k.here ok _ rfl⟩
      have := h6 m hm
      rw [List.getElem?_eq_getElem (by omega)] at hz
      cases hz
      simpa using this
    · exact k.elim
  · exact k.elim⟩
theorem Reps.eraseIdx : ∀ {xs : List D} {vs : List V} (j : Nat), Reps G w xs vs → Reps G w (xs.eraseIdx j) (vs.eraseIdx j)
  | [], _, _, h => by cases h; rfl
  | x :: xs, _, 0, h => by obtain ⟨v, vr, rfl, h1, h2⟩ := h; exact h2
  | x :: xs, _, j + 1, h => by obtain ⟨v, vr, rfl, h1, h2⟩ := h; exact ⟨v, _, rfl, h1, Reps.eraseIdx j h2⟩
theorem bm_remove {X : Cx} {ck : CK} (xg : XG X G pg ck) (hu : X.A.units + 65 < cLine) : BmOk G b X .remove "list" "list.remove" (rRemD X.K) := ⟨PySem.F.plainAttrs_list, PySem.F.slot_list_remove, PySem.F.type_list_remove, mt_remD hu, lst_ty rfl rfl rfl, fun w o v ds vs W σ Q ok hb r rs k => by
  dsimp only [bmeth] at k
  split at k
  · rename_i i x
    split at k
    · rename_i xs hx
      split at k
      · rename_i j hj
        obtain ⟨uy, ur, rfl, r1, r3⟩ := rs
        cases r3
        have hlk : look w.st (.loc i) = some (.lst xs) := by unfold look; simp only [hx]
        obtain ⟨a, us, rfl, ha, z, q⟩ := mu_lst ok r hx
        unfold plD at hj
        split at hj
        · rename_i ps p e1 e2
          split at hj
          · rename_i hs
            have hs' := Bool.and_eq_true_iff.mp hs
            have hps : toPs xs = some ps := by
              have e1' : (toPs xs).map PyData.list = some (.list ps) := e1
              cases hh : toPs xs with
              | none => rw [hh] at e1'; cases e1'
              | some y => rw [hh] at e1'; cases e1'; rfl
            rw [xg.K]
            exact ⟨a, us, uy, p, ps, j, rfl, rfl, z, dps_of q hps, toPS_dp ok r1 e2, hs'.2, hs'.1, hj, lst_set ok ha hx (fun w' e => Reps.eraseIdx j (Reps.ext e _ _ q)) (fun c hc1 hc2 hc3 => (by
              rw [closedL_mem] at hc3 ⊢
              exact fun x hx => hc3 x (List.mem_of_mem_eraseIdx hx))) (d := .non) rfl k⟩
          · cases hj
        · cases hj
      · exact k.elim
    · exact k.elim
  · exact k.elim⟩
theorem str_ty {m : M} (h1 : lstM m = false) (h2 : dicM m = false) : ∀ (w : Wd) (o : D) (v : V), Ok G w → Rep G w o v → bmT m w.st o = true → tyV G.kx "str" v w.H := fun w o v ok r h => by
  unfold bmT at h
  cases hl : look w.st o with
  | none => simp only [hl] at h; cases h
  | some c =>
    simp only [hl] at h
    cases c <;> try (first | (cases h; done) | (rw [h1] at h; cases h; done) | (rw [h2] at h; cases h; done))
    have a := At.of ok r hl
    cases a with
    | str s => exact .inl rfl
theorem bm_upper {X : Cx} : BmOk G b X .upper "str" "str.upper" (fun x xs H Q => ∃ a, x = .str a ∧ xs = [] ∧ a.length ≤ 5592405 ∧ Q (.str (Txt.upper a)) H) := ⟨PySem.F.plainAttrs_str, PySem.F.slot_str_upper, PySem.F.type_str_upper, mt_upper, str_ty rfl rfl, fun w o v ds vs W σ Q ok hb r rs k => by
  dsimp only [bmeth] at k
  split at k
  · rename_i s
    split at k
    · rename_i hl
      cases r
      cases rs
      exact ⟨s, rfl, rfl, by omega, k.here ok _ rfl⟩
    · exact k.elim
  · exact k.elim⟩
theorem bm_ar {m : M} {a as : E} {ck : CK} {e : Expr} (h : chkE ck (.bm m a as) e = true) : arM m as = true := by
  cases e <;> try (exact (Bool.false_ne_true h).elim)
  rename_i g es ks pos
  cases g <;> try (exact (Bool.false_ne_true h).elim)
  rename_i o n ap
  cases ks <;> try (exact (Bool.false_ne_true h).elim)
  simp only [chkE, Bool.and_eq_true] at h
  exact h.1.1.2
/-- the methods that are served -/
theorem s_bm {m : M} {a as : E} (se : SE G pg b a) (sa : SA G pg b as) (ee : EachE (SE G pg b) as) : SE G pg b (.bm m a as) := fun X ck W xg tk e h => by
  have ar := bm_ar h
  cases m with
  | append => exact bm_ok bm_append se sa xg tk h
  | clear => exact bm_ok bm_clear se sa xg tk h
  | reverse => exact bm_ok bm_reverse se sa xg tk h
  | extend => exact bm_ok bm_extend se sa xg tk h
  | pop => exact bm_ok bm_pop se sa xg tk h
  | insert => exact bm_ok bm_insert se sa xg tk h
  | get1 => exact s_get1 se ee X ck W xg tk e h
  | get2 => exact s_get2 se ee X ck W xg tk e h
  | setdef => exact bm_ok (bm_setd xg.kx (by have := xg.hu; omega)) se sa xg tk h
  | dpop1 => exact bm_ok (bm_dpop1 xg.kx (by have := xg.hu; omega)) se sa xg tk h
  | update => exact bm_ok (bm_update xg.kx (by have := xg.hu; omega)) se sa xg tk h
  | index => exact bm_ok (bm_index xg (by have := xg.hu; omega)) se sa xg tk h
  | upper => exact bm_ok bm_upper se sa xg tk h
  | remove => exact bm_ok (bm_remove xg (by have := xg.hu; omega)) se sa xg tk h
  | _ => exact (Bool.false_ne_true ar).elim
end
end Den
set_option maxHeartbeats 2000000
/-! DLoop: what is walked may not change meanwhile: locks. Targets. -/
namespace Den
open PySem L2

section
variable {G : Gm} {w w' : Wd} {b : Nat}
/-- a value hangs on the addresses, the heap, and on what may change -/
theorem Rep.same (hφ : w'.φ = w.φ) (hH : w'.H = w.H) (hl : ∀ a, Tk w' a → Tk w a) {d : D} {v : V} (r : Rep G w d v) : Rep G w' d v :=
  Rep.less (n := w.φ.length) hH hl (fun i a _ h => by rw [hφ]; exact h) d v (Rep.closed d v r) r
theorem RepC.same (hφ : w'.φ = w.φ) (hH : w'.H = w.H) (hl : ∀ a, Tk w' a → Tk w a) {d : D} {a : Addr} (r : RepC G w d a) : RepC G w' d a :=
  RepC.less (n := w.φ.length) hH hl (fun i a _ h => by rw [hφ]; exact h) (RepL.closed (RepC.l r)) r
theorem RepL.same (hφ : w'.φ = w.φ) (hH : w'.H = w.H) (hl : ∀ a, Tk w' a → Tk w a) {d : D} {a : Addr} (r : RepL G w d a) : RepL G w' d a :=
  RepL.less (n := w.φ.length) hH hl (fun i a _ h => by rw [hφ]; exact h) (RepL.closed r) r

def isLst : D → Bool
  | .lst _ => true
  | _ => false
/-- an object is locked -/
theorem lock1 (ok : Ok G w) {i : Nat} {d : D} (hi : w.st[i]? = some (.mu d)) : Ext b w ⟨w.φ, w.st.set i (.lk d), w.H, w.ex⟩ ∧ Ok G ⟨w.φ, w.st.set i (.lk d), w.H, w.ex⟩ := by
  have il : i < w.st.length := (List.getElem?_eq_some_iff.mp hi).1
  refine lessen ok (by simp) fun j c h => ?_
  rw [getElem?_set_ite] at h
  by_cases e : j = i
  · rw [if_pos e, if_pos il] at h
    subst e
    exact .inr (.inr ⟨d, (Option.some.inj h).symm, .inl hi⟩)
  · rw [if_neg e] at h; exact .inr (.inl h)
/-- .. and freed: a list -/
theorem unlock1 (ok1 : Ok G w) {i : Nat} {d e' : D} (hi : w.st[i]? = some (.mu d)) (hd : isLst d = true) (ok : Ok G w') (e : Ext b ⟨w.φ, w.st.set i (.lk d), w.H, w.ex⟩ w') (h : w'.st[i]? = some (.lk e')) :
    Ext b w ⟨w'.φ, w'.st.set i (.mu d), w'.H, w'.ex⟩ ∧ Ok G ⟨w'.φ, w'.st.set i (.mu d), w'.H, w'.ex⟩ := by
  obtain ⟨e0, ok0⟩ := lock1 (b := b) ok1 hi
  have il : i < w'.st.length := (List.getElem?_eq_some_iff.mp h).1
  have il0 : i < w.st.length := (List.getElem?_eq_some_iff.mp hi).1
  obtain ⟨a, ha⟩ : ∃ a, w.φ[i]? = some a := ⟨_, List.getElem?_eq_getElem (by rw [ok1.len]; exact il0)⟩
  have ha' : w'.φ[i]? = some a := e.pre i a ha
  have get : ∀ {j : Nat} {c : Cell}, (w'.st.set i (Cell.mu d))[j]? = some c → (j = i ∧ c = .mu d) ∨ (j ≠ i ∧ w'.st[j]? = some c) := fun {j c} h => by
    rw [getElem?_set_ite] at h
    by_cases e : j = i
    · rw [if_pos e, if_pos il] at h; exact .inl ⟨e, (Option.some.inj h).symm⟩
    · rw [if_neg e] at h; exact .inr ⟨e, h⟩
  have lv1 : ∀ {j : Nat} {k : D}, ((w'.st.set i (Cell.mu d))[j]? = some (Cell.mu k) ∨ (w'.st.set i (Cell.mu d))[j]? = some (Cell.lk k)) → ∃ k', w'.st[j]? = some (Cell.mu k') ∨ w'.st[j]? = some (Cell.lk k') := fun {j k} h1 => by
    rcases h1 with h1 | h1 <;> rcases get h1 with ⟨rfl, _⟩ | ⟨_, z⟩
    · exact ⟨e', .inr h⟩
    · exact ⟨k, .inl z⟩
    · exact ⟨e', .inr h⟩
    · exact ⟨k, .inr z⟩
  have lv : ∀ x, Live ⟨w'.φ, w'.st.set i (.mu d), w'.H, w'.ex⟩ x → Live w' x := fun x ⟨j, k, h1, h2⟩ => by
    obtain ⟨k', z⟩ := lv1 h1
    exact ⟨j, k', z, h2⟩
  have tv : ∀ x, Tk ⟨w'.φ, w'.st.set i (.mu d), w'.H, w'.ex⟩ x → Tk w' x := fun x h => h.imp (lv x) id
  have nmu : ¬ Mu ⟨w.φ, w.st.set i (.lk d), w.H, w.ex⟩ a := fun ⟨j, k, h1, h2⟩ => by
    have h1' : (w.st.set i (Cell.lk d))[j]? = some (Cell.mu k) := h1
    rw [getElem?_set_ite] at h1'
    by_cases z : j = i
    · rw [if_pos z, if_pos il0] at h1'; cases h1'
    · rw [if_neg z] at h1'
      exact z (ok1.inj j i a k d (.inl h1') (.inl hi) h2 ha)
  have rl : RepL G w' d a := by
    have q : RepL G ⟨w.φ, w.st.set i (.lk d), w.H, w.ex⟩ d a := ok0.cell i (.lk d) a (by show (w.st.set i (Cell.lk d))[i]? = _; rw [getElem?_set_ite, if_pos rfl, if_pos il0]) ha
    exact RepL.ext e q nmu
  have rc : RepC G ⟨w'.φ, w'.st.set i (.mu d), w'.H, w'.ex⟩ d a := by
    have q : RepL G ⟨w'.φ, w'.st.set i (.mu d), w'.H, w'.ex⟩ d a := RepL.same (w := w') (w' := ⟨w'.φ, w'.st.set i (.mu d), w'.H, w'.ex⟩) rfl rfl tv rl
    cases d <;> first | exact q | cases hd
  refine ⟨⟨fun j x z => e.pre j x z, fun x l => (e0.trans e).live x (tv x l), fun x m => ?_, fun x o z n => ?_, fun c hc s j k hj z => ?_, fun x hx => e.exm x hx⟩, ⟨by show w'.φ.length = _; simp [ok.len], fun j c x h1 h2 => ?_, fun j k x l m h1 h2 h3 h4 => ?_, fun x hx l => ok.exd x hx (lv x l), ok.exh⟩⟩
  · obtain ⟨j, k, h1, h2⟩ := m
    rcases get h1 with ⟨rfl, _⟩ | ⟨_, z⟩
    · have h2' : w'.φ[j]? = some x := h2
      rw [ha'] at h2'; cases h2'
      exact .inl ⟨j, d, hi, ha⟩
    · rcases e.mu x ⟨j, k, z, h2⟩ with ⟨j', k', y1, y2⟩ | y
      · have y1' : (w.st.set i (Cell.lk d))[j']? = some (Cell.mu k') := y1
        rw [getElem?_set_ite] at y1'
        by_cases q : j' = i
        · rw [if_pos q, if_pos il0] at y1'; cases y1'
        · rw [if_neg q] at y1'; exact .inl ⟨j', k', y1', y2⟩
      · exact .inr y
  · refine e.keep x o z fun m => n ?_
    obtain ⟨j', k', y1, y2⟩ := m
    have y1' : (w.st.set i (Cell.lk d))[j']? = some (Cell.mu k') := y1
    rw [getElem?_set_ite] at y1'
    by_cases q : j' = i
    · rw [if_pos q, if_pos il0] at y1'; cases y1'
    · rw [if_neg q] at y1'; exact ⟨j', k', y1', y2⟩
  · rcases get z with ⟨rfl, rfl⟩ | ⟨_, y⟩
    · exact s j _ hj hi
    · exact e.sco c hc (e0.sco c hc s) j k hj y
  · rcases get h1 with ⟨rfl, rfl⟩ | ⟨_, y⟩
    · have h2' : w'.φ[j]? = some x := h2
      rw [ha'] at h2'; cases h2'
      exact rc
    · have q := ok.cell j c x y h2
      cases c with
      | dead => trivial
      | mu k => exact RepC.same (w := w') (w' := ⟨w'.φ, w'.st.set i (.mu d), w'.H, w'.ex⟩) rfl rfl tv q
      | lk k => exact RepL.same (w := w') (w' := ⟨w'.φ, w'.st.set i (.mu d), w'.H, w'.ex⟩) rfl rfl tv q
  · obtain ⟨l', y1⟩ := lv1 h1
    obtain ⟨m', y2⟩ := lv1 h2
    exact ok.inj j k x l' m' y1 y2 h3 h4

/-- the locks of lists, one after another -/
def lkOk : Sto → Lk → Prop
  | _, [] => True
  | st, (i, d) :: r => st[i]? = some (.mu d) ∧ isLst d = true ∧ lkOk (st.set i (.lk d)) r
theorem lockAll : ∀ (lk : Lk) (w : Wd), Ok G w → lkOk w.st lk → Ext b w ⟨w.φ, lkSt w.st lk, w.H, w.ex⟩ ∧ Ok G ⟨w.φ, lkSt w.st lk, w.H, w.ex⟩
  | [], w, ok, _ => ⟨.refl, ok⟩
  | (i, d) :: r, w, ok, h => by
    obtain ⟨e1, ok1⟩ := lock1 (b := b) ok h.1
    obtain ⟨e2, ok2⟩ := lockAll r _ ok1 h.2.2
    exact ⟨e1.trans e2, ok2⟩
theorem unlockAll : ∀ (lk : Lk) (w w' : Wd) (st' : Sto), Ok G w → lkOk w.st lk → Ok G w' → Ext b ⟨w.φ, lkSt w.st lk, w.H, w.ex⟩ w' → unSt w'.st lk = some st' → Ext b w ⟨w'.φ, st', w'.H, w'.ex⟩ ∧ Ok G ⟨w'.φ, st', w'.H, w'.ex⟩
  | [], w, w', st', ok, _, ok', e, h => by cases h; exact ⟨e, ok'⟩
  | (i, d) :: r, w, w', st', ok, hk, ok', e, h => by
    obtain ⟨e1, ok1⟩ := lock1 (b := b) ok hk.1
    unfold unSt at h
    cases hu : unSt w'.st r with
    | none => rw [hu] at h; cases h
    | some st2 =>
      rw [hu] at h
      dsimp only at h
      obtain ⟨e2, ok2⟩ := unlockAll r ⟨w.φ, w.st.set i (.lk d), w.H, w.ex⟩ w' st2 ok1 hk.2.2 ok' e hu
      cases hi : st2[i]? with
      | none => rw [hi] at h; cases h
      | some c =>
        rw [hi] at h
        cases c <;> try (cases h; done)
        cases h
        exact unlock1 ok hk.1 hk.2.1 ok2 e2 hi
theorem lockOf_ok {st : Sto} {d : D} {xs : List D} (h : look st d = some (.lst xs)) : lkOk st (lockOf st d) := by
  cases d <;> try exact True.intro
  rename_i i
  unfold lockOf
  unfold look at h
  dsimp only at h ⊢
  cases hi : st[i]? with
  | none => exact True.intro
  | some c =>
    cases c with
    | dead => exact True.intro
    | lk e => exact True.intro
    | mu e => rw [hi] at h; cases h; exact ⟨hi, rfl, True.intro⟩
end

/-! ### targets -/
theorem wipe_set {σ : L2.St} {i : Nat} {x : Option V} : ∀ {vs : List Nat}, i ∈ vs → wipe (σ.set i x) vs = wipe σ vs := by
  intro vs
  induction vs with
  | nil => intro h; cases h
  | cons v vs ih =>
    intro h
    unfold wipe
    by_cases hv : i ∈ vs
    · rw [ih hv]
    · have e : i = v := by
        rcases List.mem_cons.mp h with z | z
        · exact z
        · exact (hv z).elim
      subst e
      have com : ∀ (us : List Nat), i ∉ us → wipe (σ.set i x) us = (wipe σ us).set i x := by
        intro us
        induction us with
        | nil => intro _; rfl
        | cons u us ih2 =>
          intro hu
          unfold wipe
          rw [ih2 fun z => hu (List.mem_cons_of_mem _ z), List.set_comm _ _ fun z => hu (by rw [← z]; exact List.mem_cons_self)]
      rw [com vs hv, List.set_set]
/-- a target's reading -/
def tG (G : Gm) (pn : List (Addr × Obj)) (b : Nat) (t : T) : TG := fun v σ H Q => ∃ w ρ d ρ', Pre G pn b w ρ σ H ∧ Rep G w d v ∧ asgT t d ρ w.st = some ρ' ∧
  ∀ σ', EnvOk G pn w ρ' σ' → (∀ vs, (∀ i ∈ slotsT t, i ∈ vs) → wipe σ' vs = wipe σ vs) → Q σ' H
def tGs (G : Gm) (pn : List (Addr × Obj)) (b : Nat) (t : T) : TGs := fun us σ H Q => ∃ w ρ ds ρ', Pre G pn b w ρ σ H ∧ Reps G w ds us ∧ asgTs t ds ρ w.st = some ρ' ∧
  ∀ σ', EnvOk G pn w ρ' σ' → (∀ vs, (∀ i ∈ slotsT t, i ∈ vs) → wipe σ' vs = wipe σ vs) → Q σ' H
theorem _root_.L2.PG.imp {X : Cx} {e : Expr} {t t' : TG} (h : PG X e t) (f : ∀ v σ H Q, t' v σ H Q → t v σ H Q) : PG X e t' := ⟨fun pins s σ H v u Q I r q => h.run pins s σ H v u Q I r (f v σ H Q q)⟩
theorem _root_.L2.PGs.imp {X : Cx} {e : List Expr} {t t' : TGs} (h : PGs X e t) (f : ∀ v σ H Q, t' v σ H Q → t v σ H Q) : PGs X e t' := ⟨fun pins s σ H v u Q I r q => h.run pins s σ H v u Q I r (f v σ H Q q)⟩
theorem locB_loc {sc : Scope} {x : Str} (h : locB sc x = true) : L2.Loc sc x := by
  unfold locB at h
  unfold L2.Loc
  split at h
  · rename_i e; exact .inl e
  · rename_i e; exact .inr e
  · cases h
theorem assign_cons {e : Expr} {es : List Expr} {env : Env} (h : noStar e = true) : (assignEach (e :: es) env).map (·.2) = assign e env :: (assignEach es env).map (·.2) := by
  cases e <;> first | rfl | cases h
theorem assign_plain {ck : CK} {env : Env} : ∀ {ts : T} {es : List Expr}, chkTs ck ts es = true → (assignEach es env).findIdx? (·.1) = none ∧ (assignEach es env).length = es.length
  | .nil, [], _ => ⟨rfl, rfl⟩
  | .cons t ts, e :: es, h => by
    have h' := Bool.and_eq_true_iff.mp h
    have h1 := Bool.and_eq_true_iff.mp h'.1
    obtain ⟨i1, i2⟩ := assign_plain (env := env) h'.2
    have e1 : assignEach (e :: es) env = (false, assign e env) :: assignEach es env := by cases e <;> first | rfl | cases h1.1
    rw [e1]
    refine ⟨?_, by simp [i2]⟩
    rw [List.findIdx?_cons]
    simp [i1]
  | .nil, _ :: _, h => by cases h
  | .cons _ _, [], h => by cases h
  | .nm _, _, h => by cases h
  | .tp _, _, h => by cases h
section
variable {G : Gm} {pg : Pg} {b : Nat} {X : Cx} {ck : CK}
mutual
theorem pg_T (xg : XG X G pg ck) : ∀ (t : T) (e : Expr), chkT ck t e = true → PG X e (tG G (epn X ck) b t)
  | .nm i, e, h => by
    cases e <;> try (exact (Bool.false_ne_true h).elim)
    rename_i x pos
    have h' := Bool.and_eq_true_iff.mp h
    have hl := locB_loc h'.2
    have hl' : X.fn x = true ∨ X.env.scope.names.lookup x = some .local := hl.elim (fun z => .inr (by rw [xg.sc]; exact xg.so _ _ (by decide) z)) fun z => .inl (xg.cel x z)
    have hl2 : L2.Loc X.env.scope x := by
      rw [xg.sc]
      exact hl.imp (fun z => xg.so _ _ (by decide) z) (fun z => xg.so _ _ (by decide) z)
    refine (pg_name (i := i) xg.nd (by rw [xg.N]; exact beq_iff_eq.mp h'.1) hl2 hl').imp fun v σ H Q ⟨w, ρ, d, ρ', p, r, ha, q⟩ => ?_
    unfold asgT at ha
    split at ha
    · cases ha
      exact q _ (p.env.set i (d := .v d) r) fun vs hv => wipe_set (hv i (by simp [slotsT]))
    · cases ha
  | .tp ts, e, h => by
    cases e <;> try (exact (Bool.false_ne_true h).elim)
    rename_i es k pos
    have h' := Bool.and_eq_true_iff.mp h
    have hot : ck.hot = false := by simpa using h'.1
    obtain ⟨a1, a2⟩ := assign_plain (env := X.env) h'.2
    refine (pg_tup (n := es.length) (xg.calm hot) (pg_Ts xg ts es h'.2) a2 a1).imp fun v σ H Q ⟨w, ρ, d, ρ', p, r, ha, q⟩ => ?_
    cases d <;> try (unfold asgT at ha; cases ha; done)
    rename_i xs
    obtain ⟨a, vs, rfl, z, rs⟩ := r
    have ha' : asgTs ts xs ρ w.st = some ρ' := ha
    have len : ∀ (ts : T) (es : List Expr) (xs : List D) (ρ ρ' : DEnv), chkTs ck ts es = true → asgTs ts xs ρ w.st = some ρ' → xs.length = es.length := by
      intro ts
      induction ts with
      | nil => intro es xs ρ ρ' h1 h2; cases es <;> cases xs <;> first | rfl | (cases h1; done) | (cases h2; done)
      | cons t ts _ ih =>
        intro es xs ρ ρ' h1 h2
        cases es with
        | nil => cases h1
        | cons e es =>
          cases xs with
          | nil => cases h2
          | cons x xs =>
            have h1' := Bool.and_eq_true_iff.mp h1
            have h2' : ((asgT t x ρ w.st).bind fun ρ1 => asgTs ts xs ρ1 w.st) = some ρ' := h2
            cases hx : asgT t x ρ w.st with
            | none => rw [hx] at h2'; cases h2'
            | some ρ1 =>
              rw [hx] at h2'
              have := ih es xs ρ1 ρ' h1'.2 h2'
              simp [this]
      | _ => intro es xs ρ ρ' h1; cases es <;> cases h1
    refine ⟨a, vs, rfl, ?_, ?_, w, ρ, xs, ρ', p, rs, ha', q⟩
    · rw [← p.H]; rw [xg.K]; exact z.sq
    · rw [← rs.length]; exact len ts es xs ρ ρ' h'.2 ha'
  | .nil, e, h => by cases e <;> exact (Bool.false_ne_true h).elim
  | .cons _ _, e, h => by cases e <;> exact (Bool.false_ne_true h).elim
theorem pg_Ts (xg : XG X G pg ck) : ∀ (ts : T) (es : List Expr), chkTs ck ts es = true → PGs X es (tGs G (epn X ck) b ts)
  | .nil, es, h => by
    cases es with
    | cons _ _ => exact (Bool.false_ne_true h).elim
    | nil =>
      refine pgs_nil.imp fun us σ H Q ⟨w, ρ, ds, ρ', p, r, ha, q⟩ => ?_
      cases ds with
      | cons _ _ => cases ha
      | nil =>
        cases ha
        cases r
        exact ⟨rfl, q σ p.env fun _ _ => rfl⟩
  | .cons t ts, es, h => by
    cases es with
    | nil => exact (Bool.false_ne_true h).elim
    | cons e es =>
      have h' := Bool.and_eq_true_iff.mp h
      have h1 := Bool.and_eq_true_iff.mp h'.1
      refine (pgs_cons (pg_T xg t e h1.2) (pg_Ts xg ts es h'.2) (assign_cons h1.1)).imp fun us σ H Q ⟨w, ρ, ds, ρ', p, r, ha, q⟩ => ?_
      cases ds with
      | nil => cases ha
      | cons d ds =>
        obtain ⟨v, vr, rfl, r1, r2⟩ := r
        have ha' : ((asgT t d ρ w.st).bind fun ρ1 => asgTs ts ds ρ1 w.st) = some ρ' := ha
        cases hx : asgT t d ρ w.st with
        | none => rw [hx] at ha'; cases ha'
        | some ρ1 =>
          rw [hx] at ha'
          refine ⟨v, vr, rfl, w, ρ, d, ρ1, p, r1, hx, fun σ' en hw => ?_⟩
          refine ⟨w, ρ1, ds, ρ', ⟨p.H, p.ok, p.hb, en⟩, r2, ha', fun σ2 en2 hw2 => q σ2 en2 fun vs hv => ?_⟩
          rw [hw2 vs fun i hi => hv i (by simp [slotsT, hi]), hw vs fun i hi => hv i (by simp [slotsT, hi])]
  | .nm _, es, h => by cases es <;> exact (Bool.false_ne_true h).elim
  | .tp _, es, h => by cases es <;> exact (Bool.false_ne_true h).elim
end
end
end Den
set_option maxHeartbeats 2000000
/-! DFz: a dict is frozen while it is walked, and thawed behind. -/
namespace Den
open PySem L2 PySem.Spec PyProof.Rows

/-- the heap behind a dict's freezing -/
def Frz (H0 H1 : Hp) (d : Addr) (od : Obj) (u : HO) (H2 : Hp) : Prop := (H1 d = some (.frz od u) ∧ H2 = H1) ∨ (H1 d = some u ∧ (∀ o' u', H0 d ≠ some (.frz o' u')) ∧ H2 = upd H1 d (.frz od u))
section
variable {X : Cx} {pins : List (Addr × Obj)} {σ : L2.St} {H : Hp} {s : Shared} {d : Addr} {u : HO}
theorem frz_go (I : Inv X pins σ H s) (r : Rd H d u) (mu : Mut (some u)) : ∃ od H2, Frz X.H_0 H d od u H2 ∧ Inv X pins σ H2 s ∧ H2 d = some (.frz od u) := by
  rcases r with r | ⟨od, r⟩
  · obtain ⟨od, I2⟩ := I.lock r mu
    exact ⟨od, _, .inr ⟨r, I.nofrz r mu, rfl⟩, I2, upd_same⟩
  · exact ⟨od, H, .inl ⟨r, rfl⟩, I, r⟩
end
/-- .. thawed, one after another -/
inductive Thw (H0 : Hp) : Hp → Hp → Prop
  | refl {H : Hp} : Thw H0 H H
  | step {H H2 : Hp} {d : Addr} {od : Obj} {u : HO} : H d = some (.frz od u) → (∀ o' u', H0 d ≠ some (.frz o' u')) → Thw H0 (upd H d u) H2 → Thw H0 H H2
theorem Thw.one {H0 H : Hp} {d : Addr} {od : Obj} {u : HO} (h : H d = some (.frz od u)) (hn : ∀ o' u', H0 d ≠ some (.frz o' u')) : Thw H0 H (upd H d u) := .step h hn .refl
theorem Thw.trans {H0 H H2 H3 : Hp} (h : Thw H0 H H2) (h' : Thw H0 H2 H3) : Thw H0 H H3 := by
  induction h with
  | refl => exact h'
  | step h1 h2 _ ih => exact .step h1 h2 (ih h')
theorem Thw.keep {H0 H H2 : Hp} (h : Thw H0 H H2) {a : Addr} {o : HO} (e : H a = some o) (n : ∀ od u, o ≠ .frz od u) : H2 a = some o := by
  induction h with
  | refl => exact e
  | step h1 h2 _ ih => exact ih (by rw [upd_ne (fun z => by rw [z, h1] at e; cases e; exact n _ _ rfl)]; exact e)
theorem Thw.inv {X : Cx} {pins : List (Addr × Obj)} {σ : L2.St} {s : Shared} {H H2 : Hp} (h : Thw X.H_0 H H2) : Inv X pins σ H s → Inv X pins σ H2 s := by
  induction h with
  | refl => exact fun I => I
  | step h1 h2 _ ih => exact fun I => ih (I.unlock h1 h2)
/-- a statement's ends, behind thawing -/
def thD (H0 : Hp) (D : Ends) : Ends where
  nx := fun σ' H' => ∃ H2, Thw H0 H' H2 ∧ D.nx σ' H2
  rt := fun v H' => ∃ H2, Thw H0 H' H2 ∧ D.rt v H2
  bk := fun σ' H' => ∃ H2, Thw H0 H' H2 ∧ D.bk σ' H2
  ct := fun σ' H' => ∃ H2, Thw H0 H' H2 ∧ D.ct σ' H2
theorem ps_thaw {X : Cx} {st : Stmt} {t : TS} (h : PS X st t) : PS X st (fun D σ H => t (thD X.H_0 D) σ H) := by
  refine ⟨fun pins s σ H D I hw => ?_⟩
  refine thn (h.run pins s σ H _ I hw) fun f s1 q => ?_
  cases f with
  | next => obtain ⟨σ', H', I2, H2, t2, q⟩ := q; exact ⟨σ', _, t2.inv I2, q⟩
  | brk => obtain ⟨σ', H', I2, H2, t2, q⟩ := q; exact ⟨σ', _, t2.inv I2, q⟩
  | cont => obtain ⟨σ', H', I2, H2, t2, q⟩ := q; exact ⟨σ', _, t2.inv I2, q⟩
  | ret v => obtain ⟨x, σ', H', I2, r, H2, t2, q⟩ := q; exact ⟨x, σ', _, t2.inv I2, r, q⟩
theorem pe_thaw {X : Cx} {e : Expr} {t : TE} (h : PE X e t) : PE X e (fun σ H Q => t σ H fun v H' => ∃ H2, Thw X.H_0 H' H2 ∧ Q v H2) := by
  refine ⟨fun pins s σ H Q I hw => ?_⟩
  refine thn (h.run pins s σ H _ I hw) fun v s1 ⟨x, H1, I2, r, H2, t2, q⟩ => ?_
  exact ⟨x, _, t2.inv I2, r, q⟩

/-! ### for k in d, d.keys(); for v in d.values(); for k, v in d.items() -/
/-- the keys, the pairs of a dict with tuple keys (each pair a new tuple of the key's own one and the value) -/
def Itkx (hs : List Key → Int) (d : Addr) (o : Obj) (us : List XE) : L2.It :=
  ⟨fun i H => H d = some (.frz o (dX hs d us)) ∧ i < us.length, fun i H x H' => H' = H ∧ ∃ (k : List Key) (q : Addr) (v : V), us[i]? = some (k, q, v) ∧ x = .ref q, fun i H => H d = some (.frz o (dX hs d us)) ∧ us.length ≤ i⟩
def Itix (hs : List Key → Int) (d : Addr) (o : Obj) (us : List XE) : L2.It :=
  ⟨fun i H => H d = some (.frz o (dX hs d us)) ∧ i < us.length, fun i H x H' => ∃ (T : Addr) (k : List Key) (q : Addr) (v : V), us[i]? = some (k, q, v) ∧ x = .ref T ∧ H T = none ∧ H' = upd H T (.tup [.ref q, v]), fun i H => H d = some (.frz o (dX hs d us)) ∧ us.length ≤ i⟩
theorem walk_keysX {hs : List Key → Int} {d : Addr} {o : Obj} {us : List XE} : Walk (Itkx hs d o us) us.length (fun H => H d = some (.frz o (dX hs d us))) (fun i H x H' => H' = H ∧ ∃ (k : List Key) (q : Addr) (v : V), us[i]? = some (k, q, v) ∧ x = .ref q) :=
  ⟨fun _ _ hi q => ⟨q, hi⟩, fun _ q => ⟨q, Nat.le_refl _⟩, fun _ _ _ _ _ _ y => y⟩
theorem walk_itemsX {hs : List Key → Int} {d : Addr} {o : Obj} {us : List XE} : Walk (Itix hs d o us) us.length (fun H => H d = some (.frz o (dX hs d us))) (fun i H x H' => ∃ (T : Addr) (k : List Key) (q : Addr) (v : V), us[i]? = some (k, q, v) ∧ x = .ref T ∧ H T = none ∧ H' = upd H T (.tup [.ref q, v])) :=
  ⟨fun _ _ hi q => ⟨q, hi⟩, fun _ q => ⟨q, Nat.le_refl _⟩, fun _ _ _ _ _ _ y => y⟩
section
variable {X : Cx} {pins : List (Addr × Obj)} {σ : L2.St} {H : Hp} {s : Shared} {d : Addr} {o : Obj} {hs : List Key → Int}
theorem frzX {us : List XE} (I : Inv X pins σ H s) (h : H d = some (.frz o (dX hs d us))) :
    (d == sysModules) = false ∧ s.heap.get? d = some o ∧ o.ExactDict ∧ ∃ (es : Array DictEntry) (ep : Nat), o.data = .dict es ep ∧ es.size = us.length ∧
      ∀ (i : Nat) (k : List Key) (q : Addr) (v : V), us[i]? = some (k, q, v) → ∃ en : DictEntry, es[i]? = some en ∧ en.key = .ref q ∧ RelV v en.val := by
  obtain ⟨hd, ⟨z, hs', xs, pr, o', es, ep, ho, hx, hdt, he, _⟩, _⟩ := I.hok d _ h
  rw [hd] at ho
  cases ho
  have at' : ∀ j : Nat, es[j]? = (xs[j]?).map (entX hs) := fun j => by rw [← Array.getElem?_toList, he, List.getElem?_map]
  refine ⟨hs', hd, hx, es, ep, hdt, ?_, fun i k q v e => ?_⟩
  · have l1 : es.size = xs.length := by rw [← Array.length_toList, he, List.length_map]
    have l2 : us.length = xs.length := Paired.length pr
    omega
  · obtain ⟨b, hb, e1, e2, e3⟩ := paired_get pr e
    have y := at' i
    rw [hb] at y
    refine ⟨_, y, ?_, e3⟩
    show Value.ref b.2.1 = Value.ref q
    rw [← e2]
end
theorem turn_keysX {P : Program} {w : World} {K : PySem.W.Frag} {hs : List Key → Int} {d : Addr} {o : Obj} {es : Array DictEntry} {ep : Nat} {us : List XE} {tg : Expr} (it : Addr) (hod : o.data = .dict es ep) :
    Turn P w K tg (Itkx hs d o us) [it] it (fun i h => h.IsKeyIter it d i us.length ep) where
  mem := by simp
  obj := fun i h st b hb => by
    have e : b = it := by simpa using hb
    subst e
    obtain ⟨oi, e, c, dd⟩ := st
    exact ⟨oi, e, fun v z => by rw [dd] at z; cases z⟩
  keep := fun i h h' st k => st.at fun oi e => k it (by simp) oi e
  item := by
    intro X hP hw hK hc i pins s σ H E I hf st hg
    subst hP hw hK
    obtain ⟨hd, hi⟩ := hg
    obtain ⟨f0, f1, f2, f3, f4, f5⟩ := hf it (by simp)
    obtain ⟨hs', hgd, hx, es', ep', hdt, hsz, ent⟩ := frzX I hd
    obtain ⟨rfl, rfl⟩ := dict_ep hod hdt
    obtain ⟨⟨k, q, v⟩, hkv⟩ : ∃ p, us[i]? = some p := ⟨us[i], List.getElem?_eq_getElem hi⟩
    obtain ⟨en, hen, hkey, hv⟩ := ent i k q v hkv
    refine next_key_item st hgd hdt hsz hen fun h' st' sb => ?_
    have I1 : Inv X pins σ H { s with heap := h' } := I.turned (t' := s.toks) (fun b ob hb e => (sb.2 b hb).trans e) f0 f1 f3 f4 f5
    obtain ⟨oi, e, c, dd⟩ := id st'
    exact ⟨en.key, rfl, go_of (s := { s with heap := h' }) e c dd (by decide) ⟨.ref q, H, I1, hkey, ⟨rfl, k, q, v, hkv, rfl⟩, st', fun b hb => (hf b hb).1⟩⟩
  done := by
    intro X hP hw hK hc i pins s σ H E I hf st hg
    subst hP hw hK
    obtain ⟨hd, hi⟩ := hg
    obtain ⟨f0, f1, f2, f3, f4, f5⟩ := hf it (by simp)
    obtain ⟨hs', hgd, hx, es', ep', hdt, hsz, ent⟩ := frzX I hd
    obtain ⟨rfl, rfl⟩ := dict_ep hod hdt
    exact next_key_end (I.ok.hd hc) st hgd hdt hsz hi fun h' eb => ⟨rfl, I.turned (t' := s.toks) (fun b ob hb e => eb b ob hb e) f0 f1 f3 f4 f5⟩
  self := fun A i s Q E st h => by
    refine wpAny_pyIter_slot st.typeIs PySem.F.slot_dict_keyiterator_iter (wpAny_call_entry PySem.F.slot_dict_keyiterator_iter st.typeIs PySem.F.entry_dict_keyiterator_iter ?_ (PySem.F.args_dict_keyiterator_iter_1 _))
    show wpAny _ _ (ret (.ref it)) _ _ s
    exact wpAny_pure ⟨_, rfl, "dict_keyiterator", _, st.typeIs, PySem.F.slot_dict_keyiterator_next.lookup, h⟩
theorem turn_itemsX {P : Program} {w : World} {K : PySem.W.Frag} {hs : List Key → Int} {d : Addr} {o : Obj} {es : Array DictEntry} {ep : Nat} {kvs : List XE} {elts : List Expr} {kk : Nat} {tpos : Pos} (it : Addr) (hod : o.data = .dict es ep) :
    Turn P w K (.Tuple elts kk tpos) (Itix hs d o kvs) [it] it (fun i h => ∃ ok ov, IsItemIter h it d i kvs.length ep ok ov) where
  mem := by simp
  obj := fun i h st b hb => by
    have e : b = it := by simpa using hb
    subst e
    obtain ⟨ok, ov, e⟩ := st
    exact ⟨_, e, fun v z => nomatch z⟩
  keep := fun i h h' st k => let ⟨ok, ov, e⟩ := st; ⟨ok, ov, k it (by simp) _ e⟩
  item := by
    intro X hP hw hK hc i pins s σ H E I hf st hg
    subst hP hw hK
    obtain ⟨hd, hi⟩ := hg
    obtain ⟨hs', hgd, hx, es', ep', hdt, hsz, ent⟩ := frzX I hd
    obtain ⟨rfl, rfl⟩ := dict_ep hod hdt
    obtain ⟨⟨k, q, v⟩, hkv⟩ : ∃ p, kvs[i]? = some p := ⟨kvs[i], List.getElem?_eq_getElem hi⟩
    obtain ⟨en, hen, hkey, hv⟩ := ent i k q v hkv
    obtain ⟨ok, ov, he⟩ := st
    rw [← hsz] at he
    have hlt : it < s.heap.objs.size := Heap.lt_size he
    have hie : i < es'.size := by omega
    have hen2 : es'[i] = en := by
      rw [Array.getElem?_eq_getElem hie] at hen
      exact Option.some.inj hen
    refine DT.nextI he ⟨o, hgd, hx, hdt⟩ hie fun h' ho hT hz hk => ?_
    rw [hen2, hkey] at hT ho
    refine ⟨_, rfl, wpAny_letOwnedTupleGo_items (s := { s with heap := h' }) ho fun h'' he' sb => ?_⟩
    have hT2 : h''.get? s.heap.objs.size = some { cls := .type "tuple", data := .seq #[.ref q, en.val] } := (sb.2 _ (Nat.ne_of_gt hlt)).trans hT
    have new : ObjOk X.prog X.w (upd H s.heap.objs.size (.tup [.ref q, v])) h'' s.heap.objs.size (.tup [.ref q, v]) :=
      ⟨by show 2 ≤ sizeLine; decide, [.ref q, en.val], .cons rfl (.cons hv .nil), ⟨_, hT2, rfl, _, rfl⟩⟩
    have I1 : Inv X pins σ (upd H s.heap.objs.size (.tup [.ref q, v])) { s with heap := h'' } :=
      I.turnedNew (t' := s.toks) (ch := [it]) (fun b ob hb e => (sb.2 b (by simpa using hb)).trans (hk b ob (by simpa using hb) e)) hf (Nat.le_refl _) new
    refine ⟨.ref s.heap.objs.size, _, I1, rfl, ⟨_, k, q, v, hkv, rfl, I.hok.fresh (Nat.le_refl _), rfl⟩, ⟨.ref q, en.val, ?_⟩, fun b hb => ?_⟩
    · rw [← hsz]; exact he'
    · have e : b = it := by simpa using hb
      rw [e, upd_ne (Nat.ne_of_lt hlt)]
      exact (hf it (by simp)).1
  done := by
    intro X hP hw hK hc i pins s σ H E I hf st hg
    subst hP hw hK
    obtain ⟨hd, hi⟩ := hg
    obtain ⟨f0, f1, f2, f3, f4, f5⟩ := hf it (by simp)
    obtain ⟨hs', hgd, hx, es', ep', hdt, hsz, ent⟩ := frzX I hd
    obtain ⟨rfl, rfl⟩ := dict_ep hod hdt
    obtain ⟨ok, ov, he⟩ := st
    rw [← hsz] at he
    exact DT.endI (I.ok.hd hc) he ⟨o, hgd, hx, hdt⟩ (by omega) fun h' eb => ⟨rfl, I.turned (t' := s.toks) (fun b ob hb e => eb b ob hb e) f0 f1 f3 f4 f5⟩
  self := fun A i s Q E st h => let ⟨_, _, e⟩ := st; PySem.W.kcp_self e h
section
variable {X : Cx} {tg e : Expr} {td : TE} {apos cpos : Pos}
/-- what is walked of a dict, which is frozen first -/
def iDic (hs : List Key → Int) (H0 : Hp) (td : TE) (JK : Addr → Obj → List (Key × V) → L2.It) (JT : Addr → Obj → List XE → L2.It) : TI := fun σ H R => td σ H fun x H1 => ∃ d, x = .ref d ∧
  ((∃ kvs, Rd H1 d (.dK kvs) ∧ ∀ od H2, Frz H0 H1 d od (.dK kvs) H2 → R (JK d od kvs) H2) ∨ (∃ kvs, Rd H1 d (dX hs d kvs) ∧ ∀ od H2, Frz H0 H1 d od (dX hs d kvs) H2 → R (JT d od kvs) H2))
theorem pi_keysF (he : PE X e td) : PI X tg e (iDic (kxX X).hs X.H_0 td Itk (Itkx (kxX X).hs)) := by
  refine ⟨fun pins s σ H R I h => ?_⟩
  refine thn (he.run pins s σ H _ I h) fun u s1 ⟨x, H1, I1, rx, d, ex, q⟩ => ?_
  subst ex
  obtain rfl : u = Value.ref d := rx
  rcases q with ⟨kvs, hr, q⟩ | ⟨kvs, hr, q⟩
  · obtain ⟨o, H2, f, I2, hd⟩ := frz_go I1 hr True.intro
    obtain ⟨hs, hgd, hx, es, ep, vs, hdt, hsz, kv, hm⟩ := I2.frzK hd
    refine iter_keys hs hgd hx hdt (pi_one (tk := s1.toks) I2 _ (turn_keys _ hdt) ⟨_, Heap.get?_push_size _ rfl, rfl, ?_⟩ (q o H2 f))
    rw [hsz] <;> rfl
  · obtain ⟨o, H2, f, I2, hd⟩ := frz_go I1 hr True.intro
    obtain ⟨hs, hgd, hx, es, ep, hdt, hsz, ent⟩ := frzX I2 hd
    refine iter_keys hs hgd hx hdt (pi_one (tk := s1.toks) I2 _ (turn_keysX _ hdt) ⟨_, Heap.get?_push_size _ rfl, rfl, ?_⟩ (q o H2 f))
    rw [hsz] <;> rfl
theorem pi_itemsF {elts : List Expr} {kk : Nat} {tpos : Pos} (he : PE X e td) (hbase : attributeBase e "items" X.env (eval e X.env) = eval e X.env := by rfl) (hline : (apos.endLine == cpos.line) = true := by rfl) :
    PI X (.Tuple elts kk tpos) (.Call (.Attribute e "items" apos) [] [] cpos) (iDic (kxX X).hs X.H_0 td Iti (Itix (kxX X).hs)) := by
  refine ⟨fun pins s σ H R I h => ?_⟩
  refine wpAny_Call_method (T := "dict") (id := "dict.items") hbase rfl hline PySem.F.plainAttrs_dict PySem.F.slot_dict_items PySem.F.type_dict_items (thn (he.run pins s σ H _ I h) fun u s1 ⟨x, H1, I1, rx, d, ex, q⟩ => ?_)
  subst ex
  obtain rfl : u = Value.ref d := rx
  rcases q with ⟨kvs, hr, q⟩ | ⟨kvs, hr, q⟩
  · obtain ⟨o, H2, f, I2, hd⟩ := frz_go I1 hr True.intro
    have q := q o H2 f
    obtain ⟨hs, hgd, hx, es, ep, vs, hdt, hsz, kv, hm⟩ := I2.frzK hd
    have hl : kvs.length = vs.length := Paired.length kv
    refine ⟨hm.dictOf.typeIs, hm.dictOf.mapOf.noDict, ?_⟩
    have I3 : Inv X pins σ H2 { s1 with heap := s1.heap.push { cls := .type "dict_items", data := .fields #[.ref d] } } := I2.kept (t' := s1.toks) fun b ob q => Heap.get?_push_of_some _ q
    have fin : wpAny (model X.prog X.w) X.A (pyIter (.ref s1.heap.objs.size)) (PIE X pins σ (.Tuple elts kk tpos) R) X.xe { s1 with heap := s1.heap.push { cls := .type "dict_items", data := .fields #[.ref d] } } := by
      refine wpAny_pyIter_items (d := d) (knd := mixKind X.prog X.w) ⟨_, Heap.get?_push_size _ rfl, rfl, rfl⟩ (hm.push _) (pi_one (tk := s1.toks) I3 _ (turn_items _ hdt) ⟨.none, .none, ?_⟩ q)
      rw [hl]
      exact Heap.get?_push_size _ rfl
    show wpAny _ _ (callWith cpos (.builtin "dict.items") [.ref d] [] []) _ X.xe s1
    exact method_meetsIn PySem.F.slot_dict_items PySem.F.entry_dict_items rfl (PySem.evalArgs_none ⟨rfl, hm.dictOf.typeIs, PySem.F.args_dict_items_1 _, _, meets_dict_items (mixKind X.prog X.w) d hs, ⟨vs, hm.dictOf⟩, fin⟩)
  · obtain ⟨o, H2, f, I2, hd⟩ := frz_go I1 hr True.intro
    have q := q o H2 f
    obtain ⟨hs, hgd, hx, es, ep, hdt, hsz, ent⟩ := frzX I2 hd
    have raw : DT.Raw s1.heap d es ep := ⟨o, hgd, hx, hdt⟩
    refine ⟨raw.typeIs, (fun b e => by cases e; exact ⟨o, hgd, hx.2.1⟩), ?_⟩
    have I3 : Inv X pins σ H2 { s1 with heap := s1.heap.push { cls := .type "dict_items", data := .fields #[.ref d] } } := I2.kept (t' := s1.toks) fun b ob q => Heap.get?_push_of_some _ q
    have fin : wpAny (model X.prog X.w) X.A (pyIter (.ref s1.heap.objs.size)) (PIE X pins σ (.Tuple elts kk tpos) R) X.xe { s1 with heap := s1.heap.push { cls := .type "dict_items", data := .fields #[.ref d] } } := by
      refine DT.iterI (d := d) (s := { s1 with heap := s1.heap.push { cls := .type "dict_items", data := .fields #[.ref d] } }) ⟨_, Heap.get?_push_size _ rfl, rfl, rfl⟩ (raw.push _) (pi_one (tk := s1.toks) I3 _ (turn_itemsX _ hdt) ⟨.none, .none, ?_⟩ q)
      rw [← hsz]
      exact Heap.get?_push_size _ rfl
    show wpAny _ _ (callWith cpos (.builtin "dict.items") [.ref d] [] []) _ X.xe s1
    exact method_meetsIn PySem.F.slot_dict_items PySem.F.entry_dict_items rfl (PySem.evalArgs_none ⟨rfl, raw.typeIs, PySem.F.args_dict_items_1 _, _, DT.meetsItems hs, raw, fin⟩)
end
end Den
set_option maxHeartbeats 2000000
/-! DThw: what stands in a heap stands behind a thawing too. -/
namespace Den
open PySem L2
/-- from a heap to one where some things are thawed -/
def HTh (H H' : Hp) : Prop := (∀ a o, H a = some o → (∀ od u, o ≠ .frz od u) → H' a = some o) ∧ ∀ a u, (∀ od v, u ≠ .frz od v) → Rd H a u → Rd H' a u
theorem HTh.upd {H : Hp} {d : Addr} {od : Obj} {u : HO} (h : H d = some (.frz od u)) : HTh H (upd H d u) := ⟨fun a o e n => by
    by_cases z : a = d
    · subst z; rw [h] at e; cases e; exact (n _ _ rfl).elim
    · rw [upd_ne z]; exact e, fun a v n r => by
    by_cases z : a = d
    · subst z
      rcases r with r | ⟨o, r⟩ <;> rw [h] at r <;> cases r
      · exact (n _ _ rfl).elim
      · exact .inl upd_same
    · rcases r with r | ⟨o, r⟩
      · exact .inl (by rw [upd_ne z]; exact r)
      · exact .inr ⟨o, by rw [upd_ne z]; exact r⟩⟩
section
variable {G : Gm} {w w' : Wd}
theorem TpA.thw (hH : HTh w.H w'.H) (hl : ∀ a, Tk w' a → Tk w a) {a : Addr} {vs : List V} (t : TpA G w a vs) : TpA G w' a vs := by
  rcases t with ⟨k, z⟩ | z
  · exact .inl ⟨fun y => k (hl a y), hH.1 _ _ z (by intro _ _ h; cases h)⟩
  · exact .inr z
section
variable {n : Nat} (hH : HTh w.H w'.H) (hl : ∀ a, Tk w' a → Tk w a) (hφ : ∀ i a, i < n → w.φ[i]? = some a → w'.φ[i]? = some a)
include hH hl hφ
mutual
theorem Rep.thw : ∀ (d : D) (v : V), closed n d = true → Rep G w d v → Rep G w' d v
  | .non, _, _, r => r
  | .bl _, _, _, r => r
  | .int _, _, _, r => r
  | .str _, _, _, r => r
  | .tup xs, v, c, r => by
    obtain ⟨a, vs, e, t, q⟩ := r
    exact ⟨a, vs, e, t.thw hH hl, Reps.thw xs vs c q⟩
  | .lst xs, v, c, r => by
    obtain ⟨a, vs, e, k, z, q⟩ := r
    exact ⟨a, vs, e, fun y => k (hl a y), hH.1 _ _ z (by intro _ _ h; cases h), Reps.thw xs vs c q⟩
  | .dK kvs, v, c, r => by
    obtain ⟨a, us, e, k, z, q⟩ := r
    exact ⟨a, us, e, fun y => k (hl a y), hH.2 _ _ (by intro _ _ h; cases h) z, RepK.thw kvs us c q⟩
  | .dT kvs, v, c, r => by
    obtain ⟨a, us, e, k, z, q⟩ := r
    exact ⟨a, us, e, fun y => k (hl a y), hH.2 _ _ (by intro _ _ h; cases h) z, RepT.thw kvs us c q⟩
  | .ins k fs, v, c, r => by
    obtain ⟨a, dx, us, e, k, z, q⟩ := r
    exact ⟨a, dx, us, e, fun y => k (hl a y), hH.1 _ _ z (by intro _ _ h; cases h), RepF.thw fs us c q⟩
  | .scr ns, v, c, r => by
    obtain ⟨a, e, hr⟩ := r
    refine ⟨a, e, ?_⟩
    rcases hr with ⟨k, z⟩ | z
    · exact .inl ⟨fun y => k (hl a y), hH.2 _ _ (by intro _ _ h; cases h) z⟩
    · exact .inr z
  | .loc i, v, c, r => by
    obtain ⟨a, e, z⟩ := r
    exact ⟨a, e, hφ i a (of_decide_eq_true c) z⟩
theorem Reps.thw : ∀ (ds : List D) (vs : List V), closedL n ds = true → Reps G w ds vs → Reps G w' ds vs
  | [], _, _, r => r
  | x :: xs, vs, c, r => by
    obtain ⟨v, vr, e, q1, q2⟩ := r
    exact ⟨v, vr, e, Rep.thw x v (Bool.and_eq_true_iff.mp c).1 q1, Reps.thw xs vr (Bool.and_eq_true_iff.mp c).2 q2⟩
theorem RepK.thw : ∀ (ds : List (Key × D)) (vs : List (Key × V)), closedK n ds = true → RepK G w ds vs → RepK G w' ds vs
  | [], _, _, r => r
  | (k, x) :: xs, vs, c, r => by
    obtain ⟨v, vr, e, q1, q2⟩ := r
    exact ⟨v, vr, e, Rep.thw x v (Bool.and_eq_true_iff.mp c).1 q1, RepK.thw xs vr (Bool.and_eq_true_iff.mp c).2 q2⟩
theorem RepT.thw : ∀ (ds : List (List Key × D)) (vs : List XE), closedT n ds = true → RepT G w ds vs → RepT G w' ds vs
  | [], _, _, r => r
  | (k, x) :: xs, vs, c, r => by
    obtain ⟨p, v, vr, e, t, q1, q2⟩ := r
    exact ⟨p, v, vr, e, t.thw hH hl, Rep.thw x v (Bool.and_eq_true_iff.mp c).1 q1, RepT.thw xs vr (Bool.and_eq_true_iff.mp c).2 q2⟩
theorem RepF.thw : ∀ (ds : List (Nat × D)) (vs : List (Str × V)), closedF n ds = true → RepF G w ds vs → RepF G w' ds vs
  | [], _, _, r => r
  | (k, x) :: xs, vs, c, r => by
    obtain ⟨v, vr, e, q1, q2⟩ := r
    exact ⟨v, vr, e, Rep.thw x v (Bool.and_eq_true_iff.mp c).1 q1, RepF.thw xs vr (Bool.and_eq_true_iff.mp c).2 q2⟩
end
theorem RepC.thw {d : D} {a : Addr} (c : Den.closed n d = true) (r : RepC G w d a) : RepC G w' d a := by
  cases d <;> try exact r.elim
  · obtain ⟨vs, z, q⟩ := r; exact ⟨vs, hH.1 _ _ z (by intro _ _ h; cases h), Reps.thw hH hl hφ _ vs c q⟩
  · obtain ⟨vs, z, q⟩ := r; exact ⟨vs, hH.1 _ _ z (by intro _ _ h; cases h), RepK.thw hH hl hφ _ vs c q⟩
  · obtain ⟨vs, z, q⟩ := r; exact ⟨vs, hH.1 _ _ z (by intro _ _ h; cases h), RepT.thw hH hl hφ _ vs c q⟩
  · obtain ⟨dx, vs, z, q⟩ := r; exact ⟨dx, vs, hH.1 _ _ z (by intro _ _ h; cases h), RepF.thw hH hl hφ _ vs c q⟩
theorem RepL.thw {d : D} {a : Addr} (c : Den.closed n d = true) (r : RepL G w d a) : RepL G w' d a := by
  cases d <;> try exact r.elim
  · obtain ⟨vs, z, q⟩ := r; exact ⟨vs, hH.1 _ _ z (by intro _ _ h; cases h), Reps.thw hH hl hφ _ vs c q⟩
  · obtain ⟨vs, z, q⟩ := r; exact ⟨vs, hH.2 _ _ (by intro _ _ h; cases h) z, RepK.thw hH hl hφ _ vs c q⟩
  · obtain ⟨vs, z, q⟩ := r; exact ⟨vs, hH.2 _ _ (by intro _ _ h; cases h) z, RepT.thw hH hl hφ _ vs c q⟩
  · obtain ⟨dx, vs, z, q⟩ := r; exact ⟨dx, vs, hH.1 _ _ z (by intro _ _ h; cases h), RepF.thw hH hl hφ _ vs c q⟩
end
end
section
variable {G : Gm} {w : Wd} {b : Nat}
def dicO : HO → Bool
  | .dK _ => true
  | .ext _ => true
  | _ => false
/-- a dict that may not change is frozen in the heap -/
theorem frzD (ok : Ok G w) {a : Addr} {od : Obj} {u : HO} (hz : w.H a = some u) (isd : isDict u) (nm : ¬ Mu w a) :
    Ext b w ⟨w.φ, w.st, upd w.H a (.frz od u), w.ex⟩ ∧ Ok G ⟨w.φ, w.st, upd w.H a (.frz od u), w.ex⟩ := by
  have e : Ext b w ⟨w.φ, w.st, upd w.H a (.frz od u), w.ex⟩ := ⟨fun _ _ h => h, fun _ h => .inl h, fun _ h => .inl h, fun a' o h n => by
    by_cases z : a' = a
    · subst z
      rw [hz] at h; cases h
      exact .inr ⟨isd, od, upd_same⟩
    · exact .inl (by show upd w.H a (.frz od u) a' = _; rw [upd_ne z]; exact h), fun _ _ h => h, fun _ h => h⟩
  refine ⟨e, ok.len, fun i c a' h1 h2 => ?_, ok.inj, fun x hx l => ok.exd x hx l, fun x hx => by
    by_cases z : x = a
    · obtain ⟨o, h⟩ := ok.exh x hx
      rw [z, hz] at h; cases h; exact isd.elim
    · obtain ⟨o, h⟩ := ok.exh x hx
      exact ⟨o, by show upd w.H a (.frz od u) x = _; rw [upd_ne z]; exact h⟩⟩
  have q := ok.cell i c a' h1 h2
  cases c with
  | dead => trivial
  | lk d =>
    refine RepL.ext e q fun m => ?_
    obtain ⟨j, k, y1, y2⟩ := m
    have := ok.inj j i a' k d (.inl y1) (.inr h1) y2 h2
    subst this
    have h1' : w.st[j]? = some (.lk d) := h1
    rw [h1'] at y1; cases y1
  | mu d =>
    have ne : a' ≠ a := fun z => nm ⟨i, d, h1, z ▸ h2⟩
    cases d <;> try exact q.elim
    · obtain ⟨vs, z, r⟩ := q; exact ⟨vs, by show upd w.H a (.frz od u) a' = _; rw [upd_ne ne]; exact z, Reps.ext e _ _ r⟩
    · obtain ⟨vs, z, r⟩ := q; exact ⟨vs, by show upd w.H a (.frz od u) a' = _; rw [upd_ne ne]; exact z, RepK.ext e _ _ r⟩
    · obtain ⟨vs, z, r⟩ := q; exact ⟨vs, by show upd w.H a (.frz od u) a' = _; rw [upd_ne ne]; exact z, RepT.ext e _ _ r⟩
    · obtain ⟨dx, vs, z, r⟩ := q; exact ⟨dx, vs, by show upd w.H a (.frz od u) a' = _; rw [upd_ne ne]; exact z, RepF.ext e _ _ r⟩
end
section
variable {G : Gm} {w w' : Wd} {b : Nat}
theorem Rep.thS {w4 : Wd} (hφ : w4.φ = w'.φ) (hH : HTh w'.H w4.H) (hl : ∀ a, Tk w4 a → Tk w' a) {d : D} {v : V} (r : Rep G w' d v) : Rep G w4 d v :=
  Rep.thw (n := w'.φ.length) hH hl (fun i a _ h => by rw [hφ]; exact h) d v (Rep.closed d v r) r
theorem Reps.thS {w4 : Wd} (hφ : w4.φ = w'.φ) (hH : HTh w'.H w4.H) (hl : ∀ a, Tk w4 a → Tk w' a) {ds : List D} {vs : List V} (r : Reps G w' ds vs) : Reps G w4 ds vs :=
  Reps.thw (n := w'.φ.length) hH hl (fun i a _ h => by rw [hφ]; exact h) ds vs (Reps.closed ds vs r) r
theorem RepC.thS {w4 : Wd} (hφ : w4.φ = w'.φ) (hH : HTh w'.H w4.H) (hl : ∀ a, Tk w4 a → Tk w' a) {d : D} {a : Addr} (r : RepC G w' d a) : RepC G w4 d a :=
  RepC.thw (n := w'.φ.length) hH hl (fun i a _ h => by rw [hφ]; exact h) (RepL.closed (RepC.l r)) r
theorem RepL.thS {w4 : Wd} (hφ : w4.φ = w'.φ) (hH : HTh w'.H w4.H) (hl : ∀ a, Tk w4 a → Tk w' a) {d : D} {a : Addr} (r : RepL G w' d a) : RepL G w4 d a :=
  RepL.thw (n := w'.φ.length) hH hl (fun i a _ h => by rw [hφ]; exact h) (RepL.closed r) r
/-- the world with a dict locked and frozen -/
def lkW (w : Wd) (i : Nat) (d : D) (a : Addr) (od : Obj) (u : HO) : Wd := ⟨w.φ, w.st.set i (.lk d), upd w.H a (.frz od u), w.ex⟩
/-- .. and freed and thawed -/
def unW (w' : Wd) (i : Nat) (d : D) (a : Addr) (u : HO) : Wd := ⟨w'.φ, w'.st.set i (.mu d), upd w'.H a u, w'.ex⟩
theorem nmu_lk (ok : Ok G w) {i : Nat} {d : D} {a : Addr} (hi : w.st[i]? = some (.mu d)) (ha : w.φ[i]? = some a) : ¬ Mu ⟨w.φ, w.st.set i (.lk d), w.H, w.ex⟩ a := fun ⟨j, k, h1, h2⟩ => by
  have il0 : i < w.st.length := (List.getElem?_eq_some_iff.mp hi).1
  have h1' : (w.st.set i (Cell.lk d))[j]? = some (Cell.mu k) := h1
  rw [getElem?_set_ite] at h1'
  by_cases z : j = i
  · rw [if_pos z, if_pos il0] at h1'; cases h1'
  · rw [if_neg z] at h1'
    exact z (ok.inj j i a k d (.inl h1') (.inl hi) h2 ha)
theorem lockD (ok : Ok G w) {i : Nat} {d : D} {a : Addr} {u : HO} (hi : w.st[i]? = some (.mu d)) (ha : w.φ[i]? = some a) (hz : w.H a = some u) (isd : isDict u) (od : Obj) :
    Ext b w (lkW w i d a od u) ∧ Ok G (lkW w i d a od u) := by
  obtain ⟨e1, ok1⟩ := lock1 (b := b) ok hi
  obtain ⟨e2, ok2⟩ := frzD (b := b) (od := od) ok1 hz isd (nmu_lk ok hi ha)
  exact ⟨e1.trans e2, ok2⟩
theorem unlockD (ok1 : Ok G w) {i : Nat} {d e' : D} {a : Addr} {u : HO} {od : Obj} (hi : w.st[i]? = some (.mu d)) (ha : w.φ[i]? = some a) (hz : w.H a = some u) (isd : isDict u) (ok : Ok G w') (e : Ext b (lkW w i d a od u) w') (h : w'.st[i]? = some (.lk e')) :
    w'.H a = some (.frz od u) ∧ Ext b w (unW w' i d a u) ∧ Ok G (unW w' i d a u) := by
  obtain ⟨e0, ok0⟩ := lockD (b := b) ok1 hi ha hz isd od
  have il : i < w'.st.length := (List.getElem?_eq_some_iff.mp h).1
  have il0 : i < w.st.length := (List.getElem?_eq_some_iff.mp hi).1
  have ha' : w'.φ[i]? = some a := e.pre i a ha
  have nmu : ¬ Mu (lkW w i d a od u) a := nmu_lk ok1 hi ha
  have hf : w'.H a = some (.frz od u) := by
    rcases e.keep a (.frz od u) upd_same nmu with z | ⟨z, _⟩
    · exact z
    · exact z.elim
  have th : HTh w'.H (unW w' i d a u).H := HTh.upd hf
  have get : ∀ {j : Nat} {c : Cell}, (w'.st.set i (Cell.mu d))[j]? = some c → (j = i ∧ c = .mu d) ∨ (j ≠ i ∧ w'.st[j]? = some c) := fun {j c} h => by
    rw [getElem?_set_ite] at h
    by_cases e : j = i
    · rw [if_pos e, if_pos il] at h; exact .inl ⟨e, (Option.some.inj h).symm⟩
    · rw [if_neg e] at h; exact .inr ⟨e, h⟩
  have lv1 : ∀ {j : Nat} {k : D}, ((w'.st.set i (Cell.mu d))[j]? = some (Cell.mu k) ∨ (w'.st.set i (Cell.mu d))[j]? = some (Cell.lk k)) → ∃ k', w'.st[j]? = some (Cell.mu k') ∨ w'.st[j]? = some (Cell.lk k') := fun {j k} h1 => by
    rcases h1 with h1 | h1 <;> rcases get h1 with ⟨rfl, _⟩ | ⟨_, z⟩
    · exact ⟨e', .inr h⟩
    · exact ⟨k, .inl z⟩
    · exact ⟨e', .inr h⟩
    · exact ⟨k, .inr z⟩
  have lv : ∀ x, Live (unW w' i d a u) x → Live w' x := fun x ⟨j, k, h1, h2⟩ => by
    obtain ⟨k', z⟩ := lv1 h1
    exact ⟨j, k', z, h2⟩
  have tv : ∀ x, Tk (unW w' i d a u) x → Tk w' x := fun x h => h.imp (lv x) id
  have rl : RepL G w' d a := by
    have q : RepL G (lkW w i d a od u) d a := ok0.cell i (.lk d) a (by show (w.st.set i (Cell.lk d))[i]? = _; rw [getElem?_set_ite, if_pos rfl, if_pos il0]) ha
    exact RepL.ext e q nmu
  have rc : RepC G (unW w' i d a u) d a := by
    have q : RepL G (unW w' i d a u) d a := RepL.thS (w' := w') (w4 := unW w' i d a u) rfl th tv rl
    have hs : (unW w' i d a u).H a = some u := upd_same
    cases d <;> try exact q.elim
    · obtain ⟨vs, z, _⟩ := rl; rw [hf] at z; cases z
    · obtain ⟨vs, z, r⟩ := q
      refine ⟨vs, ?_, r⟩
      rcases z with z | ⟨o, z⟩
      · exact z
      · rw [hs] at z; cases z; exact isd.elim
    · obtain ⟨vs, z, r⟩ := q
      refine ⟨vs, ?_, r⟩
      rcases z with z | ⟨o, z⟩
      · exact z
      · rw [hs] at z; cases z; exact isd.elim
    · obtain ⟨dx, vs, z, _⟩ := rl; rw [hf] at z; cases z
  have nx : ∀ {x : Addr}, x ≠ a → (unW w' i d a u).H x = w'.H x := fun z => upd_ne z
  have nx0 : ∀ {x : Addr}, x ≠ a → (lkW w i d a od u).H x = w.H x := fun z => upd_ne z
  have mu0 : ∀ {x : Addr}, Mu (lkW w i d a od u) x → Mu w x := fun {x} ⟨j', k', y1, y2⟩ => by
    have y1' : (w.st.set i (Cell.lk d))[j']? = some (Cell.mu k') := y1
    rw [getElem?_set_ite] at y1'
    by_cases q : j' = i
    · rw [if_pos q, if_pos il0] at y1'; cases y1'
    · rw [if_neg q] at y1'; exact ⟨j', k', y1', y2⟩
  refine ⟨hf, ⟨fun j x z => e.pre j x z, fun x l => (e0.trans e).live x (tv x l), fun x m => ?_, fun x o z n => ?_, fun c hc s j k hj z => ?_, fun x hx => e.exm x hx⟩, ⟨by show w'.φ.length = _; simp [unW, ok.len], fun j c x h1 h2 => ?_, fun j k x l m h1 h2 h3 h4 => ?_, fun x hx l => ok.exd x hx (lv x l), fun x hx => ?_⟩⟩
  · obtain ⟨j, k, h1, h2⟩ := m
    rcases get h1 with ⟨rfl, _⟩ | ⟨_, z⟩
    · have h2' : w'.φ[j]? = some x := h2
      rw [ha'] at h2'; cases h2'
      exact .inl ⟨j, d, hi, ha⟩
    · rcases e.mu x ⟨j, k, z, h2⟩ with y | y
      · exact .inl (mu0 y)
      · by_cases q : x = a
        · subst q; exact .inl ⟨i, d, hi, ha⟩
        · rw [nx0 q] at y; exact .inr y
  · by_cases q : x = a
    · subst q; exact (n ⟨i, d, hi, ha⟩).elim
    · rw [nx q]
      exact e.keep x o (by rw [nx0 q]; exact z) fun m => n (mu0 m)
  · rcases get z with ⟨rfl, rfl⟩ | ⟨_, y⟩
    · exact s j _ hj hi
    · exact e.sco c hc (e0.sco c hc s) j k hj y
  · rcases get h1 with ⟨rfl, rfl⟩ | ⟨_, y⟩
    · have h2' : w'.φ[j]? = some x := h2
      rw [ha'] at h2'; cases h2'
      exact rc
    · have q := ok.cell j c x y h2
      cases c with
      | dead => trivial
      | mu k => exact RepC.thS (w' := w') (w4 := unW w' i d a u) rfl th tv q
      | lk k => exact RepL.thS (w' := w') (w4 := unW w' i d a u) rfl th tv q
  · obtain ⟨l', y1⟩ := lv1 h1
    obtain ⟨m', y2⟩ := lv1 h2
    exact ok.inj j k x l' m' y1 y2 h3 h4
  · by_cases q : x = a
    · obtain ⟨o, z⟩ := ok.exh x hx
      rw [q, hf] at z; cases z
    · obtain ⟨o, z⟩ := ok.exh x hx
      exact ⟨o, by rw [nx q]; exact z⟩
end
end Den
set_option maxHeartbeats 2000000
/-! DLkW: what is walked is locked (a dict: and frozen), and freed (and thawed) behind. -/
namespace Den
open PySem L2
theorem HTh.refl {H : Hp} : HTh H H := ⟨fun _ _ e _ => e, fun _ _ _ r => r⟩
theorem upd_dom {H : Hp} {a x : Addr} {o : HO} (h : upd H a o x = none) : H x = none := by
  by_cases z : x = a
  · rw [z, upd_same] at h; cases h
  · rwa [upd_ne z] at h
structure LkW (G : Gm) (b : Nat) (H0 : Hp) (w1 : Wd) (lk : Lk) (w2 : Wd) : Prop where
  st : w2.st = lkSt w1.st lk
  ext : Ext b w1 w2
  ok : Ok G w2
  dom : ∀ a, w2.H a = none → w1.H a = none
  un : ∀ w3 st', Ok G w3 → Ext b w2 w3 → unSt w3.st lk = some st' → ∃ H', Thw H0 w3.H H' ∧ Ext b w1 ⟨w3.φ, st', H', w3.ex⟩ ∧ Ok G ⟨w3.φ, st', H', w3.ex⟩ ∧ HTh w3.H H'
section
variable {G : Gm} {b : Nat} {H0 : Hp} {w1 : Wd}
theorem LkW.lists (ok : Ok G w1) {lk : Lk} (hk : lkOk w1.st lk) : LkW G b H0 w1 lk ⟨w1.φ, lkSt w1.st lk, w1.H, w1.ex⟩ := by
  obtain ⟨e, o⟩ := lockAll (b := b) lk w1 ok hk
  refine ⟨rfl, e, o, fun _ h => h, fun w3 st' o3 e3 hu => ?_⟩
  obtain ⟨e4, o4⟩ := unlockAll lk w1 w3 st' ok hk o3 e3 hu
  exact ⟨w3.H, .refl, e4, o4, .refl⟩
/-- a dict that is a value -/
theorem LkW.val (ok : Ok G w1) {a : Addr} {od : Obj} {u : HO} (hz : w1.H a = some u) (isd : isDict u) (nm : ¬ Mu w1 a) : LkW G b H0 w1 [] ⟨w1.φ, w1.st, upd w1.H a (.frz od u), w1.ex⟩ := by
  obtain ⟨e, o⟩ := frzD (b := b) (od := od) ok hz isd nm
  refine ⟨rfl, e, o, fun x h => upd_dom h, fun w3 st' o3 e3 hu => ?_⟩
  cases hu
  exact ⟨w3.H, .refl, e.trans e3, o3, .refl⟩
theorem LkW.dict (ok : Ok G w1) {i : Nat} {d : D} {a : Addr} {od : Obj} {u : HO} (hi : w1.st[i]? = some (.mu d)) (ha : w1.φ[i]? = some a) (hz : w1.H a = some u) (isd : isDict u) (hn : ∀ o' u', H0 a ≠ some (.frz o' u')) : LkW G b H0 w1 [(i, d)] (lkW w1 i d a od u) := by
  obtain ⟨e, o⟩ := lockD (b := b) ok hi ha hz isd od
  refine ⟨rfl, e, o, fun x h => upd_dom h, fun w3 st' o3 e3 hu => ?_⟩
  unfold unSt at hu
  dsimp only [unSt] at hu
  cases h3 : w3.st[i]? with
  | none => rw [h3] at hu; cases hu
  | some c =>
    rw [h3] at hu
    cases c <;> try (cases hu; done)
    cases hu
    obtain ⟨hf, e4, o4⟩ := unlockD (b := b) ok hi ha hz isd o3 e3 h3
    exact ⟨upd w3.H a u, Thw.one hf hn, e4, o4, HTh.upd hf⟩
/-- a dict is frozen where it is walked, be it a value, locked, or an object of the store -/
theorem dic_frz {d : D} {v : V} {c : D} (ok : Ok G w1) (r : Rep G w1 d v) (e : look w1.st d = some c) (hc : (∃ kvs, c = .dK kvs) ∨ ∃ kvs, c = .dT kvs) :
    ∃ a, v = .ref a ∧ ((∃ kvs us, c = .dK kvs ∧ Rd w1.H a (.dK us) ∧ ∀ od H2, Frz H0 w1.H a od (.dK us) H2 → ∃ w2, w2.H = H2 ∧ LkW G b H0 w1 (lockOf w1.st d) w2 ∧ ∀ w3, Ext b w2 w3 → w3.H a = some (.frz od (.dK us)) ∧ RepK G w3 kvs us) ∨
      (∃ kvs us, c = .dT kvs ∧ Rd w1.H a (dX G.hs a us) ∧ ∀ od H2, Frz H0 w1.H a od (dX G.hs a us) H2 → ∃ w2, w2.H = H2 ∧ LkW G b H0 w1 (lockOf w1.st d) w2 ∧ ∀ w3, Ext b w2 w3 → w3.H a = some (.frz od (dX G.hs a us)) ∧ RepT G w3 kvs us)) := by
  -- what is not to be changed
  have fix : ∀ {a : Addr} {u : HO}, isDict u → ¬ Mu w1 a → Rd w1.H a u → lockOf w1.st d = [] → ∀ od H2, Frz H0 w1.H a od u H2 → ∃ w2, w2.H = H2 ∧ LkW G b H0 w1 (lockOf w1.st d) w2 ∧ Ext b w1 w2 ∧ ∀ w3, Ext b w2 w3 → w3.H a = some (.frz od u) := by
    intro a u isd nm hr hl od H2 f
    rw [hl]
    have nf : ¬ isDict (.frz od u) := fun z => z
    rcases f with ⟨h1, rfl⟩ | ⟨h1, h0, rfl⟩
    · exact ⟨w1, rfl, LkW.lists (lk := []) ok True.intro, .refl, fun w3 e3 => (e3.keep a _ h1 nm).same nf⟩
    · have L : LkW G b H0 w1 [] ⟨w1.φ, w1.st, upd w1.H a (.frz od u), w1.ex⟩ := LkW.val ok h1 isd nm
      refine ⟨_, rfl, L, L.ext, fun w3 e3 => (e3.keep a _ upd_same fun m => nm ?_).same nf⟩
      obtain ⟨i, k, y1, y2⟩ := m
      exact ⟨i, k, y1, y2⟩
  cases d with
  | dK kvs =>
    cases e
    obtain ⟨a, us, rfl, n, z, q⟩ := r
    refine ⟨a, rfl, .inl ⟨kvs, us, rfl, z, fun od H2 f => ?_⟩⟩
    obtain ⟨w2, h2, L, e2, k⟩ := fix (u := .dK us) True.intro (fun m => n (.inl m.live)) z rfl od H2 f
    exact ⟨w2, h2, L, fun w3 e3 => ⟨k w3 e3, RepK.ext (e2.trans e3) _ _ q⟩⟩
  | dT kvs =>
    cases e
    obtain ⟨a, us, rfl, n, z, q⟩ := r
    refine ⟨a, rfl, .inr ⟨kvs, us, rfl, z, fun od H2 f => ?_⟩⟩
    obtain ⟨w2, h2, L, e2, k⟩ := fix (u := dX G.hs a us) True.intro (fun m => n (.inl m.live)) z rfl od H2 f
    exact ⟨w2, h2, L, fun w3 e3 => ⟨k w3 e3, RepT.ext (e2.trans e3) _ _ q⟩⟩
  | loc i =>
    obtain ⟨a, rfl, ha⟩ := r
    refine ⟨a, rfl, ?_⟩
    unfold look at e
    cases hi : w1.st[i]? with
    | none => simp only [hi] at e; cases e
    | some cc =>
      have q := ok.cell i cc a hi ha
      cases cc with
      | dead => simp only [hi] at e; cases e
      | lk k =>
        simp only [hi] at e; cases e
        have el : lockOf w1.st (.loc i) = [] := by unfold lockOf; simp only [hi]
        have n : ¬ Mu w1 a := fun ⟨j, k, h1, h2⟩ => by
          have := ok.inj j i a k _ (.inl h1) (.inr hi) h2 ha
          subst this
          rw [hi] at h1; cases h1
        rcases hc with ⟨kvs, rfl⟩ | ⟨kvs, rfl⟩
        · obtain ⟨us, z, q⟩ := q
          refine .inl ⟨kvs, us, rfl, z, fun od H2 f => ?_⟩
          obtain ⟨w2, h2, L, e2, k⟩ := fix (u := .dK us) True.intro n z el od H2 f
          exact ⟨w2, h2, L, fun w3 e3 => ⟨k w3 e3, RepK.ext (e2.trans e3) _ _ q⟩⟩
        · obtain ⟨us, z, q⟩ := q
          refine .inr ⟨kvs, us, rfl, z, fun od H2 f => ?_⟩
          obtain ⟨w2, h2, L, e2, k⟩ := fix (u := dX G.hs a us) True.intro n z el od H2 f
          exact ⟨w2, h2, L, fun w3 e3 => ⟨k w3 e3, RepT.ext (e2.trans e3) _ _ q⟩⟩
      | mu k =>
        simp only [hi] at e; cases e
        have el : lockOf w1.st (.loc i) = [(i, c)] := by unfold lockOf; simp only [hi]
        have il : i < w1.st.length := (List.getElem?_eq_some_iff.mp hi).1
        have cell : ∀ {od : Obj} {u : HO} {w2 : Wd}, Ok G w2 → w2.st = w1.st.set i (.lk c) → w2.φ = w1.φ → RepL G w2 c a := fun o2 e1 e2 => o2.cell i (.lk c) a (by rw [e1, getElem?_set_ite, if_pos rfl, if_pos il]) (by rw [e2]; exact ha)
        rw [el]
        rcases hc with ⟨kvs, rfl⟩ | ⟨kvs, rfl⟩
        · obtain ⟨us, z, q⟩ := q
          refine .inl ⟨kvs, us, rfl, .inl z, fun od H2 f => ?_⟩
          rcases f with ⟨h1, rfl⟩ | ⟨h1, h0, rfl⟩
          · rw [z] at h1; cases h1
          have L : LkW G b H0 w1 [(i, .dK kvs)] (lkW w1 i (.dK kvs) a od (.dK us)) := LkW.dict ok hi ha z True.intro h0
          have n := nmu_lk ok hi ha
          obtain ⟨us', z', q'⟩ := cell (od := od) (u := .dK us) L.ok rfl rfl
          rcases z' with z' | ⟨o', z'⟩
          · have : (lkW w1 i (.dK kvs) a od (.dK us)).H a = some (.frz od (.dK us)) := upd_same
            rw [this] at z'; cases z'
          · have : (lkW w1 i (.dK kvs) a od (.dK us)).H a = some (.frz od (.dK us)) := upd_same
            rw [this] at z'; cases z'
            exact ⟨_, rfl, L, fun w3 e3 => ⟨(e3.keep a _ upd_same n).same fun z => z, RepK.ext e3 _ _ q'⟩⟩
        · obtain ⟨us, z, q⟩ := q
          refine .inr ⟨kvs, us, rfl, .inl z, fun od H2 f => ?_⟩
          rcases f with ⟨h1, rfl⟩ | ⟨h1, h0, rfl⟩
          · rw [z] at h1; cases h1
          have L : LkW G b H0 w1 [(i, .dT kvs)] (lkW w1 i (.dT kvs) a od (dX G.hs a us)) := LkW.dict ok hi ha z True.intro h0
          have n := nmu_lk ok hi ha
          exact ⟨_, rfl, L, fun w3 e3 => ⟨(e3.keep a _ upd_same n).same fun z => z, RepT.ext (L.ext.trans e3) _ _ q⟩⟩
  | _ => rcases hc with ⟨kvs, rfl⟩ | ⟨kvs, rfl⟩ <;> cases e
end
end Den
set_option maxHeartbeats 2000000
/-! DIter: what a loop walks. -/
namespace Den
open PySem L2

section
variable {G : Gm} {pg : Pg} {b : Nat} {w : Wd}
/-- J walks the items xs, from w on -/
def WalkOk (G : Gm) (b : Nat) (w2 : Wd) (J : L2.It) (xs : List D) : Prop := ∃ (Gd : Hp → Prop) (Y : Nat → Hp → V → Hp → Prop), Walk J xs.length Gd Y ∧ (∀ w3, Ok G w3 → Ext b w2 w3 → Gd w3.H) ∧
  ∀ i v H' w3, i < xs.length → Ok G w3 → Ext b w2 w3 → Y i w3.H v H' → ∃ w4 d, w4.H = H' ∧ w4.st = w3.st ∧ Ok G w4 ∧ Ext b w3 w4 ∧ xs[i]? = some d ∧ Rep G w4 d v

/-- a list that is locked or frozen stands -/
theorem lst_stays {w1 : Wd} {d : D} {v : V} {xs : List D} (ok : Ok G w1) (r : Rep G w1 d v) (e : look w1.st d = some (.lst xs)) :
    ∃ a vs, v = .ref a ∧ (∀ w3, Ok G w3 → Ext b ⟨w1.φ, lkSt w1.st (lockOf w1.st d), w1.H, w1.ex⟩ w3 → w3.H a = some (.lst vs) ∧ Reps G w3 xs vs) := by
  cases d with
  | lst ys =>
    cases e
    obtain ⟨a, vs, rfl, n, z, q⟩ := r
    refine ⟨a, vs, rfl, fun w3 ok3 ex => ?_⟩
    have ex' : Ext b w1 w3 := ex
    exact ⟨(ex'.stay z n).same fun y => y, Reps.ext ex' xs vs q⟩
  | loc i =>
    obtain ⟨a, rfl, ha⟩ := r
    have key : ∀ {c}, (w1.st[i]? = some (.mu c) ∨ w1.st[i]? = some (.lk c)) → look w1.st (.loc i) = some c := fun {c} h => by
      unfold look; rcases h with h | h <;> simp [h]
    cases hi : w1.st[i]? with
    | none => unfold look at e; simp only [hi] at e; cases e
    | some c =>
      have il : i < w1.st.length := (List.getElem?_eq_some_iff.mp hi).1
      cases c with
      | dead => unfold look at e; simp only [hi] at e; cases e
      | mu c =>
        have ec := (key (.inl hi)).symm.trans e
        cases ec
        have el : lockOf w1.st (.loc i) = [(i, .lst xs)] := by unfold lockOf; simp only [hi]
        rw [el]
        obtain ⟨e1, ok1⟩ := lock1 (b := b) ok hi
        have q : RepL G ⟨w1.φ, w1.st.set i (.lk (.lst xs)), w1.H, w1.ex⟩ (.lst xs) a := ok1.cell i (.lk (.lst xs)) a (by show (w1.st.set i _)[i]? = _; rw [getElem?_set_ite, if_pos rfl, if_pos il]) ha
        obtain ⟨vs, z, qr⟩ := q
        refine ⟨a, vs, rfl, fun w3 ok3 ex => ?_⟩
        have n : ¬ Mu ⟨w1.φ, w1.st.set i (.lk (.lst xs)), w1.H, w1.ex⟩ a := fun ⟨j, k, h1, h2⟩ => by
          have h1' : (w1.st.set i (Cell.lk (.lst xs)))[j]? = some (Cell.mu k) := h1
          rw [getElem?_set_ite] at h1'
          by_cases y : j = i
          · rw [if_pos y, if_pos il] at h1'; cases h1'
          · rw [if_neg y] at h1'
            exact y (ok.inj j i a k _ (.inl h1') (.inl hi) h2 ha)
        exact ⟨(ex.keep a _ z n).same fun y => y, Reps.ext ex xs vs qr⟩
      | lk c =>
        have ec := (key (.inr hi)).symm.trans e
        cases ec
        have el : lockOf w1.st (.loc i) = [] := by unfold lockOf; simp only [hi]
        rw [el]
        have q : RepL G w1 (.lst xs) a := ok.cell i (.lk (.lst xs)) a hi ha
        obtain ⟨vs, z, qr⟩ := q
        refine ⟨a, vs, rfl, fun w3 ok3 ex => ?_⟩
        have ex' : Ext b w1 w3 := ex
        have n : ¬ Mu w1 a := fun ⟨j, k, h1, h2⟩ => by
          have := ok.inj j i a k _ (.inl h1) (.inr hi) h2 ha
          subst this
          rw [hi] at h1; cases h1
        exact ⟨(ex'.keep a _ z n).same fun y => y, Reps.ext ex' xs vs qr⟩
  | _ => cases e
theorem scr_stays {w1 : Wd} {d : D} {v : V} {ns : List Int} (ok : Ok G w1) (r : Rep G w1 d v) (e : look w1.st d = some (.scr ns)) :
    ∃ a, v = .ref a ∧ (∀ w3, Ext b w1 w3 → SqL G.K w3.H a (ns.map V.int)) := by
  have ed : d = .scr ns := by
    cases d <;> try (cases e; done)
    · cases e; rfl
    · rename_i i
      obtain ⟨a, rfl, ha⟩ := r
      unfold look at e
      cases hi : w1.st[i]? with
      | none => simp only [hi] at e; cases e
      | some k =>
        have q := ok.cell i _ a hi ha
        cases k with
        | dead => simp only [hi] at e; cases e
        | mu d => simp only [hi] at e; cases e; exact q.elim
        | lk d => simp only [hi] at e; cases e; exact q.elim
  subst ed
  obtain ⟨a, rfl, hr⟩ := r
  refine ⟨a, rfl, fun w3 ex => ?_⟩
  rcases hr with ⟨n, z⟩ | z
  · exact .inl (ex.rd z fun m => n (.inl m.live))
  · exact z _

theorem walkL {w2 : Wd} {K : PySem.W.Frag} {a : Addr} {xs : List D} {vs : List V} (hl : xs.length = vs.length) (h : ∀ w3, Ok G w3 → Ext b w2 w3 → SqL K w3.H a vs ∧ Reps G w3 xs vs) : WalkOk G b w2 (Itl K a) xs := by
  refine ⟨fun H => SqL K H a vs, YAt vs, by rw [hl]; exact walk_list, fun w3 ok e => (h w3 ok e).1, fun i v H' w3 hi ok e y => ?_⟩
  obtain ⟨rfl, y⟩ := y
  obtain ⟨d, hd⟩ : ∃ d, xs[i]? = some d := ⟨_, List.getElem?_eq_getElem hi⟩
  obtain ⟨u, hu, r⟩ := (h w3 ok e).2.get hd
  rw [y] at hu; cases hu
  exact ⟨w3, d, rfl, rfl, ok, .refl, hd, r⟩
theorem walkT {w2 : Wd} {K : PySem.W.Frag} {a : Addr} {xs : List D} {vs : List V} (hl : xs.length = vs.length) (h : ∀ w3, Ok G w3 → Ext b w2 w3 → SqT K w3.H a vs ∧ Reps G w3 xs vs) : WalkOk G b w2 (Itt K a) xs := by
  refine ⟨fun H => SqT K H a vs, YAt vs, by rw [hl]; exact walk_tup, fun w3 ok e => (h w3 ok e).1, fun i v H' w3 hi ok e y => ?_⟩
  obtain ⟨rfl, y⟩ := y
  obtain ⟨d, hd⟩ : ∃ d, xs[i]? = some d := ⟨_, List.getElem?_eq_getElem hi⟩
  obtain ⟨u, hu, r⟩ := (h w3 ok e).2.get hd
  rw [y] at hu; cases hu
  exact ⟨w3, d, rfl, rfl, ok, .refl, hd, r⟩
theorem walkR {w2 : Wd} {lo : Int} {n : Nat} : WalkOk G b w2 (Itr lo n) (rangeD lo n 1) := by
  have hl : (rangeD lo n 1).length = n := by simp [rangeD]
  refine ⟨fun _ => True, YFn fun i => .int (lo + i), by rw [hl]; exact walk_range, fun _ _ _ => trivial, fun i v H' w3 hi ok e y => ?_⟩
  obtain ⟨rfl, rfl⟩ := y
  rw [hl] at hi
  refine ⟨w3, .int (lo + (i : Nat) * 1), rfl, rfl, ok, .refl, by simp [rangeD, hi], ?_⟩
  show V.int (lo + i) = V.int (lo + (i : Nat) * 1)
  rw [Int.mul_one]
/-- a new pair each turn -/
theorem walkP {w2 : Wd} {J : L2.It} {xs : List D} {Gd : Hp → Prop} {fx fy : Nat → Option V} (hw : Walk J xs.length Gd (YPair fx fy)) (hg : ∀ w3, Ok G w3 → Ext b w2 w3 → Gd w3.H)
    (h : ∀ (i : Nat) x y w3, i < xs.length → Ok G w3 → Ext b w2 w3 → fx i = some x → fy i = some y → ∃ d e, xs[i]? = some (.tup [d, e]) ∧ Rep G w3 d x ∧ Rep G w3 e y) : WalkOk G b w2 J xs := by
  refine ⟨Gd, _, hw, hg, fun i v H' w3 hi ok e y => ?_⟩
  obtain ⟨Ta, x, z, rfl, hn, rfl, h1, h2⟩ := y
  obtain ⟨d, e', h3, h4, h5⟩ := h i x z w3 hi ok e h1 h2
  obtain ⟨e1, ok1, n1⟩ := grow (b := b) ok hn (.tup [x, z])
  exact ⟨{ w3 with H := upd w3.H Ta (.tup [x, z]) }, _, rfl, rfl, ok1, e1, h3, Ta, [x, z], rfl, .inl ⟨n1, upd_same⟩, x, [z], rfl, Rep.ext e1 _ _ h4, z, [], rfl, Rep.ext e1 _ _ h5, rfl⟩
theorem walkS {w2 : Wd} {s : Str} : WalkOk G b w2 (Its s) (strD s) := by
  have hl : (strD s).length = s.cps.size := by simp [strD]
  refine ⟨_, _, by rw [hl]; exact walk_str, fun _ _ _ => trivial, fun i v H' w3 hi ok e y => ?_⟩
  obtain ⟨rfl, c, hc, rfl⟩ := y
  refine ⟨w3, .str ⟨#[c]⟩, rfl, rfl, ok, .refl, ?_, rfl⟩
  unfold strD
  rw [List.getElem?_map]
  have : s.cps.toList[i]? = some c := by simpa using hc
  rw [this]; rfl
theorem enumD_get : ∀ (xs : List D) (n i : Nat) (d : D), xs[i]? = some d → (enumD n xs)[i]? = some (.tup [.int ((n + i : Nat) : Int), d])
  | [], _, _, _, h => by simp at h
  | x :: xs, n, 0, d, h => by simp at h; subst h; simp [enumD]
  | x :: xs, n, i + 1, d, h => by
    have := enumD_get xs (n + 1) i d (by simpa using h)
    simp only [enumD, List.getElem?_cons_succ]
    rw [this]
    congr 5
    omega
theorem enumD_length : ∀ (xs : List D) (n : Nat), (enumD n xs).length = xs.length
  | [], _ => rfl
  | x :: xs, n => by simp [enumD, enumD_length xs (n + 1)]
theorem zipD_length : ∀ (xs ys : List D), (zipD xs ys).length = min xs.length ys.length
  | [], _ => by simp [zipD]
  | _ :: _, [] => by simp [zipD]
  | x :: xs, y :: ys => by simp [zipD, zipD_length xs ys]
theorem zipD_get : ∀ (xs ys : List D) (i : Nat) (d e : D), xs[i]? = some d → ys[i]? = some e → (zipD xs ys)[i]? = some (.tup [d, e])
  | [], _, _, _, _, h, _ => by simp at h
  | _ :: _, [], _, _, _, _, h => by simp at h
  | x :: xs, y :: ys, 0, d, e, h, h' => by simp at h h'; subst h h'; simp [zipD]
  | x :: xs, y :: ys, i + 1, d, e, h, h' => by simp only [zipD, List.getElem?_cons_succ]; exact zipD_get xs ys i d e (by simpa using h) (by simpa using h')
end

theorem lkSt_append : ∀ (l m : Lk) (st : Sto), lkSt st (l ++ m) = lkSt (lkSt st l) m
  | [], _, _ => rfl
  | (i, d) :: r, m, st => lkSt_append r m _
theorem lkOk_append : ∀ {l m : Lk} {st : Sto}, lkOk st l → lkOk (lkSt st l) m → lkOk st (l ++ m)
  | [], _, _, _, h => h
  | (i, d) :: r, m, st, h, h' => ⟨h.1, h.2.1, lkOk_append h.2.2 h'⟩
theorem look_locked {c : D} : ∀ (lk : Lk) (st : Sto) (d : D), lkOk st lk → look st d = some c → look (lkSt st lk) d = some c
  | [], _, _, _, h => h
  | (i, e) :: r, st, d, hk, h => by
    refine look_locked r _ d hk.2.2 ?_
    cases d <;> try exact h
    rename_i j
    unfold look at h ⊢
    dsimp only at h ⊢
    rw [getElem?_set_ite]
    by_cases z : j = i
    · subst z
      rw [if_pos rfl, if_pos (List.getElem?_eq_some_iff.mp hk.1).1]
      rw [hk.1] at h
      exact h
    · rw [if_neg z]; exact h
/-! dicts -/
section
variable {G : Gm} {b : Nat}
theorem RepK.get {w : Wd} : ∀ {kvs : List (Key × D)} {us : List (Key × V)} {i : Nat} {k : Key} {v : V}, RepK G w kvs us → us[i]? = some (k, v) → ∃ d, kvs[i]? = some (k, d) ∧ Rep G w d v
  | [], us, i, k, v, r, h => by cases r; cases i <;> cases h
  | (k', x) :: kvs, us, 0, k, v, r, h => by
    obtain ⟨y, yr, rfl, r1, _⟩ := r
    cases h
    exact ⟨x, rfl, r1⟩
  | (k', x) :: kvs, us, i + 1, k, v, r, h => by
    obtain ⟨y, yr, rfl, _, r2⟩ := r
    have h' : yr[i]? = some (k, v) := h
    have z := RepK.get r2 h'
    exact z
theorem RepT.get {w : Wd} : ∀ {kvs : List (List Key × D)} {us : List XE} {i : Nat} {k : List Key} {q : Addr} {v : V}, RepT G w kvs us → us[i]? = some (k, q, v) → ∃ d, kvs[i]? = some (k, d) ∧ TpA G w q (k.map kV) ∧ Rep G w d v
  | [], us, i, k, q, v, r, h => by cases r; cases i <;> cases h
  | (k', x) :: kvs, us, 0, k, q, v, r, h => by
    obtain ⟨p, y, yr, rfl, t, r1, _⟩ := r
    cases h
    exact ⟨x, rfl, t, r1⟩
  | (k', x) :: kvs, us, i + 1, k, q, v, r, h => by
    obtain ⟨p, y, yr, rfl, _, _, r2⟩ := r
    have h' : yr[i]? = some (k, q, v) := h
    have z := RepT.get r2 h'
    exact z
theorem RepK.lenD {w : Wd} : ∀ {kvs : List (Key × D)} {us : List (Key × V)}, RepK G w kvs us → kvs.length = us.length
  | [], us, r => by cases r; rfl
  | (k', x) :: kvs, us, r => by
    obtain ⟨y, yr, rfl, _, r2⟩ := r
    simp [RepK.lenD r2]
theorem RepT.lenD {w : Wd} : ∀ {kvs : List (List Key × D)} {us : List XE}, RepT G w kvs us → kvs.length = us.length
  | [], us, r => by cases r; rfl
  | (k', x) :: kvs, us, r => by
    obtain ⟨p, y, yr, rfl, _, _, r2⟩ := r
    simp [RepT.lenD r2]
theorem rep_ofK {w : Wd} : ∀ (k : Key), Rep G w (ofK k) (kV k)
  | .inl _ => rfl
  | .inr _ => rfl
theorem reps_ofK {w : Wd} : ∀ (k : List Key), Reps G w (k.map ofK) (k.map kV)
  | [] => rfl
  | x :: xs => ⟨kV x, xs.map kV, rfl, rep_ofK x, reps_ofK xs⟩
/-- a tuple that stands is not to be changed -/
theorem tup_ntk {w : Wd} (ok : Ok G w) {q : Addr} {vs : List V} (h : w.H q = some (.tup vs)) : ¬ Tk w q := fun t => by
  rcases t with ⟨i, d, hi, ha⟩ | t
  · have L : RepL G w d q := by
      rcases hi with hi | hi
      · exact RepC.l (ok.cell i _ q hi ha)
      · exact ok.cell i _ q hi ha
    cases d <;> try exact L.elim
    · obtain ⟨_, z, _⟩ := L; rw [h] at z; cases z
    · obtain ⟨_, z, _⟩ := L; rcases z with z | ⟨_, z⟩ <;> (rw [h] at z; cases z)
    · obtain ⟨_, z, _⟩ := L; rcases z with z | ⟨_, z⟩ <;> (rw [h] at z; cases z)
    · obtain ⟨_, _, z, _⟩ := L; rw [h] at z; cases z
  · obtain ⟨_, z⟩ := ok.exh q t; rw [h] at z; cases z
theorem walkK {w2 : Wd} {a : Addr} {o : Obj} {kvs : List (Key × D)} {us : List (Key × V)} (h : ∀ w3, Ext b w2 w3 → w3.H a = some (.frz o (.dK us)) ∧ RepK G w3 kvs us) : WalkOk G b w2 (Itk a o us) (kvs.map fun kv => ofK kv.1) := by
  have hl : kvs.length = us.length := (h w2 .refl).2.lenD
  refine ⟨_, _, by rw [List.length_map, hl]; exact walk_keys, fun w3 _ e => (h w3 e).1, fun i v H' w3 hi ok e y => ?_⟩
  obtain ⟨rfl, k, x, h1, rfl⟩ := y
  obtain ⟨d, hd, _⟩ := (h w3 e).2.get h1
  exact ⟨w3, ofK k, rfl, rfl, ok, .refl, by rw [List.getElem?_map, hd]; rfl, rep_ofK k⟩
theorem walkKT {w2 : Wd} {a : Addr} {o : Obj} {kvs : List (List Key × D)} {us : List XE} (h : ∀ w3, Ext b w2 w3 → w3.H a = some (.frz o (dX G.hs a us)) ∧ RepT G w3 kvs us) : WalkOk G b w2 (Itkx G.hs a o us) (kvs.map fun kv => .tup (kv.1.map ofK)) := by
  have hl : kvs.length = us.length := (h w2 .refl).2.lenD
  refine ⟨_, _, by rw [List.length_map, hl]; exact walk_keysX, fun w3 _ e => (h w3 e).1, fun i v H' w3 hi ok e y => ?_⟩
  obtain ⟨rfl, k, q, x, h1, rfl⟩ := y
  obtain ⟨d, hd, t, _⟩ := (h w3 e).2.get h1
  exact ⟨w3, .tup (k.map ofK), rfl, rfl, ok, .refl, by rw [List.getElem?_map, hd]; rfl, q, _, rfl, t, reps_ofK k⟩
theorem walkIK {w2 : Wd} {a : Addr} {o : Obj} {kvs : List (Key × D)} {us : List (Key × V)} (h : ∀ w3, Ext b w2 w3 → w3.H a = some (.frz o (.dK us)) ∧ RepK G w3 kvs us) : WalkOk G b w2 (Iti a o us) (kvs.map fun kv => .tup [ofK kv.1, kv.2]) := by
  have hl : kvs.length = us.length := (h w2 .refl).2.lenD
  refine walkP (by rw [List.length_map, hl]; exact walk_items) (fun w3 _ e => (h w3 e).1) fun i x y w3 hi ok e h1 h2 => ?_
  cases hu : us[i]? with
  | none => rw [hu] at h1; cases h1
  | some p =>
    obtain ⟨k, v⟩ := p
    rw [hu] at h1 h2
    cases h1; cases h2
    obtain ⟨d, hd, r⟩ := (h w3 e).2.get hu
    exact ⟨ofK k, d, by rw [List.getElem?_map, hd]; rfl, rep_ofK k, r⟩
theorem walkIT {w2 : Wd} {a : Addr} {o : Obj} {kvs : List (List Key × D)} {us : List XE} (h : ∀ w3, Ext b w2 w3 → w3.H a = some (.frz o (dX G.hs a us)) ∧ RepT G w3 kvs us) : WalkOk G b w2 (Itix G.hs a o us) (kvs.map fun kv => .tup [.tup (kv.1.map ofK), kv.2]) := by
  have hl : kvs.length = us.length := (h w2 .refl).2.lenD
  refine ⟨_, _, by rw [List.length_map, hl]; exact walk_itemsX, fun w3 _ e => (h w3 e).1, fun i v H' w3 hi ok e y => ?_⟩
  obtain ⟨T, k, q, x, h1, rfl, hn, rfl⟩ := y
  obtain ⟨d, hd, t, r⟩ := (h w3 e).2.get h1
  obtain ⟨e1, ok1, n1⟩ := grow (b := b) ok hn (.tup [.ref q, x])
  exact ⟨{ w3 with H := upd w3.H T (.tup [.ref q, x]) }, .tup [.tup (k.map ofK), d], rfl, rfl, ok1, e1, by rw [List.getElem?_map, hd]; rfl, T, [.ref q, x], rfl, .inl ⟨n1, upd_same⟩, .ref q, [x], rfl, (show Rep G { w3 with H := upd w3.H T (.tup [.ref q, x]) } (.tup (k.map ofK)) (.ref q) from ⟨q, _, rfl, t.ext e1, reps_ofK k⟩), x, [], rfl, Rep.ext e1 _ _ r, rfl⟩
end
/-- the kinds' texts -/
def chkI (ck : CK) (k : IK) (as : E) (tg e : Expr) : Bool :=
  match k with
  | .seq => match as with
    | .cons a .nil => noSet e && chkE ck a e
    | _ => false
  | .tupl => match as with
    | .cons a .nil => noSet e && chkE ck a e
    | _ => false
  | .str => match as with
    | .cons a .nil => noSet e && chkE ck a e
    | _ => false
  | .rng1 => match e with
    | .Call (.Name x _) [y] [] _ => (x == "range") && isBi ck x && chkA ck as [y]
    | _ => false
  | .rng2 => match e with
    | .Call (.Name x _) [y, z] [] _ => (x == "range") && isBi ck x && chkA ck as [y, z]
    | _ => false
  | .rng3 => match e with
    | .Call (.Name x _) [y, z, u] [] _ => (x == "range") && isBi ck x && chkA ck as [y, z, u]
    | _ => false
  | .enum => match tg, e with
    | .Tuple _ _ _, .Call (.Name x _) [y] [] _ => (x == "enumerate") && isBi ck x && chkA ck as [y]
    | _, _ => false
  | .zip => match tg, e with
    | .Tuple _ _ _, .Call (.Name x _) [y, z] [] _ => (x == "zip") && isBi ck x && chkA ck as [y, z]
    | _, _ => false
  | .rev => match e with
    | .Call (.Name x _) [y] [] _ => (x == "reversed") && isBi ck x && chkA ck as [y]
    | _ => false
  | .keys => match as with
    | .cons a .nil => noSet e && chkE ck a e
    | _ => false
  | .items => match as with
    | .cons a .nil => match tg, e with
      | .Tuple _ _ _, .Call (.Attribute x n ap) [] [] pos => (n == "items") && noSup x && (ap.endLine == pos.line) && chkE ck a x
      | _, _ => false
    | _ => false
  | _ => false
theorem chkI_one {ck : CK} {as : E} {tg e : Expr} (n : (noStar e && noSet e) = true) (q : chkA ck as [e] = true) : chkI ck .seq as tg e = true ∧ chkI ck .tupl as tg e = true ∧ chkI ck .str as tg e = true ∧ chkI ck .keys as tg e = true := by
  cases as <;> try (exact (Bool.false_ne_true q).elim)
  rename_i a r
  have q' := Bool.and_eq_true_iff.mp q
  have q1 := Bool.and_eq_true_iff.mp q'.1
  cases r <;> try (exact (Bool.false_ne_true q'.2).elim)
  have z := Bool.and_eq_true_iff.mpr ⟨(Bool.and_eq_true_iff.mp n).2, q1.2⟩
  exact ⟨z, z, z, z⟩
theorem chkI_of {ck : CK} {k : IK} {as : E} {tg e : Expr} {es : List Expr} (h : itA ck k tg e = some es) (h2 : chkA ck as es = true) : chkI ck k as tg e = true := by
  cases k <;> dsimp only [itA] at h <;> try (cases h; done)
  case seq => split at h <;> cases h; exact (chkI_one (by assumption) h2).1
  case tupl => split at h <;> cases h; exact (chkI_one (by assumption) h2).2.1
  case str => split at h <;> cases h; exact (chkI_one (by assumption) h2).2.2.1
  case keys => split at h <;> cases h; exact (chkI_one (by assumption) h2).2.2.2
  case items =>
    split at h
    · split at h
      · rename_i n; cases h
        simp only [Bool.and_eq_true] at n
        cases as <;> try (exact (Bool.false_ne_true h2).elim)
        rename_i a r
        have q' := Bool.and_eq_true_iff.mp h2
        have q1 := Bool.and_eq_true_iff.mp q'.1
        cases r <;> try (exact (Bool.false_ne_true q'.2).elim)
        dsimp only [chkI]
        rw [n.1.1.1, n.1.1.2, n.2, q1.2]; rfl
      · cases h
    · cases h
  all_goals
    split at h
    · split at h
      · rename_i n; cases h; dsimp only [chkI]; rw [n]; exact h2
      · cases h
    · cases h
/-- an iterable's reading -/
def tI (G : Gm) (pg : Pg) (b : Nat) (pn : List (Addr × Obj)) (W : WX) (H0 : Hp) (k : IK) (as : E) : TI := fun σ H R => ∃ w ρ, Pre G pn b w ρ σ H ∧ Post G b w (evA pg b as ρ w.st) W σ (fun vs w1 => ∃ xs lk, evIt k vs w1.st = some (xs, lk) ∧
  ∀ J w2, LkW G b H0 w1 lk w2 → WalkOk G b w2 J xs → R J w2.H)
theorem _root_.L2.PI.imp {X : Cx} {tg e : Expr} {t t' : TI} (h : PI X tg e t) (f : ∀ σ H R, t' σ H R → t σ H R) : PI X tg e t' := ⟨fun pins s σ H R I q => h.run pins s σ H R I (f σ H R q)⟩
theorem set_plain {e : Expr} {env : Env} (h : noSet e = true) : ∀ x, foldedSetIterable e env x = pure x := by
  intro x
  cases e <;> first | rfl | cases h
theorem post_one {G : Gm} {pg : Pg} {b : Nat} {w : Wd} {W : WX} {σ : L2.St} {a : E} {ρ : DEnv} {k : List D → Wd → Prop} (h : Post G b w (evA pg b (.cons a .nil) ρ w.st) W σ k) : Post G b w (evE pg b a ρ w.st) W σ (fun d w1 => k [d] w1) := by
  have h' : Post G b w ((evE pg b a ρ w.st).bind fun x st => (Res.ok [] st).bind fun xs st => .ok (x :: xs) st) W σ k := h
  exact h'.bind.mono fun d w1 ok e q => q w1 rfl ok .refl
section
variable {G : Gm} {pg : Pg} {b : Nat}
theorem reps_one {w : Wd} {ds : List D} {vs : List V} {d : D} (h : Reps G w ds vs) (e : one? ds = some d) : ∃ v, vs = [v] ∧ Rep G w d v := by
  unfold one? at e
  split at e
  · cases e; exact one_rep h
  · cases e
theorem reps_two {w : Wd} {ds : List D} {vs : List V} {p : D × D} (h : Reps G w ds vs) (e : two? ds = some p) : ∃ v u, vs = [v, u] ∧ Rep G w p.1 v ∧ Rep G w p.2 u := by
  unfold two? at e
  split at e
  · cases e; exact two_rep h
  · cases e
theorem reps_three {w : Wd} {ds : List D} {vs : List V} {p : D × D × D} (h : Reps G w ds vs) (e : three? ds = some p) : ∃ v u t, vs = [v, u, t] ∧ Rep G w p.1 v ∧ Rep G w p.2.1 u ∧ Rep G w p.2.2 t := by
  unfold three? at e
  split at e
  · cases e
    obtain ⟨v, vr, rfl, r1, u, ur, rfl, r2, t, tr, rfl, r3, rfl⟩ := h
    exact ⟨v, u, t, rfl, r1, r2, r3⟩
  · cases e
theorem p63 : (2 : Int) ^ 63 = 9223372036854775808 := by decide +kernel
theorem div_bd {n c : Int} (hn : 0 ≤ n) (hc : 0 < c) : 0 ≤ n / c ∧ n / c ≤ n := ⟨Int.ediv_nonneg hn (Int.le_of_lt hc), Int.ediv_le_self c hn⟩
theorem rng3_ok {i j c : Int} (h : rng3Ok i j c = true) : c ≠ 0 ∧ c.natAbs < 1073741824 ∧ Builtin.Range.small i j c = true ∧ 0 ≤ Builtin.Range.rangeSize i j c := by
  unfold rng3Ok at h
  simp only [Bool.and_eq_true, decide_eq_true_eq, Bool.not_eq_true', decide_eq_false_iff_not] at h
  obtain ⟨⟨⟨h1, h2⟩, h3⟩, h4⟩ := h
  have p40 : (2 : Nat) ^ 40 = 1099511627776 := by decide
  rw [p40] at h3 h4
  have hs : 0 ≤ Builtin.Range.rangeSize i j c ∧ Builtin.Range.rangeSize i j c < 4000000000000 := by
    unfold Builtin.Range.rangeSize
    split
    · split
      · obtain ⟨a1, a2⟩ := div_bd (n := j - i - 1) (c := c) (by omega) (by omega)
        omega
      · omega
    · split
      · obtain ⟨a1, a2⟩ := div_bd (n := i - j - 1) (c := -c) (by omega) (by omega)
        omega
      · omega
  generalize hr : Builtin.Range.rangeSize i j c = r at *
  refine ⟨by omega, by omega, ?_, hs.1⟩
  unfold Builtin.Range.small Builtin.Range.rangeFitsLong
  rw [hr]
  simp only [Bool.and_eq_true, Bool.or_eq_true, decide_eq_true_eq, beq_iff_eq, p63]
  refine ⟨⟨⟨⟨by omega, by omega⟩, by omega⟩, by omega⟩, .inr ?_⟩
  split <;> simp only [Bool.and_eq_true, decide_eq_true_eq] <;> omega
theorem walkRC {w2 : Wd} {lo c : Int} {n : Nat} : WalkOk G b w2 (Itc lo c n) (rangeD lo n c) := by
  have hl : (rangeD lo n c).length = n := by simp [rangeD]
  refine ⟨fun _ => True, YFn fun i => .int (lo + (i : Nat) * c), by rw [hl]; exact walk_rangeC, fun _ _ _ => trivial, fun i v H' w3 hi ok e y => ?_⟩
  obtain ⟨rfl, rfl⟩ := y
  rw [hl] at hi
  refine ⟨w3, .int (lo + (i : Nat) * c), rfl, rfl, ok, .refl, ?_, rfl⟩
  unfold rangeD
  rw [List.getElem?_map, List.getElem?_range hi]; rfl
theorem bi_range {X : Cx} {ck : CK} (xg : XG X G pg ck) {x : Str} (h : isBi ck x = true) : Gl X x ∧ X.mg x = none ∧ okN x = true := by
  unfold isBi glB at h
  simp only [Bool.and_eq_true, beq_iff_eq] at h
  exact ⟨by unfold Gl Env.kindOf; rw [xg.sc]; exact h.1.1, xg.bi x h.2, h.1.2⟩
theorem pi_I {k : IK} {as : E} (sa : SA G pg b as) (se : EachE (SE G pg b) as) {X : Cx} {ck : CK} {W : WX} (xg : XG X G pg ck) (tk : TkB G X W) {tg e : Expr} (h : chkI ck k as tg e = true) : PI X tg e (tI G pg b (epn X ck) W X.H_0 k as) ∧ ∀ x, foldedSetIterable e X.env x = pure x := by
  have stars : ∀ {es : List Expr}, chkA ck as es = true → starEach es X.env = es.map fun e => (false, eval e X.env) := by
    intro es
    clear h sa se
    induction as generalizing es with
    | nil => intro h; cases es <;> first | rfl | cases h
    | cons a as _ ih =>
      intro h
      cases es with
      | nil => cases h
      | cons e es =>
        have h' := Bool.and_eq_true_iff.mp h
        rw [star_cons (Bool.and_eq_true_iff.mp h'.1).1, ih h'.2]; rfl
    | _ => intro h; cases es <;> cases h
  cases k <;> try (exact (Bool.false_ne_true h).elim)
  case seq =>
    dsimp only [chkI] at h
    split at h
    · rename_i a
      have h' := Bool.and_eq_true_iff.mp h
      refine ⟨(pi_list (se.1 X ck W xg tk e h'.2)).imp fun σ H R ⟨w, ρ, p, q⟩ => ?_, set_plain h'.1⟩
      refine tE.of p (post_one q) fun d w1 v p1 e1 k1 r1 => ?_
      obtain ⟨xs, lk, hev, k1⟩ := k1
      have hev' : (match look w1.st d with
        | some (.lst xs) => some (xs, lockOf w1.st d)
        | some (.scr ns) => some (ns.map .int, [])
        | _ => none) = some (xs, lk) := hev
      split at hev'
      · rename_i ys hl
        cases hev'
        obtain ⟨a, vs, rfl, st⟩ := lst_stays (b := b) p1.ok r1 hl
        have hk := lockOf_ok hl
        obtain ⟨e2, ok2⟩ := lockAll (b := b) _ w1 p1.ok hk
        obtain ⟨z, qr⟩ := st _ ok2 .refl
        rw [xg.K]
        refine ⟨a, rfl, ⟨vs, SqL.of z⟩, k1 _ ⟨w1.φ, lkSt w1.st _, w1.H, w1.ex⟩ (.lists p1.ok hk) (walkL qr.length fun w3 ok3 e3 => ?_)⟩
        obtain ⟨z3, q3⟩ := st w3 ok3 e3
        exact ⟨SqL.of z3, q3⟩
      · rename_i ns hl
        cases hev'
        obtain ⟨a, rfl, st⟩ := scr_stays (b := b) p1.ok r1 hl
        rw [xg.K]
        exact ⟨a, rfl, ⟨_, st _ .refl⟩, k1 _ _ (.lists (lk := []) p1.ok True.intro) (walkL (by simp) fun w3 ok3 e3 => ⟨st w3 e3, Reps.ofInts⟩)⟩
      · cases hev'
    · cases h
  case tupl =>
    dsimp only [chkI] at h
    split at h
    · rename_i a
      have h' := Bool.and_eq_true_iff.mp h
      refine ⟨(pi_tup (se.1 X ck W xg tk e h'.2)).imp fun σ H R ⟨w, ρ, p, q⟩ => ?_, set_plain h'.1⟩
      refine tE.of p (post_one q) fun d w1 v p1 e1 k1 r1 => ?_
      obtain ⟨xs, lk, hev, k1⟩ := k1
      have hev' : (match look w1.st d with
        | some (.tup xs) => some (xs, [])
        | _ => none) = some (xs, lk) := hev
      split at hev'
      · rename_i ys hl
        cases hev'
        have ed := look_tup p1.ok r1 hl
        subst ed
        obtain ⟨a, vs, rfl, z, qr⟩ := r1
        rw [xg.K]
        refine ⟨a, rfl, ⟨vs, z.sq⟩, k1 _ _ (.lists (lk := []) p1.ok True.intro) (walkT qr.length fun w3 ok3 e3 => ?_)⟩
        have e3' : Ext b w1 w3 := e3
        exact ⟨(z.ext e3').sq, Reps.ext e3' _ vs qr⟩
      · cases hev'
    · cases h
  case str =>
    dsimp only [chkI] at h
    split at h
    · rename_i a
      have h' := Bool.and_eq_true_iff.mp h
      refine ⟨(pi_str (se.1 X ck W xg tk e h'.2)).imp fun σ H R ⟨w, ρ, p, q⟩ => ?_, set_plain h'.1⟩
      refine tE.of p (post_one q) fun d w1 v p1 e1 k1 r1 => ?_
      obtain ⟨xs, lk, hev, k1⟩ := k1
      cases d <;> try (cases hev; done)
      cases hev
      cases r1
      exact ⟨_, rfl, k1 _ _ (.lists (lk := []) p1.ok True.intro) walkS⟩
    · cases h
  case rng1 =>
    dsimp only [chkI] at h
    split at h
    · simp only [Bool.and_eq_true, beq_iff_eq] at h
      obtain ⟨⟨rfl, h2⟩, h3⟩ := h
      obtain ⟨hg, hm, _⟩ := bi_range xg h2
      refine ⟨(pi_range1 hg hm (sa X ck W xg tk _ h3) (stars h3)).imp fun σ H R ⟨w, ρ, p, q⟩ => ?_, fun _ => rfl⟩
      refine tA.of p q fun ds w1 vs p1 e1 k1 r1 => ?_
      obtain ⟨xs, lk, hev, k1⟩ := k1
      dsimp only [evIt] at hev
      cases ho : one? ds with
      | none => rw [ho] at hev; cases hev
      | some d =>
        rw [ho] at hev
        obtain ⟨v, rfl, r⟩ := reps_one r1 ho
        cases d <;> try (cases hev; done)
        dsimp only [Option.bind_some] at hev
        split at hev
        · rename_i hs
          cases hev
          cases r
          exact ⟨_, rfl, (smallI_ok hs).1, (smallI_ok hs).2, k1 _ _ (.lists (lk := []) p1.ok True.intro) walkR⟩
        · cases hev
    · cases h
  case rng2 =>
    dsimp only [chkI] at h
    split at h
    · rename_i x xp y z pos
      simp only [Bool.and_eq_true, beq_iff_eq] at h
      obtain ⟨⟨rfl, h2⟩, h3⟩ := h
      obtain ⟨hg, hm, _⟩ := bi_range xg h2
      have hs1 := stars h3
      have hs2 : starEach [z] X.env = [(false, eval z X.env)] := by
        have := hs1
        cases as <;> try (exact (Bool.false_ne_true h3).elim)
        have h3' := Bool.and_eq_true_iff.mp h3
        rw [star_cons (Bool.and_eq_true_iff.mp h3'.1).1] at this
        exact (List.cons.inj this).2
      refine ⟨(pi_range2 hg hm (sa X ck W xg tk _ h3) hs1 hs2).imp fun σ H R ⟨w, ρ, p, q⟩ => ?_, fun _ => rfl⟩
      refine tA.of p q fun ds w1 vs p1 e1 k1 r1 => ?_
      obtain ⟨xs, lk, hev, k1⟩ := k1
      dsimp only [evIt] at hev
      cases ho : two? ds with
      | none => rw [ho] at hev; cases hev
      | some d =>
        rw [ho] at hev
        obtain ⟨v, u, rfl, r, r'⟩ := reps_two r1 ho
        dsimp only [Option.bind_some] at hev
        split at hev
        · split at hev
          · rename_i hs
            cases hev
            cases r; cases r'
            exact ⟨_, _, rfl, ⟨(smallI_ok hs.1).1, (smallI_ok hs.1).2, (smallI_ok hs.2).1, (smallI_ok hs.2).2⟩, k1 _ _ (.lists (lk := []) p1.ok True.intro) walkR⟩
          · cases hev
        · cases hev
    · cases h
  case rng3 =>
    dsimp only [chkI] at h
    split at h
    · rename_i x xp y z u pos
      simp only [Bool.and_eq_true, beq_iff_eq] at h
      obtain ⟨⟨rfl, h2⟩, h3⟩ := h
      obtain ⟨hg, hm, _⟩ := bi_range xg h2
      obtain ⟨hs, hp⟩ := chkA_cons (env := X.env) h3
      refine ⟨(pi_range3 hg hm (sa X ck W xg tk _ h3) hs (hp pos)).imp fun σ H R ⟨w, ρ, p, q⟩ => ?_, fun _ => rfl⟩
      refine tA.of p q fun ds w1 vs p1 e1 k1 r1 => ?_
      obtain ⟨xs, lk, hev, k1⟩ := k1
      dsimp only [evIt] at hev
      cases ho : three? ds with
      | none => rw [ho] at hev; cases hev
      | some d =>
        rw [ho] at hev
        obtain ⟨v, u, t, rfl, q1, q2, q3⟩ := reps_three r1 ho
        obtain ⟨d1, d2, d3⟩ := d
        dsimp only [Option.bind_some] at hev
        split at hev
        · rename_i i j c hd
          cases hd
          cases q1; cases q2; cases q3
          split at hev
          · rename_i hok
            cases hev
            obtain ⟨c1, c2, c3, c4⟩ := rng3_ok hok
            exact ⟨i, j, c, _, rfl, ⟨c1, c2, c3, by omega⟩, k1 _ _ (.lists (lk := []) p1.ok True.intro) walkRC⟩
          · cases hev
        · cases hev
    · cases h
  case enum =>
    dsimp only [chkI] at h
    split at h
    · simp only [Bool.and_eq_true, beq_iff_eq] at h
      obtain ⟨⟨rfl, h2⟩, h3⟩ := h
      obtain ⟨hg, hm, _⟩ := bi_range xg h2
      refine ⟨(pi_enum hg hm (sa X ck W xg tk _ h3) (stars h3)).imp fun σ H R ⟨w, ρ, p, q⟩ => ?_, fun _ => rfl⟩
      refine tA.of p q fun ds w1 vs p1 e1 k1 r1 => ?_
      obtain ⟨xs, lk, hev, k1⟩ := k1
      dsimp only [evIt] at hev
      cases ho : one? ds with
      | none => rw [ho] at hev; cases hev
      | some d =>
        rw [ho] at hev
        obtain ⟨v, rfl, r⟩ := reps_one r1 ho
        dsimp only [Option.bind_some] at hev
        split at hev
        · rename_i ys hl
          cases hev
          obtain ⟨a, us, rfl, st⟩ := lst_stays (b := b) p1.ok r hl
          have hk := lockOf_ok hl
          obtain ⟨e2, ok2⟩ := lockAll (b := b) _ w1 p1.ok hk
          obtain ⟨z, qr⟩ := st _ ok2 .refl
          rw [xg.K]
          refine ⟨a, us, rfl, SqL.of z, k1 _ ⟨w1.φ, lkSt w1.st _, w1.H, w1.ex⟩ (.lists p1.ok hk) (walkP (by rw [enumD_length, qr.length]; exact walk_enum) (fun w3 ok3 e3 => SqL.of (st w3 ok3 e3).1) fun i x y w3 hi ok3 e3 h1 h2 => ?_)⟩
          cases h1
          have hi' : i < ys.length := by rw [enumD_length] at hi; exact hi
          obtain ⟨d', hd⟩ : ∃ d', ys[i]? = some d' := ⟨_, List.getElem?_eq_getElem hi'⟩
          obtain ⟨u, hu, ru⟩ := (st w3 ok3 e3).2.get hd
          rw [h2] at hu; cases hu
          refine ⟨.int ((0 + i : Nat) : Int), d', enumD_get ys 0 i d' hd, ?_, ru⟩
          rw [Nat.zero_add]; rfl
        · rename_i ns hl
          cases hev
          obtain ⟨a, rfl, st⟩ := scr_stays (b := b) p1.ok r hl
          rw [xg.K]
          refine ⟨a, _, rfl, st _ .refl, k1 _ _ (.lists (lk := []) p1.ok True.intro) (walkP (by rw [enumD_length, List.length_map, ← List.length_map (f := V.int)]; exact walk_enum) (fun w3 ok3 e3 => st w3 e3) fun i x y w3 hi ok3 e3 h1 h2 => ?_)⟩
          cases h1
          have hi' : i < ns.length := by rw [enumD_length, List.length_map] at hi; exact hi
          have hd : (ns.map D.int)[i]? = some (.int ns[i]) := by simp [hi']
          have hv : (ns.map V.int)[i]? = some (.int ns[i]) := by simp [hi']
          rw [hv] at h2; cases h2
          refine ⟨.int ((0 + i : Nat) : Int), _, enumD_get _ 0 i _ hd, ?_, rfl⟩
          rw [Nat.zero_add]; rfl
        · cases hev
    · cases h
  case zip =>
    dsimp only [chkI] at h
    split at h
    · rename_i x xp y z pos
      simp only [Bool.and_eq_true, beq_iff_eq] at h
      obtain ⟨⟨rfl, h2⟩, h3⟩ := h
      obtain ⟨hg, hm, _⟩ := bi_range xg h2
      have hs1 := stars h3
      have hs2 : starEach [z] X.env = [(false, eval z X.env)] := by
        have := hs1
        cases as <;> try (exact (Bool.false_ne_true h3).elim)
        have h3' := Bool.and_eq_true_iff.mp h3
        rw [star_cons (Bool.and_eq_true_iff.mp h3'.1).1] at this
        exact (List.cons.inj this).2
      refine ⟨(pi_zip hg hm (sa X ck W xg tk _ h3) (by rw [hs1, hs2]; rfl) (by rw [hs2]; rfl)).imp fun σ H R ⟨w, ρ, p, q⟩ => ?_, fun _ => rfl⟩
      refine tA.of p q fun ds w1 vs p1 e1 k1 r1 => ?_
      obtain ⟨xs, lk, hev, k1⟩ := k1
      dsimp only [evIt] at hev
      cases ho : two? ds with
      | none => rw [ho] at hev; cases hev
      | some d =>
        rw [ho] at hev
        obtain ⟨v, u, rfl, r, r'⟩ := reps_two r1 ho
        dsimp only [Option.bind_some] at hev
        split at hev
        · rename_i ys zs hl hl'
          cases hev
          obtain ⟨a, us, rfl, st⟩ := lst_stays (b := b) p1.ok r hl
          have hk := lockOf_ok hl
          obtain ⟨e2, ok2⟩ := lockAll (b := b) _ w1 p1.ok hk
          -- the second one, behind the first one's lock
          have hl2 : look (lkSt w1.st (lockOf w1.st d.1)) d.2 = some (.lst zs) := look_locked _ _ _ hk hl'
          obtain ⟨a', us', rfl, st'⟩ := lst_stays (b := b) ok2 (Rep.ext e2 _ _ r') hl2
          have hk2 := lockOf_ok hl2
          obtain ⟨e3, ok3⟩ := lockAll (b := b) _ _ ok2 hk2
          have hk12 : lkOk w1.st (lockOf w1.st d.1 ++ lockOf (lkSt w1.st (lockOf w1.st d.1)) d.2) := lkOk_append hk hk2
          have est : lkSt w1.st (lockOf w1.st d.1 ++ lockOf (lkSt w1.st (lockOf w1.st d.1)) d.2) = lkSt (lkSt w1.st (lockOf w1.st d.1)) (lockOf (lkSt w1.st (lockOf w1.st d.1)) d.2) := lkSt_append _ _ _
          have both : ∀ w3, Ok G w3 → Ext b ⟨w1.φ, lkSt (lkSt w1.st (lockOf w1.st d.1)) (lockOf (lkSt w1.st (lockOf w1.st d.1)) d.2), w1.H, w1.ex⟩ w3 → (w3.H a = some (.lst us) ∧ Reps G w3 ys us) ∧ (w3.H a' = some (.lst us') ∧ Reps G w3 zs us') := fun w3 o3 x3 => ⟨st w3 o3 (e3.trans x3), st' w3 o3 x3⟩
          obtain ⟨⟨z1, q1⟩, ⟨z2, q2⟩⟩ := both _ ok3 .refl
          rw [xg.K]
          refine ⟨a, a', us, us', rfl, SqL.of z1, SqL.of z2, k1 _ ⟨w1.φ, lkSt w1.st _, w1.H, w1.ex⟩ (.lists p1.ok hk12) ?_⟩
          rw [est]
          refine walkP (Gd := fun H => SqL G.K H a us ∧ SqL G.K H a' us') (by rw [zipD_length, q1.length, q2.length]; exact walk_zip rfl) (fun w3 o3 x3 => ⟨SqL.of (both w3 o3 x3).1.1, SqL.of (both w3 o3 x3).2.1⟩) fun i x y w3 hi o3 x3 g1 g2 => ?_
          rw [zipD_length] at hi
          have h1 : ys[i]? = some (ys[i]'(by omega)) := List.getElem?_eq_getElem (by omega)
          have h2 : zs[i]? = some (zs[i]'(by omega)) := List.getElem?_eq_getElem (by omega)
          obtain ⟨u1, f1, s1⟩ := (both w3 o3 x3).1.2.get h1
          obtain ⟨u2, f2, s2⟩ := (both w3 o3 x3).2.2.get h2
          rw [g1] at f1; cases f1
          rw [g2] at f2; cases f2
          exact ⟨_, _, zipD_get ys zs i _ _ h1 h2, s1, s2⟩
        · cases hev
    · cases h
  case rev =>
    dsimp only [chkI] at h
    split at h
    · simp only [Bool.and_eq_true, beq_iff_eq] at h
      obtain ⟨⟨rfl, h2⟩, h3⟩ := h
      obtain ⟨hg, hm, _⟩ := bi_range xg h2
      refine ⟨(pi_reversed hg hm (sa X ck W xg tk _ h3) (stars h3)).imp fun σ H R ⟨w, ρ, p, q⟩ => ?_, fun _ => rfl⟩
      refine tA.of p q fun ds w1 vs p1 e1 k1 r1 => ?_
      obtain ⟨xs, lk, hev, k1⟩ := k1
      dsimp only [evIt] at hev
      cases ho : one? ds with
      | none => rw [ho] at hev; cases hev
      | some d =>
        rw [ho] at hev
        obtain ⟨v, rfl, r⟩ := reps_one r1 ho
        dsimp only [Option.bind_some] at hev
        split at hev
        · rename_i ys hl
          cases hev
          obtain ⟨a, us, rfl, st⟩ := lst_stays (b := b) p1.ok r hl
          have hk := lockOf_ok hl
          obtain ⟨e2, ok2⟩ := lockAll (b := b) _ w1 p1.ok hk
          obtain ⟨z, qr⟩ := st _ ok2 .refl
          rw [xg.K]
          refine ⟨a, us, rfl, SqL.of z, k1 _ ⟨w1.φ, lkSt w1.st _, w1.H, w1.ex⟩ (.lists p1.ok hk) ⟨_, _, by rw [List.length_reverse, qr.length]; exact walk_rev, fun w3 ok3 e3 => SqL.of (st w3 ok3 e3).1, fun i v H' w3 hi ok3 e3 y => ?_⟩⟩
          obtain ⟨rfl, y⟩ := y
          rw [List.length_reverse] at hi
          have hd : ys.reverse[i]? = some (ys[ys.length - 1 - i]'(by omega)) := by
            rw [List.getElem?_reverse hi]
            exact List.getElem?_eq_getElem (by omega)
          have hd' : ys[ys.length - 1 - i]? = some (ys[ys.length - 1 - i]'(by omega)) := List.getElem?_eq_getElem (by omega)
          obtain ⟨u, hu, ru⟩ := (st w3 ok3 e3).2.get hd'
          rw [qr.length] at hu
          rw [y] at hu; cases hu
          exact ⟨w3, _, rfl, rfl, ok3, .refl, hd, ru⟩
        · cases hev
    · cases h
  case keys =>
    dsimp only [chkI] at h
    split at h
    · rename_i a
      have h' := Bool.and_eq_true_iff.mp h
      refine ⟨(pi_keysF (se.1 X ck W xg tk e h'.2)).imp fun σ H R ⟨w, ρ, p, q⟩ => ?_, set_plain h'.1⟩
      rw [show (kxX X).hs = G.hs from xg.hs]
      refine tE.of p (post_one q) fun d w1 v p1 e1 k1 r1 => ?_
      obtain ⟨xs, lk, hev, k1⟩ := k1
      have hev' : (match (look w1.st d).bind keysD with
        | some xs => some (xs, lockOf w1.st d)
        | none => none) = some (xs, lk) := hev
      split at hev'
      · rename_i ys hl
        cases hev'
        cases hc : look w1.st d with
        | none => rw [hc] at hl; cases hl
        | some c =>
          rw [hc] at hl
          have hl : keysD c = some xs := hl
          have hd : (∃ kvs, c = .dK kvs) ∨ ∃ kvs, c = .dT kvs := by
            cases c <;> try (cases hl; done)
            · exact .inl ⟨_, rfl⟩
            · exact .inr ⟨_, rfl⟩
          obtain ⟨a, rfl, z | z⟩ := dic_frz (b := b) (H0 := X.H_0) p1.ok r1 hc hd
          · obtain ⟨kvs, us, rfl, hr, z⟩ := z
            cases hl
            rw [p1.H] at hr z
            refine ⟨a, rfl, .inl ⟨us, hr, fun od H2 f => ?_⟩⟩
            obtain ⟨w2, rfl, L, st⟩ := z od H2 f
            exact k1 _ w2 L (walkK st)
          · obtain ⟨kvs, us, rfl, hr, z⟩ := z
            cases hl
            rw [p1.H] at hr z
            refine ⟨a, rfl, .inr ⟨us, hr, fun od H2 f => ?_⟩⟩
            obtain ⟨w2, rfl, L, st⟩ := z od H2 f
            exact k1 _ w2 L (walkKT st)
      · cases hev'
    · cases h
  case items =>
    dsimp only [chkI] at h
    split at h
    · rename_i a
      split at h
      · rename_i x n ap pos
        simp only [Bool.and_eq_true, beq_iff_eq] at h
        obtain ⟨⟨⟨rfl, h2⟩, h3⟩, h4⟩ := h
        refine ⟨(pi_itemsF (se.1 X ck W xg tk x h4) (attr_plain h2) (beq_iff_eq.mpr h3)).imp fun σ H R ⟨w, ρ, p, q⟩ => ?_, fun _ => rfl⟩
        rw [show (kxX X).hs = G.hs from xg.hs]
        refine tE.of p (post_one q) fun d w1 v p1 e1 k1 r1 => ?_
        obtain ⟨xs, lk, hev, k1⟩ := k1
        have hev' : (match (look w1.st d).bind itemsD with
          | some xs => some (xs, lockOf w1.st d)
          | none => none) = some (xs, lk) := hev
        split at hev'
        · rename_i ys hl
          cases hev'
          cases hc : look w1.st d with
          | none => rw [hc] at hl; cases hl
          | some c =>
            rw [hc] at hl
            have hl : itemsD c = some xs := hl
            have hd : (∃ kvs, c = .dK kvs) ∨ ∃ kvs, c = .dT kvs := by
              cases c <;> try (cases hl; done)
              · exact .inl ⟨_, rfl⟩
              · exact .inr ⟨_, rfl⟩
            obtain ⟨a, rfl, z | z⟩ := dic_frz (b := b) (H0 := X.H_0) p1.ok r1 hc hd
            · obtain ⟨kvs, us, rfl, hr, z⟩ := z
              cases hl
              rw [p1.H] at hr z
              refine ⟨a, rfl, .inl ⟨us, hr, fun od H2 f => ?_⟩⟩
              obtain ⟨w2, rfl, L, st⟩ := z od H2 f
              exact k1 _ w2 L (walkIK st)
            · obtain ⟨kvs, us, rfl, hr, z⟩ := z
              cases hl
              rw [p1.H] at hr z
              refine ⟨a, rfl, .inr ⟨us, hr, fun od H2 f => ?_⟩⟩
              obtain ⟨w2, rfl, L, st⟩ := z od H2 f
              exact k1 _ w2 L (walkIT st)
        · cases hev'
      · cases h
    · cases h
end
end Den
set_option maxHeartbeats 4000000
/-! DMax: max and min with default=. -/
namespace Den
open PySem L2 PySem.Spec PyProof.Rows

theorem maxL_fold : ∀ (r : List Int) (n : Int), r.foldl max n = maxL n r
  | [], _ => rfl
  | x :: r, n => by
    show r.foldl max (max n x) = maxL (if x > n then x else n) r
    rw [maxL_fold r]
    congr 1
    rw [Int.max_def]
    split <;> split <;> omega
theorem minL_fold : ∀ (r : List Int) (n : Int), r.foldl min n = minL n r
  | [], _ => rfl
  | x :: r, n => by
    show r.foldl min (min n x) = minL (if x < n then x else n) r
    rw [minL_fold r]
    congr 1
    rw [Int.min_def]
    split <;> split <;> omega
theorem alike_ints (ns : List Int) : PySem.W.AlikeAll (ns.map PyData.int) := by
  refine ⟨fun x hx y hy => ?_, fun x hx => ?_⟩
  · obtain ⟨a, _, rfl⟩ := List.mem_map.mp hx
    obtain ⟨c, _, rfl⟩ := List.mem_map.mp hy
    rfl
  · obtain ⟨a, _, rfl⟩ := List.mem_map.mp hx
    exact fun z => nomatch z
theorem depth_ints : ∀ (ns : List Int), PyData.depthAll (ns.map PyData.int) ≤ 1
  | [] => by decide
  | n :: r => by
    show max (PyData.depth (.int n)) (PyData.depthAll (r.map .int)) ≤ 1
    exact Nat.max_le.mpr ⟨by show 0 ≤ 1; omega, depth_ints r⟩
def rMxd (K : PySem.W.Frag) (mx : Bool) : List V → List V → Hp → VK → Prop := fun vs zs H Q => ∃ (a : Addr) (ns : List Int) (d : V), vs = [.ref a] ∧ zs = [d] ∧ SqL K H a (ns.map V.int) ∧ (ns = [] → Q d H) ∧ ∀ n r, ns = n :: r → Q (.int (if mx then maxL n r else minL n r)) H
theorem dp_ints {K : PySem.W.Frag} {H : Hp} : ∀ ns : List Int, DpAll K H (ns.map V.int) (ns.map .int)
  | [] => .nil
  | n :: r => .cons (.int n) (dp_ints r)
theorem cr_mxd {X : Cx} (hc : X.calm = true) (hu : X.A.units + 65 < cLine) (mx : Bool) : CallRK X (.builtin (if mx then "max" else "min")) [Str.ofString "default"] (rMxd X.K mx) := by
  intro pins s σ H vs zs us ws Q I r1 r2 h
  obtain ⟨a, ns, d, rfl, rfl, hs, q0, q1⟩ := h
  obtain ⟨its, rv, hl, _⟩ := I.list hs
  rw [Vals.ref1 r1]
  obtain ⟨u, rfl, ru⟩ := r2.one
  have dpa : DpAll X.K H (ns.map V.int) (ns.map .int) := dp_ints ns
  obtain ⟨as, hr⟩ := Dp.readsAll I _ _ its dpa rv
  have hh := I.ok.hd hc
  have hd : X.A.units + 1 + PyData.depthAll (ns.map PyData.int) < cLine := by have := depth_ints ns; omega
  have key : ∀ (v : Value) (h' : Heap) (tk : Tok) (n : Int) (r : List Int) (bs : List Addr), ns = n :: r → Reads h' v (.int (if mx then maxL n r else minL n r)) bs → (∀ b o, s.heap.get? b = some o → h'.get? b = some o) → EP X pins σ Q v { s with heap := h', toks := tk } := fun v h' tk n r bs e hv hk => by
    have hv' : ∃ t, v = .int (if mx then maxL n r else minL n r) t := by
      generalize (if mx then maxL n r else minL n r) = m at hv
      cases hv
      exact ⟨_, rfl⟩
    obtain ⟨t, rfl⟩ := hv'
    exact ⟨.int _, H, I.kept hk, ⟨_, rfl⟩, q1 n r e⟩
  have nil_ : ns.map PyData.int = [] → ns = [] := fun e => List.map_eq_nil_iff.mp e
  cases mx with
  | true =>
    refine PySem.W.max_list_default (xs := ns.map .int) hh hl.isList hr (alike_ints ns) hd (fun e h' tk hk => ⟨d, H, I.kept hk, ru, q0 (nil_ e)⟩) fun y ys i v h' tk bs e _ hv hk => ?_
    cases ns with
    | nil => cases e
    | cons n r =>
      cases e
      rw [PySem.W.maxD_ints, maxL_fold] at hv
      exact key v h' tk n r bs rfl hv hk
  | false =>
    refine PySem.W.min_list_default (xs := ns.map .int) hh hl.isList hr (alike_ints ns) hd (fun e h' tk hk => ⟨d, H, I.kept hk, ru, q0 (nil_ e)⟩) fun y ys i v h' tk bs e _ hv hk => ?_
    cases ns with
    | nil => cases e
    | cons n r =>
      cases e
      rw [PySem.W.minD_ints, minL_fold] at hv
      exact key v h' tk n r bs rfl hv hk
section
variable {G : Gm} {pg : Pg} {b : Nat}
theorem s_mxd {mx : Bool} {a d : E} (sa : SE G pg b a) (sd : SE G pg b d) : SE G pg b (.mxd mx a d) := fun X ck W xg tk e h => by
  cases e <;> try (exact (Bool.false_ne_true h).elim)
  rename_i g es ks pos
  cases g <;> try (exact (Bool.false_ne_true h).elim)
  rename_i x xp
  cases es with
  | nil => exact (Bool.false_ne_true h).elim
  | cons e1 es =>
    cases es with
    | cons _ _ => exact (Bool.false_ne_true h).elim
    | nil =>
      cases ks with
      | nil => exact (Bool.false_ne_true h).elim
      | cons k1 ks =>
        obtain ⟨ka, kv, kp⟩ := k1
        cases ka with
        | none => exact (Bool.false_ne_true (by cases ks <;> exact h)).elim
        | some k =>
          cases ks with
          | cons _ _ => exact (Bool.false_ne_true h).elim
          | nil =>
            simp only [chkE, Bool.and_eq_true, beq_iff_eq, Bool.not_eq_true'] at h
            obtain ⟨⟨⟨⟨⟨⟨h1, h2⟩, h3⟩, h4⟩, h5⟩, h6⟩, h7⟩ := h
            subst h5
            obtain ⟨hg, hm, ho⟩ := bi_range xg h3
            have hst := star_cons (e := e1) (es := []) (env := X.env) h4
            refine (pe_callBK (cr_mxd (xg.calm h1) xg.hu mx) hg hm (by subst h2; cases mx <;> decide +kernel) (pa_cons (sa X ck W xg tk e1 h6) pa_nil hst) (pk_cons (sd X ck W xg tk kv h7) pk_nil) (okN_n ho) (okN_d ho) (by rw [hst]; rfl) (by rw [hst]; rfl)).imp fun σ H Q ⟨w, ρ, p, q⟩ => ?_
            refine tE.of p q.bind fun d1 w1 v1 p1 e1 k1 r1 => tE.of p1 k1.bind fun d2 w2 v2 p2 e2 k2 r2 => ?_
            unfold mxD at k2
            cases hl : (itemsL w2.st d1).bind allInts with
            | none => rw [hl] at k2; exact k2.elim
            | some ns =>
              rw [hl] at k2
              obtain ⟨ad, rfl, hS⟩ := ints_seq p2.ok (Rep.ext e2 _ _ r1) hl
              refine ⟨ad, ns, v2, rfl, rfl, by rw [xg.K]; exact hS, fun e => ?_, fun n r e => ?_⟩
              · subst e; exact k2.here p2.ok _ r2
              · subst e; exact k2.here p2.ok (.int _) rfl
end
end Den
set_option maxHeartbeats 2000000
/-! DIdx: l.index(x) that may raise ValueError: of names (tuples of two numbers). -/
namespace Den
open PySem L2 PySem.Spec PyProof.Rows

theorem pyReprObj_tupW {prog : Program} {w : World} {A : Around} {E : Value → Shared → Prop} {s : Shared} {a : Addr} {o : Obj} {items : Array Value} {n : Nat} {ts : List Str} {Q : Value → Shared → Prop} (hTy : s.TypeIs (.ref a) "tuple") (hu : A.units < cLine)
    (ha : s.heap.get? a = some o) (hc : o.cls = .type "tuple") (hd : o.data = .seq items n) (hT : ReprAll prog w items.toList ts) (hsz : (tupleText ts).length ≤ sizeLine)
    (hQ : ∀ (m : Str) (u tk : Tok), m.length ≤ (tupleText ts).length + 5 → Q (.str m u) { s with toks := tk }) :
    wpAny (model prog w) A (pyReprObj (.ref a)) Q E s := by
  unfold pyReprObj
  refine wpAny_bind (wpAny_cRoomFor hu ?_)
  refine wpAny_bind (wpAny_specialOf (name := Str.ofString "__repr__") hTy F.slot_tuple_repr.lookup ?_)
  refine wpAny_bind (m := callSpecialIfBound? (.ref a) (Str.ofString "__repr__")) (wpAny_callSpecialIfBound?_slotG (name := Str.ofString "__repr__") hTy F.slot_tuple_repr
    (fmt_tuple_repr ha hc hd hT hsz fun m u tk hm => ?_))
  exact wpAny_bind (wpAny_isInstance (T := "str") (b := true) rfl isSubtype_str_str (wpAny_pure (hQ m u tk hm)))
theorem reprAt_name {A : Around} {s : Shared} {v : Value} {d : PyData} {as : List Addr} (r : Reads s.heap v d as) (h : idxOk d = true) (hu : A.units < cLine) : SeqAt.ReprAt A s v := fun prog w E Q hq => by
  unfold idxOk at h
  split at h <;> try (cases h; done)
  rename_i i j
  simp only [Bool.and_eq_true, decide_eq_true_eq] at h
  obtain ⟨h1, h2⟩ := h
  cases r with
  | @tuple a o vs n _ _ g1 g2 g3 g4 =>
    have hT : ReprAll prog w vs.toList [Str.ofString (toString i), Str.ofString (toString j)] := by
      generalize vs.toList = l at g4
      cases g4 with
      | cons q1 q2 =>
        cases q1
        cases q2 with
        | cons q3 q4 =>
          cases q3
          cases q4
          exact .cons (ReprIs.int _ h1) (.cons (ReprIs.int _ h2) .nil)
    have ls : (tupleText [Str.ofString (toString i), Str.ofString (toString j)]).length ≤ 3900 := by
      have := tupleText_len_le [Str.ofString (toString i), Str.ofString (toString j)]
      simp only [List.map_cons, List.map_nil, List.sum_cons, List.sum_nil, List.length_cons, List.length_nil] at this
      have e1 := int_text_len_1921 h1
      have e2 := int_text_len_1921 h2
      omega
    have hsz := sizeLine_eq
    unfold pyRepr
    refine wpAny_bind (pyReprObj_tupW ⟨o, g1, g2⟩ hu g1 g2 g3 hT (by omega) fun m u tk hm => ?_)
    exact wpAny_pure (hq m _ tk (by omega) fun _ _ e => e)
section
variable {X : Cx} {W : WX}
def rIdxX (K : PySem.W.Frag) (W : WX) : L2.St → V → List V → Hp → VK → Prop := fun σ x xs H Q => ∃ (a : Addr) (y : V) (d : PyData) (ds : List PyData), x = V.ref a ∧ xs = [y] ∧ Dp K H (V.ref a) (.list ds) ∧ Dp K H y d ∧
  SeqAt.shaped (.list ds) = true ∧ SeqAt.shaped d = true ∧ ((∃ (j : Nat) (z : PyData), ds[j]? = some z ∧ PyData.eqv z d = true ∧ (∀ (m : Nat) (z' : PyData), m < j → ds[m]? = some z' → PyData.eqv z' d = false) ∧ Q (.int (j : Nat)) H) ∨
    ((∀ (m : Nat) (z' : PyData), ds[m]? = some z' → PyData.eqv z' d = false) ∧ idxOk d = true ∧ ∀ dx, W (.type "ValueError") dx σ H))
theorem mt_idxX (hc : X.calm = true) (tk : L2N.Takes X W) (hu : X.A.units + 65 < cLine) : MtS X "list.index" (rIdxX X.K W) := by
  intro pins s σ H x xs v us Q I rx rxs h
  obtain ⟨a, y, d, ds, rfl, rfl, hl, hy, sl, sd, h⟩ := h
  rcases h with ⟨j, z, hz, hzj, hno, q⟩ | ⟨hno, hok, hw⟩
  · exact mt_indexD hu pins s σ H _ _ v us Q I rx rxs ⟨a, y, d, ds, j, z, rfl, rfl, hl, hy, sl, sd, hz, hzj, hno, q⟩
  cases rx
  cases rxs with
  | cons ry rt =>
    rename_i uy ut
    cases rt
    obtain ⟨bs, r1⟩ := Dp.reads I d y uy hy ry
    have hxs : PyData.canLayAll0 ds = true := SeqAt.canLay_of_shaped sl
    have hroom : X.A.units + 1 + min (PyData.depthAll ds) d.depth < cLine := room_in_shaped sd hu
    cases hl with
    | lst hs ha =>
      obtain ⟨its, rv, ⟨⟨cls, dd, data, sls⟩, n, ho, hc', hdn, hdt⟩, hlen⟩ := I.list hs
      simp only at hc' hdt
      subst hc' hdt
      obtain ⟨as, h4⟩ := Dp.readsAll I ds _ its ha rv
      have hmap : its.map (SeqAt.readOf s.heap) = ds := SeqAt.readsAll_map ds its as hxs h4
      have at_ : ∀ (m : Nat) (hm : m < its.toArray.size) (z' : PyData), ds[m]? = some z' → SeqAt.readOf s.heap its.toArray[m] = z' := by
        intro m hm z' hz'
        have hml : m < its.length := by simpa using hm
        rw [← hmap, List.getElem?_map, List.getElem?_eq_getElem hml] at hz'
        have e1 : SeqAt.readOf s.heap its[m] = z' := Option.some.inj (show some (SeqAt.readOf s.heap its[m]) = some z' from hz')
        simpa using e1
      have eqs := SeqAt.items_eqAt (A := X.A) (s := s) (vs := its.toArray) (show ReadsAll s.heap its.toArray.toList ds as from h4) r1 hxs (SeqAt.canLay_of_shaped sd) hroom
      refine call_meets PySem.F.slot_list_index ⟨_, ho, rfl⟩ PySem.F.entry_list_index (PySem.F.args_list_index_2 _ _)
        (SeqAt.list_index2_absent a its.toArray n dd sls uy (fun m => (its.toArray[m]?).elim false fun u => PyData.eqv (SeqAt.readOf s.heap u) d) fun m hm _ _ => ?_) ⟨ho, fun m hm => ?_, reprAt_name r1 hok (by show X.A.units + 1 < cLine; omega), I.ok.hd hc, fun h' t' e hx => L2N.takes_newN tk I hx hw⟩
      · show (its.toArray[m]?).elim false _ = false
        rw [Array.getElem?_eq_getElem hm]
        have hmd : m < ds.length := by rw [← hmap, List.length_map]; simpa using hm
        show PyData.eqv (SeqAt.readOf s.heap its.toArray[m]) d = false
        have hz' : ds[m]? = some ds[m] := List.getElem?_eq_getElem hmd
        rw [at_ m hm _ hz']
        exact hno m _ hz'
      · rw [Array.getElem?_eq_getElem hm]
        exact eqs _ (Array.getElem_mem hm)
end
section
variable {G : Gm} {pg : Pg} {b : Nat} {w : Wd}
theorem plF_ok (ok : Ok G w) {c x : D} {v u : V} {o : Option Nat} (a : At G w c v) (r : Rep G w x u) (h : plF w.st c x = some o) : ∃ p vs d ds, v = .ref p ∧ SqL G.K w.H p vs ∧ DpAll G.K w.H vs ds ∧ Dp G.K w.H u d ∧ SeqAt.shaped (.list ds) = true ∧ SeqAt.shaped d = true ∧
    SeqAt.dataPlace ds d = o ∧ (o = none → idxOk d = true) := by
  unfold plF at h
  split at h
  · rename_i ps p e1 e2
    split at h
    · rename_i hs
      have hs' := Bool.and_eq_true_iff.mp hs
      have dx := toPS_dp ok r e2
      have dc : Dp G.K w.H v (.list ps) := dp_of (.inl a) e1
      cases dc with
      | lst z q =>
        refine ⟨_, _, p, ps, rfl, z, q, dx, hs'.2, hs'.1, ?_, ?_⟩
        · unfold SeqAt.dataPlace
          split at h
          · rename_i j hj; cases h; exact hj
          · rename_i hj
            split at h <;> cases h
            exact hj
        · intro e
          subst e
          split at h
          · cases h
          · split at h
            · assumption
            · cases h
    · cases h
  · cases h
theorem s_idxx {a d : E} (sa : SE G pg b a) (sd : SE G pg b d) : SE G pg b (.idxx a d) := fun X ck W xg tk e h => by
  cases e <;> try (exact (Bool.false_ne_true h).elim)
  rename_i g es ks pos
  cases g <;> try (exact (Bool.false_ne_true h).elim)
  rename_i o n ap
  cases es with
  | nil => exact (Bool.false_ne_true h).elim
  | cons e1 es =>
    cases es with
    | cons _ _ => exact (Bool.false_ne_true h).elim
    | nil =>
      cases ks with
      | cons _ _ => exact (Bool.false_ne_true h).elim
      | nil =>
        simp only [chkE, Bool.and_eq_true, beq_iff_eq, Bool.not_eq_true'] at h
        obtain ⟨⟨⟨⟨⟨⟨h1, rfl⟩, h3⟩, h4⟩, h5⟩, h6⟩, h7⟩ := h
        have hst := star_cons (e := e1) (es := []) (env := X.env) h4
        have hu := xg.hu
        refine (pe_bmS (r := rIdxX X.K W) PySem.F.plainAttrs_list PySem.F.slot_list_index PySem.F.type_list_index (mt_idxX (xg.calm h1) tk.n hu) (sa X ck W xg tk o h6) (pa_cons (sd X ck W xg tk e1 h7) pa_nil hst) (attr_plain h3) (by rw [hst]; rfl) (beq_iff_eq.mpr h5) hst (by rfl)).imp fun σ H Q ⟨w, ρ, p, q⟩ => ?_
        refine tE.of p q.bind fun d1 w1 v1 p1 e1 k1 r1 => ?_
        split at k1
        · rename_i hb
          refine ⟨by rw [xg.K]; exact lst_ty0 rfl rfl rfl w1 d1 v1 p1.ok r1 hb, tE.of p1 k1.bind fun d2 w2 v2 p2 e2 k2 r2 => ?_⟩
          unfold idxxD at k2
          have r1' := Rep.ext e2 _ _ r1
          split at k2
          · rename_i j hj
            obtain ⟨c, g1, g2⟩ := Option.bind_eq_some_iff.mp hj
            obtain ⟨p', ws, d, es, rfl, z, q, dx, s1, s2, hp, _⟩ := plF_ok p2.ok (At.of p2.ok r1' g1) r2 g2
            have hp' := List.findIdx?_eq_some_iff_getElem.mp hp
            obtain ⟨hjl, h5, h6⟩ := hp'
            refine ⟨p', v2, d, es, rfl, rfl, by rw [xg.K]; exact .lst z q, by rw [xg.K]; exact dx, s1, s2, .inl ⟨j, es[j], List.getElem?_eq_getElem hjl, h5, fun m z' hm hz => ?_, k2.here p2.ok _ rfl⟩⟩
            have := h6 m hm
            rw [List.getElem?_eq_getElem (by omega)] at hz
            cases hz
            simpa using this
          · rename_i hj
            obtain ⟨c, g1, g2⟩ := Option.bind_eq_some_iff.mp hj
            obtain ⟨p', ws, d, es, rfl, z, q, dx, s1, s2, hp, hok⟩ := plF_ok p2.ok (At.of p2.ok r1' g1) r2 g2
            split at k2
            · rename_i k hk
              refine ⟨p', v2, d, es, rfl, rfl, by rw [xg.K]; exact .lst z q, by rw [xg.K]; exact dx, s1, s2, .inr ⟨fun m z' hz => ?_, hok rfl, fun dx' => ?_⟩⟩
              · have := List.findIdx?_eq_none_iff.mp hp z' (List.mem_of_getElem? hz)
                simpa using this
              · exact k2 w2 (.type "ValueError") dx' rfl p2.ok .refl ⟨(xg.ve k hk).symm, .inl ⟨rfl, .inr ⟨_, rfl⟩⟩⟩
            · exact k2.elim
          · exact k2.elim
        · exact k1.elim
end
end Den
set_option maxHeartbeats 2000000
/-! DIs: isinstance. -/
namespace Den
open PySem L2

theorem boot_ty (t : Ty) : bootBuiltins (nmTy t) = some (.type (idTy t)) := by cases t <;> decide +kernel
/-- a class's name as a value -/
theorem pe_tc {G : Gm} {pg : Pg} {X : Cx} {ck : CK} (xg : XG X G pg ck) {t : TC} {z : Expr} (h : chkTC ck t z = true) : ∃ v, ClsV v (tcv G t) ∧ PE X z (tC v) := by
  cases t with
  | cl c => cases z <;> exact (Bool.false_ne_true h).elim
  | ty t =>
    cases z <;> try (exact (Bool.false_ne_true h).elim)
    rename_i x pos
    have h' := Bool.and_eq_true_iff.mp h
    obtain ⟨hg, hm, ho⟩ := bi_range xg h'.1
    exact ⟨_, .ty _, pe_bltn hg hm (by rw [beq_iff_eq.mp h'.2]; exact boot_ty t) (show RelV (.ty _) (.type _) from rfl) (okN_n ho) (okN_d ho)⟩
  | ec c =>
    cases z <;> try (exact (Bool.false_ne_true h).elim)
    rename_i x pos
    have h' := Bool.and_eq_true_iff.mp h
    have h1 := Bool.and_eq_true_iff.mp h'.1
    obtain ⟨hm, C, hC⟩ := xg.xc x c (beq_iff_eq.mp h'.2)
    refine ⟨.ref C, by show ClsV _ (G.xcl c); rw [hC]; exact .own C, pe_glob (v := .ref C) (by unfold Gl Env.kindOf; rw [xg.sc]; exact beq_iff_eq.mp h1.1) hm (by rw [hC]; rfl) (okN_d h1.2)⟩

theorem kb_non (t : Ty) : kitB "NoneType" (idTy t) = some false := by cases t <;> decide +kernel
theorem kb_bl (t : Ty) : kitB "bool" (idTy t) = some (t == .bool || t == .int) := by cases t <;> decide +kernel
theorem kb_int (t : Ty) : kitB "int" (idTy t) = some (t == .int) := by cases t <;> decide +kernel
theorem kb_str (t : Ty) : kitB "str" (idTy t) = some (t == .str) := by cases t <;> decide +kernel
theorem kb_tup (t : Ty) : kitB "tuple" (idTy t) = some (t == .tuple) := by cases t <;> decide +kernel
theorem kb_lst (t : Ty) : kitB "list" (idTy t) = some (t == .list) := by cases t <;> decide +kernel
theorem kb_dict (t : Ty) : kitB "dict" (idTy t) = some (t == .dict) := by cases t <;> decide +kernel
theorem isi_ok {G : Gm} {w : Wd} (ok : Ok G w) {d : D} {v : V} {t : TC} {r : Bool} (h : Rep G w d v) (e : isiD w.st d t = some r) : ∃ ty, TyX G.K w.H v ty ∧ PySem.W.kitOne G.K ty (tcv G t) = some r := by
  cases t with
  | ec c => cases e
  | cl c => cases e
  | ty t =>
    unfold isiD at e
    dsimp only at e
    cases hl : look w.st d with
    | none => rw [hl] at e; cases e
    | some c =>
      rw [hl] at e
      have k : ∀ {a : String} {r : Bool}, kitB a (idTy t) = some r → PySem.W.kitOne G.K (.type a) (tcv G (.ty t)) = some r := fun h => kit_ty h
      cases At.of ok h hl with
      | non => cases e; exact ⟨_, .base .non, k (kb_non t)⟩
      | bl b => cases e; exact ⟨_, .base (.bl b), k (kb_bl t)⟩
      | int b => cases e; exact ⟨_, .base (.int b), k (kb_int t)⟩
      | str b => cases e; exact ⟨_, .base (.str b), k (kb_str t)⟩
      | tup z q =>
        cases e
        rcases z with (z | ⟨o, z⟩) | ⟨o, its, n, z, hc, _⟩
        · exact ⟨_, .base (.tup z), k (kb_tup t)⟩
        · exact ⟨_, .fTuple z, k (kb_tup t)⟩
        · exact ⟨_, .kTuple z hc, k (kb_tup t)⟩
      | lst z q => cases e; exact ⟨_, .base (.lst z), k (kb_lst t)⟩
      | scr z =>
        cases e
        rcases z with (z | ⟨o, z⟩) | ⟨o, its, n, z, hc, _⟩
        · exact ⟨_, .base (.lst z), k (kb_lst t)⟩
        · exact ⟨_, .base (.frz z), k (kb_lst t)⟩
        · exact ⟨_, .kList z hc, k (kb_lst t)⟩
      | dK z q =>
        cases e
        rcases z with z | ⟨o, z⟩
        · exact ⟨_, .base (.dK z), k (kb_dict t)⟩
        · exact ⟨_, .fDict z, k (kb_dict t)⟩
      | _ => cases e
section
variable {G : Gm} {pg : Pg} {b : Nat}
theorem boot_isi : bootBuiltins "isinstance" = some (.builtin "isinstance") := by decide +kernel
theorem s_isi {a : E} {t : TC} (sa : SE G pg b a) : SE G pg b (.isi a t) := fun X ck W xg tk e h => by
  cases e <;> try (exact (Bool.false_ne_true h).elim)
  rename_i g es ks pos
  cases g <;> try (exact (Bool.false_ne_true h).elim)
  rename_i x xp
  match es, ks, h with
  | [y, z], [], h =>
    simp only [chkE, Bool.and_eq_true, beq_iff_eq] at h
    obtain ⟨⟨⟨⟨⟨rfl, h2⟩, h3⟩, h4⟩, h5⟩, h6⟩ := h
    obtain ⟨hg, hm, ho⟩ := bi_range xg h2
    obtain ⟨v, hv, hz⟩ := pe_tc xg h5
    refine (pe_callB call_isi hg hm boot_isi (pa_cons (sa X ck W xg tk y h6) (pa_cons hz pa_nil (star_cons h4)) (star_cons h3)) (okN_n ho) (okN_d ho) (star_cons h3) (by rw [back_any, star_cons h4]; rfl)).imp fun σ H Q ⟨w, ρ, p, q⟩ => ?_
    refine tE.of p q.bind fun d w1 u p1 e1 k1 r1 => ?_
    cases hi : isiD w1.st d t with
    | none => simp only [hi] at k1; exact k1.elim
    | some r =>
      simp only [hi] at k1
      obtain ⟨ty, hty, hk⟩ := isi_ok p1.ok r1 hi
      exact ⟨u, v, ty, _, r, rfl, hv, xg.K ▸ hty, xg.K ▸ hk, k1.here p1.ok _ rfl⟩
  | [], _, h => exact (Bool.false_ne_true h).elim
  | [_], _, h => exact (Bool.false_ne_true h).elim
  | _ :: _ :: _ :: _, _, h => exact (Bool.false_ne_true h).elim
  | [_, _], _ :: _, h => exact (Bool.false_ne_true h).elim

/-- isinstance of the exception that the suite holds -/
def rIsX (X : Cx) : List V → Hp → VK → Prop := fun xs H Q => ∃ (a C : Addr) (oe : Obj) (dd : Option Addr) (c : V) (cv : Value) (r : Bool), xs = [.ref a, c] ∧ (a, oe) ∈ X.pn ∧ Zc (.ref C) dd oe ∧ (∃ vs, oe.data = .fields vs) ∧ (∀ dx, dd = some dx → ∃ o, H dx = some o) ∧
  ExcC X.K C ∧ ClsV c cv ∧ PySem.W.kitOne X.K (.ref C) cv = some r ∧ Q (.bl r) H
theorem call_isX {X : Cx} : CallR X (.builtin "isinstance") (rIsX X) := by
  intro pins s σ H xs us Q I r h
  obtain ⟨a, C, oe, dd, c, cv, b, rfl, hp, hz, hd, hdd, ex, hc, hk, q⟩ := h
  obtain ⟨u1, u2, rfl, r1, r2⟩ := vals2 r
  cases (show u1 = Value.ref a from r1)
  have e2 := hc.eq r2
  subst e2
  obtain ⟨vs, hv⟩ := hd
  obtain ⟨z1, z2⟩ := hz
  have at_ := (I.pin (a, oe) (List.mem_append.mpr (.inl hp))).1
  have no : PySem.W.notCls oe = true := by unfold PySem.W.notCls; rw [hv]
  obtain ⟨cdD, hcD, _⟩ := PySem.W.any_some ex.hd
  obtain ⟨od, J⟩ : ∃ od, PySem.W.InstAt s.heap a oe C od := by
    cases dd with
    | none => exact ⟨none, at_, z1, no, by rw [z2]; trivial⟩
    | some dx =>
      obtain ⟨o, ho⟩ := hdd dx rfl
      obtain ⟨ob, hob⟩ := objOk_get (I.hok dx o ho)
      exact ⟨some ob, at_, z1, no, by rw [z2]; exact hob⟩
  exact PySem.W.kia_one (PySem.W.kitx_exc (od := od) (ox := oe) (by rw [hcD]; rfl) ex.hg ex.hk ex.hs ex.ha ex.hn ex.ht ex.hm) I.kIn J hk (fun z => nomatch z) fun tk => ⟨.bl b, H, I.tok tk, rfl, q⟩
/-- an attribute of the exception that the suite holds -/
def tXfX (X : Cx) (n : Str) (te : TE) : TE := fun σ H Q => te σ H fun x H1 => ∃ (a C : Addr) (oe : Obj) (dd : Addr) (fs : List (Str × V)) (v : V), x = .ref a ∧ (a, oe) ∈ X.pn ∧ Zc (.ref C) (some dd) oe ∧ (∃ vs, oe.data = .fields vs) ∧ XfC X.K C ∧ PySem.W.findIn X.K (.ref C) n = some none ∧ H1 dd = some (.xd fs) ∧ fs.lookup n = some v ∧ Q v H1
theorem pe_xfX {X : Cx} {e : Expr} {te : TE} {pos : Pos} {n : Str} (he : PE X e te) (hb : attributeBase e n X.env (eval e X.env) = eval e X.env := by rfl) : PE X (.Attribute e n pos) (tXfX X n te) := by
  refine ⟨fun pins s σ H Q I h => ?_⟩
  refine attr_of hb (thn (he.run pins s σ H _ I h) fun u s1 hh => ?_)
  obtain ⟨x, H1, I1, rx, a, C, oe, dd, fs, v, ex, hp, hz, hf, T, hno, ea, l, q⟩ := hh
  subst ex
  obtain rfl : u = Value.ref a := rx
  have ha := (I1.pin (a, oe) (List.mem_append.mpr (.inl hp))).1
  obtain ⟨vs, hd⟩ := hf
  have hx : ObjOk X.prog X.w H1 s1.heap dd (.xd fs) := I1.hok dd _ ea
  obtain ⟨mA, hns, hr⟩ := hx
  obtain ⟨od, ho, hl⟩ := lookIn_ns hns
  obtain ⟨u, hu, ru⟩ := RelO.some_of (v := v) (o := mA n) (by rw [← l]; exact hr n)
  have J : PySem.W.InstAt s1.heap a oe C (some od) := ⟨ha, hz.1, by unfold PySem.W.notCls; rw [hd] <;> rfl, by rw [hz.2]; exact ho⟩
  exact HandSPX.exc_get I1.kIn J T.ga T.gg T.exC (PySem.W.findObj_own T.hdC hno rfl (by rw [hl, hu])) (handed_of ru) ⟨v, H1, I1.tok _, ru, q⟩
theorem s_fldx {i f : Nat} : SE G pg b (.fldx i f) := fun X ck W xg tk e h => by
  cases e <;> try (exact (Bool.false_ne_true h).elim)
  rename_i g n pos
  cases g <;> try (exact (Bool.false_ne_true h).elim)
  rename_i y yp
  simp only [chkE, Bool.and_eq_true, beq_iff_eq] at h
  obtain ⟨⟨⟨h4, h5⟩, h6⟩, h7⟩ := h
  have hn := xg.at_ f n h7
  have hy : PE X (.Name y yp) (tVar i) := pe_var (i := i) (by rw [xg.N]; exact h4) (by rw [xg.sc]; exact visB_vis h5) (okN_d h6) (okN_c h6)
  refine (pe_xfX (pos := pos) (n := n) hy (attr_plain rfl)).imp fun σ H Q ⟨w, ρ, p, q⟩ => ?_
  dsimp only [evE] at q
  cases hi : ρ[i]? with
  | none => simp only [hi] at q; exact q.elim
  | some o =>
    cases o with
    | no => simp only [hi] at q; exact q.elim
    | v d => simp only [hi] at q; exact q.elim
    | x c fs =>
      simp only [hi] at q
      by_cases hxf : pg.xf c = some (some f)
      · rw [if_pos hxf] at q
        cases hl : fs.lookup f with
        | none => rw [hl] at q; exact q.elim
        | some d =>
          rw [hl] at q
          obtain ⟨u, hu, a, oe, dd, rfl, hp, hz2, hf, hx⟩ := p.env.slot i _ hi (fun z => nomatch z)
          obtain ⟨C, hC, _, T, hno, _⟩ := xg.mkf c f hxf
          rw [hC] at hz2
          rcases hx with ⟨h0, _⟩ | ⟨dx', us, h1, _, h3, h8⟩
          · rw [h0] at hl; cases hl
          · obtain ⟨v, hv, rv⟩ := RepF.get h8 hl
            subst h1
            refine ⟨_, hu, a, C, oe, dx', us, v, rfl, epn_mem hp, hz2, hf, T, by rw [← hn]; exact hno, by rw [← p.H]; exact h3, by rw [← hn]; exact hv, ?_⟩
            rw [← p.H]
            exact q.here p.ok _ rv
      · rw [if_neg hxf] at q; exact q.elim
theorem s_isx {i : Nat} {t : TC} : SE G pg b (.isx i t) := fun X ck W xg tk e h => by
  cases e <;> try (exact (Bool.false_ne_true h).elim)
  rename_i g es ks pos
  cases g <;> try (exact (Bool.false_ne_true h).elim)
  rename_i x xp
  match es, ks, h with
  | [.Name y yp, z], [], h =>
    simp only [chkE, Bool.and_eq_true, beq_iff_eq] at h
    obtain ⟨⟨⟨⟨⟨⟨rfl, h2⟩, h3⟩, h4⟩, h5⟩, h6⟩, h7⟩ := h
    obtain ⟨hg, hm, ho⟩ := bi_range xg h2
    obtain ⟨v, hv, hz⟩ := pe_tc xg h7
    have hy : PE X (.Name y yp) (tVar i) := pe_var (i := i) (by rw [xg.N]; exact h4) (by rw [xg.sc]; exact visB_vis h5) (okN_d h6) (okN_c h6)
    refine (pe_callB call_isX hg hm boot_isi (pa_cons hy (pa_cons hz pa_nil (star_cons h3)) rfl) (okN_n ho) (okN_d ho) rfl (by rw [back_any, star_cons h3]; rfl)).imp fun σ H Q ⟨w, ρ, p, q⟩ => ?_
    dsimp only [evE] at q
    cases hi : ρ[i]? with
    | none => simp only [hi] at q; exact q.elim
    | some o =>
      cases o with
      | no => simp only [hi] at q; exact q.elim
      | v d => simp only [hi] at q; exact q.elim
      | x c fs =>
        simp only [hi] at q
        cases hs : pg.kit c t with
        | none => simp only [hs] at q; exact q.elim
        | some r =>
          simp only [hs] at q
          obtain ⟨u, hu, a, oe, dd, rfl, hp, hz2, hf, hx⟩ := p.env.slot i _ hi (fun z => nomatch z)
          obtain ⟨C, hC, hex, hk⟩ := xg.kit c t r hs
          rw [hC] at hz2
          refine ⟨_, hu, a, C, oe, dd, v, _, r, rfl, epn_mem hp, hz2, hf, fun dx hd => ?_, hex, hv, hk, ?_⟩
          · rcases hx with ⟨_, h0 | ⟨_, h0⟩⟩ | ⟨dx', us, h1, _, h3, _⟩
            · rw [h0] at hd; cases hd
            · rw [hC] at h0; cases h0
            · rw [h1] at hd; cases hd; rw [← p.H]; exact ⟨_, h3⟩
          · rw [← p.H]; exact q.here p.ok _ rfl
  | [], _, h => exact (Bool.false_ne_true h).elim
  | [y], _, h => cases y <;> exact (Bool.false_ne_true h).elim
  | y :: _ :: _ :: _, _, h => cases y <;> exact (Bool.false_ne_true h).elim
  | [y, _], _ :: _, h => cases y <;> exact (Bool.false_ne_true h).elim
theorem iso_ok {X : Cx} {ck : CK} (xg : XG X G pg ck) {w : Wd} (ok : Ok G w) {d : D} {v : V} {c : Nat} {r : Bool} (h : Rep G w d v) (e : isoD pg w.st d c = some r) : ∃ ty, TyX X.K w.H v ty ∧ PySem.W.kitOne X.K ty (.ref (G.cls c)) = some r := by
  unfold isoD at e
  cases hl : look w.st d with
  | none => rw [hl] at e; cases e
  | some k =>
    rw [hl] at e
    cases At.of ok h hl with
    | ins z q =>
      obtain ⟨C, hk⟩ := xg.isc _ _ _ e
      exact ⟨_, .base (.ins z C.cl C.ha C.hn C.ht C.hm), hk⟩
    | _ => cases e
theorem s_iso {a : E} {c : Nat} (sa : SE G pg b a) : SE G pg b (.iso a c) := fun X ck W xg tk e h => by
  cases e <;> try (exact (Bool.false_ne_true h).elim)
  rename_i g es ks pos
  cases g <;> try (exact (Bool.false_ne_true h).elim)
  rename_i x xp
  match es, ks, h with
  | [y, z0], [], h =>
    cases z0 <;> try (exact (Bool.false_ne_true h).elim)
    rename_i z zp
    simp only [chkE, Bool.and_eq_true, beq_iff_eq] at h
    obtain ⟨⟨⟨⟨⟨⟨rfl, h2⟩, h3⟩, h4⟩, h5⟩, h6⟩, h7⟩ := h
    obtain ⟨hg, hm, ho⟩ := bi_range xg h2
    have hz : PE X (.Name z zp) (tC (.ref (G.cls c))) := pe_glob (v := .ref (G.cls c)) (by unfold Gl Env.kindOf; rw [xg.sc]; exact beq_iff_eq.mp h4) (xg.cl z c h6) rfl (okN_d h5)
    have st1 : starEach [.Name z zp] X.env = (false, eval (.Name z zp) X.env) :: starEach [] X.env := star_cons rfl
    refine (pe_callB call_isi hg hm boot_isi (pa_cons (sa X ck W xg tk y h7) (pa_cons hz pa_nil st1) (star_cons h3)) (okN_n ho) (okN_d ho) (star_cons h3) (by rw [back_any, st1]; rfl)).imp fun σ H Q ⟨w, ρ, p, q⟩ => ?_
    refine tE.of p q.bind fun d w1 u p1 e1 k1 r1 => ?_
    cases hi : isoD pg w1.st d c with
    | none => simp only [hi] at k1; exact k1.elim
    | some r =>
      simp only [hi] at k1
      obtain ⟨ty, hty, hk⟩ := iso_ok xg p1.ok r1 hi
      exact ⟨u, .ref (G.cls c), ty, _, r, rfl, .own _, hty, hk, k1.here p1.ok _ rfl⟩
  | [], _, h => exact (Bool.false_ne_true h).elim
  | [_], _, h => exact (Bool.false_ne_true h).elim
  | _ :: z :: _ :: _, _, h => cases z <;> exact (Bool.false_ne_true h).elim
  | [_, z], _ :: _, h => cases z <;> exact (Bool.false_ne_true h).elim
end
end Den
set_option maxHeartbeats 2000000
/-! DDsp: displays of dicts whose keys and values are names and constants. -/
namespace Den
open PySem L2

section
variable {G : Gm} {w : Wd} {pg : Pg} {b : Nat}
def vSim : D → V
  | .bl b => .bl b
  | .int i => .int i
  | .str s => .str s
  | _ => .non
def tSim (a : E) : TE := fun σ H Q => match a with
  | .var i => ∃ v, σ[i]? = some (some v) ∧ Q v H
  | .cst d => Q (vSim d) H
  | _ => False
def tDsp : E → List (TE × TE)
  | .cons a (.cons c r) => (tSim a, tSim c) :: tDsp r
  | _ => []
theorem pe_sim {X : Cx} {ck : CK} (xg : XG X G pg ck) {a : E} {e : Expr} (h : chkSim ck a e = true) : PE X e (tSim a) := by
  cases a <;> try (exact (Bool.false_ne_true h).elim)
  · rename_i i
    cases e <;> try (exact (Bool.false_ne_true h).elim)
    rename_i x pos
    have h' := Bool.and_eq_true_iff.mp h
    have h1 := Bool.and_eq_true_iff.mp h'.1
    exact pe_var (i := i) (by rw [xg.N]; exact beq_iff_eq.mp h1.1) (by rw [xg.sc]; exact visB_vis h1.2) (okN_d h'.2) (okN_c h'.2)
  · rename_i d
    cases e <;> try (cases d <;> exact (Bool.false_ne_true h).elim)
    rename_i c k pos
    cases d <;> cases c <;> try (exact (Bool.false_ne_true h).elim)
    · exact pe_non
    · have e := beq_iff_eq.mp h; subst e; exact pe_bl
    · have e := beq_iff_eq.mp h; subst e; exact pe_int
    · have e := beq_iff_eq.mp h; subst e; exact pe_str
theorem dspA_cases {ck : CK} {as : E} {ks : List (Option Expr)} {vs : List Expr} (h : dspA ck as ks vs = true) : (as = .nil ∧ ks = [] ∧ vs = []) ∨ ∃ a c r k ks' v vs', as = .cons a (.cons c r) ∧ ks = some k :: ks' ∧ vs = v :: vs' ∧ chkSim ck a k = true ∧ chkSim ck c v = true ∧ dspA ck r ks' vs' = true := by
  unfold dspA at h
  split at h
  · exact .inl ⟨rfl, rfl, rfl⟩
  · simp only [Bool.and_eq_true] at h
    exact .inr ⟨_, _, _, _, _, _, _, rfl, rfl, rfl, h.1.1, h.1.2, h.2⟩
  · cases h
theorem pps_sim {X : Cx} {ck : CK} (xg : XG X G pg ck) {pos : Pos} : ∀ (ks : List (Option Expr)) (vs : List Expr) (as : E), dspA ck as ks vs = true → PPs X pos ks vs (tDsp as) ∧ ks.all (·.isSome) = true
  | [], vs, as, h => by
    rcases dspA_cases h with ⟨rfl, _, rfl⟩ | ⟨_, _, _, _, _, _, _, _, e, _⟩
    · exact ⟨pps_nil, rfl⟩
    · cases e
  | k0 :: ks, vs, as, h => by
    rcases dspA_cases h with ⟨_, e, _⟩ | ⟨a, c, r, k, ks', v, vs', rfl, e, rfl, h1, h2, h3⟩
    · cases e
    · cases e
      obtain ⟨i1, i2⟩ := pps_sim xg (pos := pos) ks vs' r h3
      exact ⟨pps_cons (pe_sim xg h1) (pe_sim xg h2) i1, i2⟩
theorem sim_ev {ck : CK} {a : E} {e : Expr} (h : chkSim ck a e = true) {ρ : DEnv} {σ : L2.St} {pn : List (Addr × Obj)} (env : EnvOk G pn w ρ σ) : evE pg b a ρ w.st = .stk ∨ ∃ d v, evE pg b a ρ w.st = .ok d w.st ∧ Rep G w d v ∧ ∀ (H : Hp) (Q : VK), Q v H → tSim a σ H Q := by
  cases a <;> try (cases e <;> exact (Bool.false_ne_true h).elim)
  · rename_i i
    cases hi : ρ[i]? with
    | none => left; dsimp only [evE]; rw [hi]
    | some o =>
      cases o with
      | no => left; dsimp only [evE]; rw [hi]
      | x c fs => left; dsimp only [evE]; rw [hi]
      | v d =>
        obtain ⟨v, hv, r⟩ := env.slot i _ hi (fun z => nomatch z)
        exact .inr ⟨d, v, by dsimp only [evE]; rw [hi], r, fun H Q q => ⟨v, hv, q⟩⟩
  · rename_i d
    right
    refine ⟨d, vSim d, rfl, ?_, fun H Q q => q⟩
    cases d <;> first | rfl | (cases e <;> first | exact (Bool.false_ne_true h).elim | (rename_i c _ _; cases c <;> exact (Bool.false_ne_true h).elim))
theorem toK_repS {d : D} {v : V} {k : Key} (r : Rep G w d v) (h : toK d = some k) : v = kV k := by
  cases d <;> first | (cases h; done) | (cases h; exact r)
theorem dsp_ev {ck : CK} {ρ : DEnv} {σ : L2.St} {pn : List (Addr × Obj)} (env : EnvOk G pn w ρ σ) : ∀ (ks : List (Option Expr)) (vs : List Expr) (as : E), dspA ck as ks vs = true → evA pg b as ρ w.st = .stk ∨ ∃ xs, evA pg b as ρ w.st = .ok xs w.st ∧
    ∀ l, pairsK xs = some l → ∃ kvs : List (Key × V), RepK G w l kvs ∧ ∀ (H : Hp) (Q : List (V × V) → Hp → Prop), Q (kvs.map fun kv => (kV kv.1, kv.2)) H → tPairs (tDsp as) σ H Q
  | [], vs, as, h => by
    rcases dspA_cases h with ⟨rfl, _, rfl⟩ | ⟨_, _, _, _, _, _, _, _, e, _⟩
    · exact .inr ⟨[], rfl, fun l e => by cases e; exact ⟨[], rfl, fun H Q q => q⟩⟩
    · cases e
  | k0 :: ks, vs, as, h => by
    rcases dspA_cases h with ⟨_, e, _⟩ | ⟨a, c, r, k, ks', v, vs', rfl, e, rfl, h1, h2, h3⟩
    · cases e
    · cases e
      have e0 : evA pg b (.cons a (.cons c r)) ρ w.st = (evE pg b a ρ w.st).bind fun x st => ((evE pg b c ρ st).bind fun y st => (evA pg b r ρ st).bind fun xs st => .ok (y :: xs) st).bind fun xs st => .ok (x :: xs) st := rfl
      rcases sim_ev (pg := pg) (b := b) h1 env with z | ⟨d1, v1, z1, r1, t1⟩
      · left; rw [e0, z]; rfl
      rcases sim_ev (pg := pg) (b := b) h2 env with z | ⟨d2, v2, z2, r2, t2⟩
      · left; rw [e0, z1]; show ((evE pg b c ρ w.st).bind _).bind _ = _; rw [z]; rfl
      rcases dsp_ev env ks vs' r h3 with z | ⟨xs, z3, q3⟩
      · left; rw [e0, z1]; show ((evE pg b c ρ w.st).bind _).bind _ = _; rw [z2]; show ((evA pg b r ρ w.st).bind _).bind _ = _; rw [z]; rfl
      refine .inr ⟨d1 :: d2 :: xs, ?_, fun l e => ?_⟩
      · rw [e0, z1]; show ((evE pg b c ρ w.st).bind _).bind _ = _; rw [z2]; show ((evA pg b r ρ w.st).bind _).bind _ = _; rw [z3]; rfl
      · have e' : ((toK d1).bind fun k => (pairsK xs).map fun l => (k, d2) :: l) = some l := e
        obtain ⟨kk, g1, g2⟩ := Option.bind_eq_some_iff.mp e'
        obtain ⟨l', g3, g4⟩ := Option.map_eq_some_iff.mp g2
        subst g4
        obtain ⟨kvs, q4, q5⟩ := q3 l' g3
        have ek := toK_repS r1 g1
        subst ek
        refine ⟨(kk, v2) :: kvs, ⟨v2, kvs, rfl, r2, q4⟩, fun H Q q => ?_⟩
        exact t1 H _ (t2 H _ (q5 H _ q))
theorem RepK.fold : ∀ (l : List (Key × D)) (kvs : List (Key × V)) (d0 : List (Key × D)) (v0 : List (Key × V)), RepK G w l kvs → RepK G w d0 v0 → RepK G w (l.foldl (fun d p => dput d p.1 p.2) d0) (mergeK v0 kvs)
  | [], _, _, _, r, h => by cases r; exact h
  | (k, d) :: l, kvs, d0, v0, r, h => by
    obtain ⟨v, vr, rfl, r1, r2⟩ := r
    exact RepK.fold l vr _ _ r2 (RepK.put r1 h)
theorem RepK.lenS : ∀ {l : List (Key × D)} {kvs : List (Key × V)}, RepK G w l kvs → l.length = kvs.length
  | [], _, r => by cases r; rfl
  | _ :: _, _, r => by obtain ⟨v, vr, rfl, _, r2⟩ := r; simp [RepK.lenS r2]
theorem s_ddsp {m t : Bool} {as : E} : SE G pg b (.ddsp m t as) := fun X ck W xg tk e h => by
  cases e <;> try (exact (Bool.false_ne_true h).elim)
  rename_i ks vs pos
  simp only [chkE, Bool.and_eq_true, Bool.not_eq_true', decide_eq_true_eq] at h
  obtain ⟨⟨⟨⟨rfl, h2⟩, h3⟩, h4⟩, h5⟩ := h
  obtain ⟨pp, hall⟩ := pps_sim xg (pos := pos) ks vs as h5
  refine (pe_disp pp hall h2 (by intro z; subst z; cases h3) h4).imp fun σ H Q ⟨w, ρ, p, q⟩ => ?_
  intro a ha
  have q' : Post G b w ((evA pg b as ρ w.st).bind fun xs st => dspD m false xs st) W σ (KV1 G Q) := q
  rcases dsp_ev (pg := pg) (b := b) p.env ks vs as h5 with z | ⟨xs, z, q2⟩
  · rw [z] at q'; exact q'.elim
  · rw [z] at q'
    have q3 : Post G b w (dspD m false xs w.st) W σ (KV1 G Q) := q'
    unfold dspD at q3
    simp only [Bool.false_eq_true, if_false] at q3
    cases hp : pairsK xs with
    | none => rw [hp] at q3; exact q3.elim
    | some l =>
      rw [hp] at q3
      dsimp only [Option.bind_some] at q3
      split at q3
      · rename_i dd hd
        split at hd <;> cases hd
        rename_i hl
        obtain ⟨kvs, r, q5⟩ := q2 l hp
        refine q5 _ _ ⟨upd_same, kvs, rfl, by rw [← RepK.lenS r]; exact hl, ?_⟩
        rw [upd_upd, ← p.H]
        rw [← p.H] at ha
        have rf := RepK.fold l kvs [] [] r rfl
        cases m with
        | false =>
          simp only [Bool.false_eq_true, if_false] at q3
          obtain ⟨e', _, n, k⟩ := Post.new p.ok q3 ha (.dK (mergeK [] kvs))
          exact k _ ⟨a, _, rfl, n, .inl upd_same, RepK.ext e' _ _ rf⟩
        | true =>
          simp only [if_true] at q3
          have hcl : closed w.st.length (.dK (l.foldl (fun d p => dput d p.1 p.2) [])) = true := by
            have := RepK.closed _ _ rf
            rw [p.ok.len] at this; exact this
          obtain ⟨e2, ok2, r2⟩ := alloc p.ok p.hb ha (.dK (mergeK [] kvs)) (.dK (l.foldl (fun d p => dput d p.1 p.2) [])) (fun w' e' z => ⟨_, z, RepK.ext e' _ _ rf⟩) hcl
          exact q3 _ rfl ok2 e2 _ r2
      · exact q3.elim
end
end Den
set_option maxHeartbeats 4000000
/-! DLc: comprehensions. -/
namespace Den
open PySem L2

section
variable {G : Gm} {w w' : Wd} {b : Nat}
/-! ### a list that is being made changes -/
theorem TpA.poke (hH : ∀ a, ¬ Tk w a → w'.H a = w.H a) (hl : ∀ a, Tk w' a → Tk w a) {a : Addr} {vs : List V} (t : TpA G w a vs) : TpA G w' a vs := by
  rcases t with ⟨k, z⟩ | z
  · exact .inl ⟨fun y => k (hl a y), (hH a k).trans z⟩
  · exact .inr z
section
variable (hφ : w'.φ = w.φ) (hH : ∀ a, ¬ Tk w a → w'.H a = w.H a) (hl : ∀ a, Tk w' a → Tk w a)
include hφ hH hl
mutual
theorem Rep.poke : ∀ (d : D) (v : V), Rep G w d v → Rep G w' d v
  | .non, _, r => r
  | .bl _, _, r => r
  | .int _, _, r => r
  | .str _, _, r => r
  | .tup xs, v, r => by obtain ⟨a, vs, e, t, q⟩ := r; exact ⟨a, vs, e, t.poke hH hl, Reps.poke xs vs q⟩
  | .lst xs, v, r => by obtain ⟨a, vs, e, k, z, q⟩ := r; exact ⟨a, vs, e, fun y => k (hl a y), (hH a k).trans z, Reps.poke xs vs q⟩
  | .dK xs, v, r => by obtain ⟨a, vs, e, k, z, q⟩ := r; exact ⟨a, vs, e, fun y => k (hl a y), by unfold Rd; rw [hH a k]; exact z, RepK.poke xs vs q⟩
  | .dT xs, v, r => by obtain ⟨a, vs, e, k, z, q⟩ := r; exact ⟨a, vs, e, fun y => k (hl a y), by unfold Rd; rw [hH a k]; exact z, RepT.poke xs vs q⟩
  | .ins c fs, v, r => by obtain ⟨a, dx, vs, e, k, z, q⟩ := r; exact ⟨a, dx, vs, e, fun y => k (hl a y), (hH a k).trans z, RepF.poke fs vs q⟩
  | .scr ns, v, r => by
    obtain ⟨a, e, hr⟩ := r
    refine ⟨a, e, ?_⟩
    rcases hr with ⟨k, z⟩ | z
    · exact .inl ⟨fun y => k (hl a y), by unfold Rd; rw [hH a k]; exact z⟩
    · exact .inr z
  | .loc i, v, r => by obtain ⟨a, e, z⟩ := r; exact ⟨a, e, by rw [hφ]; exact z⟩
theorem Reps.poke : ∀ (ds : List D) (vs : List V), Reps G w ds vs → Reps G w' ds vs
  | [], _, r => r
  | x :: xs, vs, r => by obtain ⟨v, vr, e, q1, q2⟩ := r; exact ⟨v, vr, e, Rep.poke x v q1, Reps.poke xs vr q2⟩
theorem RepK.poke : ∀ (ds : List (Key × D)) (vs : List (Key × V)), RepK G w ds vs → RepK G w' ds vs
  | [], _, r => r
  | (k, x) :: xs, vs, r => by obtain ⟨v, vr, e, q1, q2⟩ := r; exact ⟨v, vr, e, Rep.poke x v q1, RepK.poke xs vr q2⟩
theorem RepT.poke : ∀ (ds : List (List Key × D)) (vs : List XE), RepT G w ds vs → RepT G w' ds vs
  | [], _, r => r
  | (k, x) :: xs, vs, r => by obtain ⟨p, v, vr, e, t, q1, q2⟩ := r; exact ⟨p, v, vr, e, t.poke hH hl, Rep.poke x v q1, RepT.poke xs vr q2⟩
theorem RepF.poke : ∀ (ds : List (Nat × D)) (vs : List (Str × V)), RepF G w ds vs → RepF G w' ds vs
  | [], _, r => r
  | (k, x) :: xs, vs, r => by obtain ⟨v, vr, e, q1, q2⟩ := r; exact ⟨v, vr, e, Rep.poke x v q1, RepF.poke xs vr q2⟩
end
theorem RepC.poke {d : D} {a : Addr} (e : w'.H a = w.H a) (r : RepC G w d a) : RepC G w' d a := by
  cases d <;> try exact r.elim
  · obtain ⟨vs, z, q⟩ := r; exact ⟨vs, e.trans z, Reps.poke hφ hH hl _ vs q⟩
  · obtain ⟨vs, z, q⟩ := r; exact ⟨vs, e.trans z, RepK.poke hφ hH hl _ vs q⟩
  · obtain ⟨vs, z, q⟩ := r; exact ⟨vs, e.trans z, RepT.poke hφ hH hl _ vs q⟩
  · obtain ⟨dx, vs, z, q⟩ := r; exact ⟨dx, vs, e.trans z, RepF.poke hφ hH hl _ vs q⟩
theorem RepL.poke {d : D} {a : Addr} (e : w'.H a = w.H a) (r : RepL G w d a) : RepL G w' d a := by
  cases d <;> try exact r.elim
  · obtain ⟨vs, z, q⟩ := r; exact ⟨vs, e.trans z, Reps.poke hφ hH hl _ vs q⟩
  · obtain ⟨vs, z, q⟩ := r; exact ⟨vs, by unfold Rd; rw [e]; exact z, RepK.poke hφ hH hl _ vs q⟩
  · obtain ⟨vs, z, q⟩ := r; exact ⟨vs, by unfold Rd; rw [e]; exact z, RepT.poke hφ hH hl _ vs q⟩
  · obtain ⟨dx, vs, z, q⟩ := r; exact ⟨dx, vs, e.trans z, RepF.poke hφ hH hl _ vs q⟩
end
/-- the same store, the heap the same but at what is being made -/
theorem Ok.poke (ok : Ok G w) (hφ : w'.φ = w.φ) (hs : w'.st = w.st) (hx : ∀ a ∈ w'.ex, a ∈ w.ex) (hH : ∀ a, a ∉ w.ex → w'.H a = w.H a) (hy : ∀ a ∈ w'.ex, ∃ vs, w'.H a = some (.lst vs)) : Ok G w' := by
  have lv : ∀ a, Live w' a → Live w a := fun a ⟨i, d, h1, h2⟩ => ⟨i, d, by rw [← hs]; exact h1, by rw [← hφ]; exact h2⟩
  have tv : ∀ a, Tk w' a → Tk w a := fun a h => h.imp (lv a) (hx a)
  have hH' : ∀ a, ¬ Tk w a → w'.H a = w.H a := fun a h => hH a fun z => h (.inr z)
  refine ⟨by rw [hφ, hs]; exact ok.len, fun i c a h1 h2 => ?_, fun i j a d e h1 h2 h3 h4 => ok.inj i j a d e (by rw [← hs]; exact h1) (by rw [← hs]; exact h2) (by rw [← hφ]; exact h3) (by rw [← hφ]; exact h4), fun a ha l => ok.exd a (hx a ha) (lv a l), hy⟩
  rw [hs] at h1; rw [hφ] at h2
  have q := ok.cell i c a h1 h2
  cases c with
  | dead => trivial
  | mu d => exact RepC.poke hφ hH' tv (hH a fun z => ok.exd a z ⟨i, d, .inl h1, h2⟩) q
  | lk d => exact RepL.poke hφ hH' tv (hH a fun z => ok.exd a z ⟨i, d, .inr h1, h2⟩) q

/-- a list begins to be made -/
theorem mk_start (ok : Ok G w) {p : Addr} (hp : w.H p = none) : Ext b w ⟨w.φ, w.st, upd w.H p (.lst []), p :: w.ex⟩ ∧ Ok G ⟨w.φ, w.st, upd w.H p (.lst []), p :: w.ex⟩ := by
  obtain ⟨e1, o1, n1⟩ := grow (b := b) ok hp (.lst [])
  have e : Ext b w ⟨w.φ, w.st, upd w.H p (.lst []), p :: w.ex⟩ := by
    refine ⟨fun _ _ h => h, fun a h => ?_, fun a h => .inl h, fun a o z n => e1.keep a o z n, fun _ _ h => h, fun a h => List.mem_cons_of_mem _ h⟩
    rcases h with h | h
    · exact .inl (.inl h)
    · rcases List.mem_cons.mp h with rfl | h
      · exact .inr hp
      · exact .inl (.inr h)
  refine ⟨e, ⟨ok.len, fun i c a h1 h2 => ?_, ok.inj, fun a ha l => ?_, fun a ha => ?_⟩⟩
  · have q := ok.cell i c a h1 h2
    have same : ∀ {u}, w.H a = some u → upd w.H p (.lst []) a = w.H a := fun z => upd_ne (ne_of_none z hp)
    cases c with
    | dead => trivial
    | mu d => obtain ⟨u, z⟩ := RepL.there (RepC.l q); exact RepC.at e q (same z)
    | lk d => obtain ⟨u, z⟩ := RepL.there (G := G) q; exact RepL.at e q (same z)
  · rcases List.mem_cons.mp ha with rfl | h
    · exact ok.nlive hp l
    · exact ok.exd a h l
  · rcases List.mem_cons.mp ha with rfl | h
    · exact ⟨_, upd_same⟩
    · obtain ⟨u, z⟩ := ok.exh a h
      exact ⟨u, by show upd w.H p _ a = some (.lst u); rw [upd_ne (ne_of_none z hp)]; exact z⟩
/-- .. grows -/
theorem mk_more {w0 : Wd} (e0 : Ext b w0 w) (ok : Ok G w) {p : Addr} (hp0 : w0.H p = none) (hx : p ∈ w.ex) (us : List V) :
    Ext b w0 ⟨w.φ, w.st, upd w.H p (.lst us), w.ex⟩ ∧ Ok G ⟨w.φ, w.st, upd w.H p (.lst us), w.ex⟩ ∧ ∀ d v, Rep G w d v → Rep G ⟨w.φ, w.st, upd w.H p (.lst us), w.ex⟩ d v := by
  generalize ho : HO.lst us = o
  have hH : ∀ a, a ∉ w.ex → upd w.H p o a = w.H a := fun a h => upd_ne fun z => h (by rw [z]; exact hx)
  refine ⟨⟨e0.pre, e0.live, e0.mu, fun a u z n => ?_, e0.sco, e0.exm⟩, ok.poke rfl rfl (fun _ h => h) hH fun a ha => ?_, fun d v r => Rep.poke (w := w) (w' := ⟨w.φ, w.st, upd w.H p o, w.ex⟩) rfl (fun a h => hH a fun z => h (.inr z)) (fun _ h => h) d v r⟩
  · show Stay u (upd w.H p o a)
    rw [upd_ne (ne_of_none z hp0)]; exact e0.keep a u z n
  · by_cases h : a = p
    · subst h; exact ⟨us, by rw [ho]; exact upd_same⟩
    · obtain ⟨u, z⟩ := ok.exh a ha
      exact ⟨u, by show upd w.H p o a = some (.lst u); rw [upd_ne h]; exact z⟩
/-- .. is made: a value -/
theorem mk_val {w0 : Wd} (ok0 : Ok G w0) (e0 : Ext b w0 w) (ok : Ok G w) {p : Addr} (hp0 : w0.H p = none) (hx : p ∈ w.ex) {ds : List D} {vs : List V} (hH : w.H p = some (.lst vs)) (r : Reps G w ds vs) :
    Ext b w0 ⟨w.φ, w.st, w.H, w0.ex⟩ ∧ Ok G ⟨w.φ, w.st, w.H, w0.ex⟩ ∧ Rep G ⟨w.φ, w.st, w.H, w0.ex⟩ (.lst ds) (.ref p) := by
  have tv : ∀ a, Tk ⟨w.φ, w.st, w.H, w0.ex⟩ a → Tk w a := fun a h => h.imp id (e0.exm a)
  refine ⟨⟨e0.pre, fun a l => e0.live a (tv a l), e0.mu, e0.keep, e0.sco, fun _ h => h⟩, ok.poke rfl rfl e0.exm (fun _ _ => rfl) fun a ha => ok.exh a (e0.exm a ha), p, vs, rfl, fun l => ?_, hH, Reps.poke (w := w) (w' := ⟨w.φ, w.st, w.H, w0.ex⟩) rfl (fun _ _ => rfl) tv ds vs r⟩
  rcases l with l | l
  · exact ok.exd p hx l
  · obtain ⟨o, z⟩ := ok0.exh p l
    rw [hp0] at z; cases z
/-- .. an object -/
theorem mk_obj {w0 : Wd} (ok0 : Ok G w0) (e0 : Ext b w0 w) (ok : Ok G w) (hb : b ≤ w.st.length) {p : Addr} (hp0 : w0.H p = none) (hx : p ∈ w.ex) {ds : List D} {vs : List V} (hH : w.H p = some (.lst vs)) (r : Reps G w ds vs) :
    Ext b w0 ⟨w.φ ++ [p], w.st ++ [.mu (.lst ds)], w.H, w0.ex⟩ ∧ Ok G ⟨w.φ ++ [p], w.st ++ [.mu (.lst ds)], w.H, w0.ex⟩ ∧ Rep G ⟨w.φ ++ [p], w.st ++ [.mu (.lst ds)], w.H, w0.ex⟩ (.loc w.st.length) (.ref p) := by
  have old : ∀ {i c}, (w.st ++ [Cell.mu (.lst ds)])[i]? = some c → (i < w.st.length ∧ w.st[i]? = some c) ∨ (i = w.st.length ∧ c = .mu (.lst ds)) := fun {i c} h => by
    by_cases hi : i < w.st.length
    · rw [List.getElem?_append_left hi] at h; exact .inl ⟨hi, h⟩
    · rw [List.getElem?_append_right (by omega)] at h
      have : i = w.st.length := by
        have := (List.getElem?_eq_some_iff.mp h).1
        simp at this; omega
      subst this
      simp at h
      exact .inr ⟨rfl, h.symm⟩
  have oldφ : ∀ {i a}, i < w.st.length → (w.φ ++ [p])[i]? = some a → w.φ[i]? = some a := fun {i a} hi h => by
    rw [List.getElem?_append_left (by rw [ok.len]; exact hi)] at h; exact h
  have lastφ : (w.φ ++ [p])[w.st.length]? = some p := by rw [← ok.len]; simp
  have pl : ∀ {i k}, ((w.st ++ [Cell.mu (.lst ds)])[i]? = some (.mu k) ∨ (w.st ++ [Cell.mu (.lst ds)])[i]? = some (.lk k)) → (i < w.st.length ∧ (w.st[i]? = some (.mu k) ∨ w.st[i]? = some (.lk k))) ∨ i = w.st.length := fun {i k} h => by
    rcases h with h | h <;> rcases old h with ⟨z, y⟩ | ⟨z, _⟩ <;> simp_all
  have np0 : p ∉ w0.ex := fun l => by
    obtain ⟨o, z⟩ := ok0.exh p l
    rw [hp0] at z; cases z
  have lv : ∀ {a}, Live ⟨w.φ ++ [p], w.st ++ [.mu (.lst ds)], w.H, w0.ex⟩ a → Live w a ∨ a = p := fun {a} ⟨i, k, h1, h2⟩ => by
    rcases pl h1 with ⟨hi, y⟩ | rfl
    · exact .inl ⟨i, k, y, oldφ hi h2⟩
    · have h2' : (w.φ ++ [p])[w.st.length]? = some a := h2
      rw [lastφ] at h2'; cases h2'; exact .inr rfl
  have tv : ∀ a, Tk ⟨w.φ ++ [p], w.st ++ [.mu (.lst ds)], w.H, w0.ex⟩ a → Tk w a := fun a h => by
    rcases h with h | h
    · rcases lv h with h | rfl
      · exact .inl h
      · exact .inr hx
    · exact .inr (e0.exm a h)
  -- values stay
  have less : ∀ i a, i < w.φ.length → w.φ[i]? = some a → (w.φ ++ [p])[i]? = some a := fun i a hi h => by rw [List.getElem?_append_left hi]; exact h
  refine ⟨⟨fun i a h => ?_, fun a l => e0.live a (tv a l), fun a m => ?_, e0.keep, fun c hc s i k hi h => ?_, fun _ h => h⟩, ⟨by simp [ok.len], fun i c a h1 h2 => ?_, fun i j a k l h1 h2 h3 h4 => ?_, fun a ha l => ?_, fun a ha => ok.exh a (e0.exm a ha)⟩, p, rfl, lastφ⟩
  · have h' := e0.pre i a h
    exact less i a (List.getElem?_eq_some_iff.mp h').1 h'
  · obtain ⟨i, k, h1, h2⟩ := m
    rcases old h1 with ⟨hi, y⟩ | ⟨rfl, _⟩
    · exact e0.mu a ⟨i, k, y, oldφ hi h2⟩
    · have h2' : (w.φ ++ [p])[w.st.length]? = some a := h2
      rw [lastφ] at h2'; cases h2'; exact .inr hp0
  · rcases old h with ⟨_, y⟩ | ⟨rfl, _⟩
    · exact e0.sco c hc s i k hi y
    · exact absurd (Nat.lt_of_lt_of_le hi hc) (Nat.not_lt.mpr hb)
  · rcases old h1 with ⟨hi, y⟩ | ⟨rfl, rfl⟩
    · have q := ok.cell i c a y (oldφ hi h2)
      cases c with
      | dead => trivial
      | mu d => exact RepC.less (w := w) (w' := ⟨w.φ ++ [p], w.st ++ [.mu (.lst ds)], w.H, w0.ex⟩) rfl tv less (RepL.closed (RepC.l q)) q
      | lk d => exact RepL.less (w := w) (w' := ⟨w.φ ++ [p], w.st ++ [.mu (.lst ds)], w.H, w0.ex⟩) rfl tv less (RepL.closed q) q
    · have h2' : (w.φ ++ [p])[w.st.length]? = some a := h2
      rw [lastφ] at h2'; cases h2'
      exact ⟨vs, hH, Reps.less (w := w) (w' := ⟨w.φ ++ [p], w.st ++ [.mu (.lst ds)], w.H, w0.ex⟩) rfl tv less ds vs (Reps.closed ds vs r) r⟩
  · have fr : ∀ {i : Nat} {k : D}, (w.st[i]? = some (Cell.mu k) ∨ w.st[i]? = some (Cell.lk k)) → w.φ[i]? = some p → False := fun {i k} h z => ok.exd p hx ⟨i, k, h, z⟩
    rcases pl h1 with ⟨hi, y1⟩ | rfl <;> rcases pl h2 with ⟨hj, y2⟩ | rfl
    · exact ok.inj i j a k l y1 y2 (oldφ hi h3) (oldφ hj h4)
    · have h4' : (w.φ ++ [p])[w.st.length]? = some a := h4
      rw [lastφ] at h4'; cases h4'; exact (fr y1 (oldφ hi h3)).elim
    · have h3' : (w.φ ++ [p])[w.st.length]? = some a := h3
      rw [lastφ] at h3'; cases h3'; exact (fr y2 (oldφ hj h4)).elim
    · rfl
  · rcases lv l with l | rfl
    · exact ok.exd a (e0.exm a ha) l
    · exact np0 ha
end
end Den
set_option maxHeartbeats 4000000
/-! DLc2: comprehensions: what their texts give. -/
namespace Den
open PySem L2

theorem wipe_get {σ : L2.St} {i : Nat} : ∀ {vs : List Nat}, i ∈ vs → i < σ.length → (wipe σ vs)[i]? = some none
  | [], h, _ => by cases h
  | v :: vs, h, hi => by
    unfold wipe
    rw [getElem?_set_ite]
    by_cases e : i = v
    · rw [if_pos e, if_pos (by rw [wipe_length, ← e]; exact hi)]
    · rw [if_neg e]
      exact wipe_get (by rcases List.mem_cons.mp h with z | z; exact (e z).elim; exact z) hi
theorem wipe_twice (σ : L2.St) (vs : List Nat) : wipe (wipe σ vs) vs = wipe σ vs := by
  refine List.ext_getElem? fun i => ?_
  by_cases h : i ∈ vs
  · by_cases hi : i < σ.length
    · rw [wipe_get h (by rw [wipe_length]; exact hi), wipe_get h hi]
    · rw [List.getElem?_eq_none (by rw [wipe_length, wipe_length]; omega), List.getElem?_eq_none (by rw [wipe_length]; omega)]
  · rw [wipe_out h]
theorem wipeD_len (ρ : DEnv) : ∀ vs : List Nat, (wipeD ρ vs).length = ρ.length
  | [] => rfl
  | v :: vs => by unfold wipeD; rw [List.length_set, wipeD_len ρ vs]
theorem env_wipe {G : Gm} {pn : List (Addr × Obj)} {w : Wd} {ρ : DEnv} {σ : L2.St} (h : EnvOk G pn w ρ σ) : ∀ vs : List Nat, EnvOk G pn w (wipeD ρ vs) (wipe σ vs)
  | [] => h
  | v :: vs => (env_wipe h vs).unset v
section
variable {G : Gm} {pg : Pg} {b : Nat}
/-- one turn -/
def lcB (pg : Pg) (b : Nat) (tg : T) (own : List Nat) (cnd elt : E) (ρ : DEnv) (x : D) (st : Sto) : Res (Option D) :=
  match asgT tg x (wipeD ρ own) st with
  | none => .stk
  | some ρ' => (evE pg b cnd ρ' st).bind fun bv st => match bv with
    | .bl true => (evE pg b elt ρ' st).bind fun y st => .ok (some y) st
    | .bl false => .ok none st
    | _ => .stk
def lcF (m : Bool) (lk : Lk) (ys : List D) (st : Sto) : Res D := match unSt st lk with
  | some st => if m then .ok (.loc st.length) (st ++ [.mu (.lst ys)]) else .ok (.lst ys) st
  | none => .stk
theorem evE_lc {m : Bool} {own : List Nat} {tg : T} {k : IK} {as cnd elt : E} {ρ : DEnv} {st : Sto} : evE pg b (.lc m own tg k as cnd elt) ρ st = (evA pg b as ρ st).bind fun vs st => match evIt k vs st with
    | none => .stk
    | some (xs, lk) => if xs.length ≤ LIM then (lcD (lcB pg b tg own cnd elt ρ) xs [] (lkSt st lk)).bind (lcF m lk) else .stk := rfl
/-- a condition's reading -/
def tCnd (G : Gm) (pg : Pg) (b : Nat) (cnd : E) : TT := fun σ H Q => ∃ w ρ, Pre G [] b w ρ σ H ∧ Post G b w (evE pg b cnd ρ w.st) WF σ (KB1 Q)
theorem turn_ok {w0 w : Wd} {W : WX} {σ σ2 : L2.St} {K : D → Wd → Prop} {tg : T} {own : List Nat} {cnd elt : E} {ρ : DEnv} {d : D} {rest acc : List D} {f : List D → Sto → Res D}
    (h : Post G b w0 ((lcD (lcB pg b tg own cnd elt ρ) (d :: rest) acc w.st).bind f) W σ K) :
    ∃ ρ', asgT tg d (wipeD ρ own) w.st = some ρ' ∧ Post G b w (evE pg b cnd ρ' w.st) WF σ2 (fun bv w5 => (bv = .bl true ∧ Post G b w5 (evE pg b elt ρ' w5.st) WF σ2 (fun y w6 => Post G b w0 ((lcD (lcB pg b tg own cnd elt ρ) rest (acc ++ [y]) w6.st).bind f) W σ K)) ∨
      (bv = .bl false ∧ Post G b w0 ((lcD (lcB pg b tg own cnd elt ρ) rest acc w5.st).bind f) W σ K)) := by
  unfold lcD lcB at h
  cases ha : asgT tg d (wipeD ρ own) w.st with
  | none => simp only [ha] at h; exact h.elim
  | some ρ' =>
    simp only [ha] at h
    refine ⟨ρ', rfl, ?_⟩
    cases hc : evE pg b cnd ρ' w.st with
    | exc c fs st => simp only [hc, Res.bind] at h; exact h.elim
    | stk => simp only [hc, Res.bind] at h; exact h.elim
    | ok bv st =>
      simp only [hc, Res.bind] at h
      intro w5 est ok5 e5
      subst est
      cases bv <;> try (simp only [Res.bind] at h; exact h.elim)
      rename_i bb
      cases bb with
      | false => exact .inr ⟨rfl, h⟩
      | true =>
        refine .inl ⟨rfl, ?_⟩
        cases he : evE pg b elt ρ' w5.st with
        | exc c fs st => simp only [he, Res.bind] at h; exact h.elim
        | stk => simp only [he, Res.bind] at h; exact h.elim
        | ok y st =>
          simp only [he, Res.bind] at h
          intro w6 est6 ok6 e6
          subst est6
          exact h
theorem unlock_tk {φ : List Addr} {H H' : Hp} {ex : List Addr} : ∀ (lk : Lk) {st st' : Sto} {a : Addr}, unSt st lk = some st' → Tk ⟨φ, st', H', ex⟩ a → Tk ⟨φ, st, H, ex⟩ a
  | [], st, st', a, h, t => by cases h; exact t
  | (i, d) :: r, st, st', a, h, t => by
    unfold unSt at h
    cases hu : unSt st r with
    | none => simp only [hu] at h; cases h
    | some st2 =>
      simp only [hu] at h
      refine unlock_tk (H' := H') r hu ?_
      cases hi : st2[i]? with
      | none => simp only [hi] at h; cases h
      | some c =>
        cases c <;> simp only [hi] at h <;> cases h
        rename_i e
        refine t.imp (fun ⟨j, k, h1, h2⟩ => ?_) id
        have il := (List.getElem?_eq_some_iff.mp hi).1
        have h1' : (st2.set i (Cell.mu d))[j]? = some (Cell.mu k) ∨ (st2.set i (Cell.mu d))[j]? = some (Cell.lk k) := h1
        rw [getElem?_set_ite] at h1'
        by_cases z : j = i
        · subst z; exact ⟨j, e, .inr hi, h2⟩
        · rw [if_neg z] at h1'; exact ⟨j, k, h1', h2⟩
theorem lc_read {H0 : Hp} {W : WX} {m : Bool} {own : List Nat} {tg : T} {k : IK} {as cnd elt : E} {tt : TT} (htt : ∀ σ H Q, tCnd G pg b cnd σ H Q → tt σ H Q) (hs : ∀ i ∈ slotsT tg, i ∈ own) {σ : L2.St} {H : Hp} {Q : VK}
    (h : tE G pg b [] W (.lc m own tg k as cnd elt) σ H Q) : tLc (tI G pg b [] W H0 k as) (tG G [] b tg) tt (tE G pg b [] WF elt) own σ H (fun v H' => ∃ H2, Thw H0 H' H2 ∧ Q v H2) := by
  obtain ⟨w, ρ, p, q⟩ := h
  rw [evE_lc] at q
  refine ⟨w, ρ, p, q.bind.mono fun vs w1 ok1 e1 q1 => ?_⟩
  have p1 := p.next ok1 e1
  cases hev : evIt k vs w1.st with
  | none => simp only [hev] at q1; exact q1.elim
  | some r =>
    obtain ⟨xs, lk⟩ := r
    simp only [hev] at q1
    split at q1
    case isFalse => exact q1.elim
    rename_i hlen
    refine ⟨xs, lk, rfl, fun J w2 L hJ D hD2 => ?_⟩
    obtain ⟨Gd, Y, walk, hG, hY⟩ := hJ
    have el := L.ext
    have okl := L.ok
    have hD : w1.H D = none := L.dom D hD2
    rw [← L.st] at q1
    -- the invariant
    refine lc_it walk (fun i H => ∃ w3 acc us, w3.H = H ∧ Ok G w3 ∧ D ∈ w3.ex ∧ Ext b w2 w3 ∧ w3.H D = some (.lst us) ∧ Reps G w3 acc us ∧ us.length ≤ i ∧
      Post G b w1 ((lcD (lcB pg b tg own cnd elt ρ) (xs.drop i) acc w3.st).bind (lcF m lk)) W σ (KV1 G Q)) ?_ ?_ ?_ ?_
    · obtain ⟨e3, o3⟩ := mk_start (b := b) okl hD2
      exact ⟨_, [], [], rfl, o3, List.mem_cons_self, e3, upd_same, rfl, Nat.zero_le _, q1⟩
    · rintro i H hi ⟨w3, acc, us, rfl, o3, x3, e3, _⟩
      exact hG w3 o3 e3
    · rintro i x H H' hi ⟨w3, acc, us, rfl, o3, x3, e3, hus, rus, hul, q3⟩ hy
      obtain ⟨w4, d, rfl, es4, o4, e4, hd, rd⟩ := hY i x H' w3 hi o3 e3 hy
      have hdrop : xs.drop i = d :: xs.drop (i + 1) := by
        obtain ⟨hi', e⟩ := List.getElem?_eq_some_iff.mp hd
        rw [List.drop_eq_getElem_cons hi', e]
      rw [hdrop] at q3
      have q4 := q3
      rw [← es4] at q4
      have e14 : Ext b w1 w4 := el.trans (e3.trans e4)
      have env4 : EnvOk G [] w4 ρ σ := p1.env.ext e14
      have hb4 : b ≤ w4.st.length := Nat.le_trans p1.hb (e14.len ok1 o4)
      obtain ⟨ρ', ha, _⟩ := turn_ok (σ2 := σ) q4
      refine ⟨w4, wipeD ρ own, d, ρ', ⟨rfl, o4, hb4, env_wipe env4 own⟩, rd, ha, fun σ2 en2 hw => ⟨by rw [hw own hs, wipe_twice], ?_⟩⟩
      obtain ⟨ρ'', ha', turn⟩ := turn_ok (σ2 := σ2) q4
      rw [ha] at ha'; cases ha'
      refine htt _ _ _ ⟨w4, ρ', ⟨rfl, o4, hb4, en2⟩, turn.mono fun bv w5 o5 e5 q5 => ?_⟩
      have stay : ∀ {w6}, Ext b w3 w6 → D ∈ w6.ex ∧ w6.H D = some (.lst us) := fun {w6} e => ⟨e.exm D x3, (e.keep D _ hus fun mu => o3.exd D x3 mu.live).same fun z => z⟩
      rcases q5 with ⟨rfl, q5⟩ | ⟨rfl, q5⟩
      · refine ⟨true, rfl, ?_⟩
        dsimp only
        rw [if_pos rfl]
        refine ⟨w5, ρ', ⟨rfl, o5, Nat.le_trans hb4 (e5.len o4 o5), en2.ext e5⟩, q5.mono fun y w6 o6 e6 q6 v rv => ?_⟩
        have e36 := e4.trans (e5.trans e6)
        obtain ⟨x6, h6⟩ := stay e36
        have e26 := e3.trans e36
        obtain ⟨e7, o7, r7⟩ := mk_more e26 o6 hD2 x6 (us ++ [v])
        refine ⟨us, h6, by have := lim; omega, _, acc ++ [y], us ++ [v], rfl, o7, x6, e7, upd_same, ?_, by simp; omega, q6⟩
        have ra : Reps G w6 acc us := Reps.ext e36 _ _ rus
        have rall : Reps G w6 (acc ++ [y]) (us ++ [v]) := Reps.append ra ⟨v, [], rfl, rv, rfl⟩
        exact Reps.poke (w := w6) (w' := ⟨w6.φ, w6.st, upd w6.H D (.lst (us ++ [v])), w6.ex⟩) rfl (fun a h => upd_ne fun z => h (.inr (by rw [z]; exact x6))) (fun _ h => h) _ _ rall
      · refine ⟨false, rfl, ?_⟩
        dsimp only
        rw [if_neg Bool.false_ne_true]
        have e35 := e4.trans e5
        obtain ⟨x5, h5⟩ := stay e35
        exact ⟨w5, acc, us, rfl, o5, x5, e3.trans e35, h5, Reps.ext e35 _ _ rus, by omega, q5⟩
    · rintro H ⟨w3, acc, us, rfl, o3, x3, e3, hus, rus, hul, q3⟩
      have hnil : xs.drop xs.length = [] := List.drop_length
      rw [hnil] at q3
      have q3 : Post G b w1 (lcF m lk acc w3.st) W σ (KV1 G Q) := q3
      unfold lcF at q3
      cases hu : unSt w3.st lk with
      | none => simp only [hu] at q3; exact q3.elim
      | some st' =>
        simp only [hu] at q3
        obtain ⟨H', th, e5, o5, hh⟩ := L.un w3 st' o3 e3 hu
        have tv : ∀ a, Tk ⟨w3.φ, st', H', w3.ex⟩ a → Tk w3 a := fun a l => unlock_tk lk hu l
        have r5 : Reps G ⟨w3.φ, st', H', w3.ex⟩ acc us := Reps.thS (w' := w3) (w4 := ⟨w3.φ, st', H', w3.ex⟩) rfl hh tv rus
        have hus' : H' D = some (.lst us) := hh.1 D _ hus (by intro _ _ h; cases h)
        refine ⟨H', th, ?_⟩
        cases m with
        | false =>
          obtain ⟨e6, o6, r6⟩ := mk_val ok1 e5 o5 hD x3 hus' r5
          exact q3 ⟨w3.φ, st', H', w1.ex⟩ rfl o6 e6 _ r6
        | true =>
          obtain ⟨e6, o6, r6⟩ := mk_obj ok1 e5 o5 (Nat.le_trans p1.hb (e5.len ok1 o5)) hD x3 hus' r5
          exact q3 ⟨w3.φ ++ [D], st' ++ [.mu (.lst acc)], H', w1.ex⟩ rfl o6 e6 _ r6

/-! ### the text -/
theorem xg_blk {X : Cx} {ck : CK} (xg : XG X G pg ck) {scope : Scope} {own : List (Str × Nat)} (ok : BlkOk X.N X.env.scope scope own) (s : Shared) (H : Hp) (C : Addr) (cl : List (Str × Addr)) (fp : List Addr) : XG (X.blk s H scope (compEnvC scope cl C X.env) fp) G pg (ck.blk scope) where
  kind := ok.kind
  so := fun x k hk h => lookup_relS_keep hk h
  cel := fun x h => beq_iff_eq.mpr h
  xc := xg.xc
  sub := xg.sub
  kit := xg.kit
  unc := xg.unc
  cln := xg.cln
  ve := xg.ve
  isc := xg.isc
  hc := fun h => nomatch h
  mkx := xg.mkx
  mkf := xg.mkf
  N := xg.N
  nd := xg.nd
  sc := by
    show relS scope X.env.scope = relS scope ck.sc
    rw [xg.sc]
  K := xg.K
  hs := xg.hs
  hu := xg.hu
  calm := xg.calm
  room := xg.room
  bi := xg.bi
  va := xg.va
  fn := xg.fn
  at_ := xg.at_
  fa := xg.fa
  mt := xg.mt
  ini := xg.ini
  inm := xg.inm
  cl := xg.cl
  cf := xg.cf
theorem ownP_map {N : List Str} {own : List Nat} : (ownP N own).map (·.2) = own := by
  unfold ownP
  rw [List.map_map]
  exact List.map_id own
/-- the conditions of a comprehension -/
def cndOk (ck : CK) (scope : Scope) (cnd : E) (ifs : List Expr) : Bool := match ifs with
  | [] => (match cnd with
    | .cst (.bl true) => true
    | _ => false)
  | [c] => tstOk cnd && chkE (ck.blk scope) cnd c
  | _ => false
structure LcOk (G : Gm) (pg : Pg) (b : Nat) (X : Cx) (ck : CK) (W : WX) (own : List Nat) (tg : T) (k : IK) (as cnd elt : E) (x t it : Expr) (ifs : List Expr) (scope : Scope) (tt : TT) : Prop where
  calm : X.calm = true
  hot : ck.hot = false
  pi : PI X t it (tI G pg b [] W X.H_0 k as)
  ok : BlkOk X.N X.env.scope scope (ownP ck.N own)
  ptg : ∀ (s : Shared) (H : Hp) (C : Addr) (cl : List (Str × Addr)) (fp : List Addr), PG (X.blk s H scope (compEnvC scope cl C X.env) fp) t (tG G [] b tg)
  pt : ∀ (s : Shared) (H : Hp) (C : Addr) (cl : List (Str × Addr)) (fp : List Addr), PTs (X.blk s H scope (compEnvC scope cl C X.env) fp) ifs tt
  pe : ∀ (s : Shared) (H : Hp) (C : Addr) (cl : List (Str × Addr)) (fp : List Addr), PE (X.blk s H scope (compEnvC scope cl C X.env) fp) x (tE G pg b [] WF elt)
  fi : ∀ x, foldedSetIterable it X.env x = pure x
  rd : ∀ σ H Q, tCnd G pg b cnd σ H Q → tt σ H Q
  sl : ∀ i ∈ slotsT tg, i ∈ own
theorem lc_ok {m : Bool} {own : List Nat} {tg : T} {k : IK} {as cnd elt : E} (sas : SA G pg b as) (ses : EachE (SE G pg b) as) (scn : ST G pg b cnd) (sel : SE G pg b elt) {X : Cx} {ck : CK} {W : WX} (xg : XG X G pg ck) (tk : TkB G X W)
    {x t it : Expr} {ifs : List Expr} {scope : Scope} {pos : Pos} (h : chkE ck (.lc m own tg k as cnd elt) (.ListComp x [⟨t, it, ifs, 0⟩] scope pos) = true) : ∃ tt, LcOk G pg b X ck W own tg k as cnd elt x t it ifs scope tt := by
  have h' : ((((((!ck.hot && (match itA ck k t it with
      | some es => chkA ck as es
      | none => false)) && blkC ck.N ck.sc scope (ownP ck.N own)) && ((slotsT tg).all fun i => decide (i ∈ own))) && chkT (ck.blk scope) tg t) && cndOk ck scope cnd ifs) && chkE (ck.blk scope) elt x) = true := h
  simp only [Bool.and_eq_true] at h'
  obtain ⟨⟨⟨⟨⟨⟨h1, h2⟩, h3⟩, h4⟩, h5⟩, h6⟩, h7⟩ := h'
  have hot : ck.hot = false := by simpa using h1
  have ok : BlkOk X.N X.env.scope scope (ownP ck.N own) := by rw [xg.N, xg.sc]; exact blkOk_by h3
  cases hi : itA ck k t it with
  | none => rw [hi] at h2; cases h2
  | some es =>
    rw [hi] at h2
    obtain ⟨pi, fi⟩ := pi_I sas ses xg tk (chkI_of hi h2)
    have base : ∀ tt : TT, (∀ (s : Shared) (H : Hp) (C : Addr) (cl : List (Str × Addr)) (fp : List Addr), PTs (X.blk s H scope (compEnvC scope cl C X.env) fp) ifs tt) → (∀ σ H Q, tCnd G pg b cnd σ H Q → tt σ H Q) → ∃ tt, LcOk G pg b X ck W own tg k as cnd elt x t it ifs scope tt := fun tt hp hr =>
      ⟨tt, xg.calm hot, hot, by rw [← epn_cold (X := X) hot]; exact pi, ok, fun s H C cl fp => by rw [← epn_cold (X := X.blk s H scope (compEnvC scope cl C X.env) fp) (ck := ck.blk scope) hot]; exact pg_T (xg_blk xg ok s H C cl fp) tg t h5, hp, fun s H C cl fp => by rw [← epn_cold (X := X.blk s H scope (compEnvC scope cl C X.env) fp) (ck := ck.blk scope) hot]; exact sel _ _ _ (xg_blk xg ok s H C cl fp) tk_no x h7, fi, hr, fun i hi => of_decide_eq_true (List.all_eq_true.mp h4 i hi)⟩
    match ifs, h6 with
    | [], h6 =>
      refine base tYes (fun _ _ _ _ _ => pts_nil) fun σ H Q ⟨w, ρ, p, q⟩ => ?_
      unfold cndOk at h6
      dsimp only at h6
      split at h6
      · have q' : Post G b w (.ok (.bl true) w.st) WF σ (KB1 Q) := q
        obtain ⟨c, ec, q2⟩ := q'.here p.ok
        cases ec
        show Q true H
        rw [← p.H]; exact q2
      · cases h6
    | [c], h6 =>
      have h6' := Bool.and_eq_true_iff.mp h6
      refine base (tCnd G pg b cnd) (fun s H C cl fp => ?_) fun σ H Q q => q
      have z := pts_one (scn h6'.1 _ _ _ (xg_blk xg ok s H C cl fp) tk_no c h6'.2)
      rw [epn_cold (X := X.blk s H scope (compEnvC scope cl C X.env) fp) (ck := ck.blk scope) hot] at z
      exact z
    | _ :: _ :: _, h6 => cases h6
theorem s_lc {m : Bool} {own : List Nat} {tg : T} {k : IK} {as cnd elt : E} (sas : SA G pg b as) (ses : EachE (SE G pg b) as) (scn : ST G pg b cnd) (sel : SE G pg b elt) : SE G pg b (.lc m own tg k as cnd elt) := fun X ck W xg tk e h => by
  cases e <;> try (exact (Bool.false_ne_true h).elim)
  rename_i x gs scope pos
  have hg : ∃ t it ifs, gs = [⟨t, it, ifs, 0⟩] := by
    unfold chkE at h
    split at h <;> first
      | (rename_i e1 e2; cases e2; exact ⟨_, _, _, rfl⟩)
      | (cases h; done)
      | (rename_i e1 e2 e3; cases e3; done)
  obtain ⟨t, it, ifs, rfl⟩ := hg
  obtain ⟨tt, L⟩ := lc_ok sas ses scn sel xg tk h
  refine (pe_thaw (pe_lc L.calm xg.nd L.pi L.ok L.ptg L.pt L.pe L.fi)).imp fun σ H Q q => ?_
  rw [ownP_map]
  rw [epn_cold L.hot] at q
  exact lc_read L.rd L.sl q
end
end Den
set_option maxHeartbeats 4000000
/-! DStm: what is looked at of a statement's text (chkS); the readings of statements; the simple ones. -/
namespace Den
open PySem L2

def noComp : Expr → Bool
  | .ListComp _ _ _ _ => false
  | .SetComp _ _ _ _ => false
  | .DictComp _ _ _ _ _ => false
  | _ => true
def noTup : Expr → Bool
  | .Tuple _ _ _ => false
  | _ => true
def isTup : Expr → Bool
  | .Tuple _ _ _ => true
  | _ => false
/-- a comprehension that is stored at once into its name -/
def swB (ck : CK) (y : Str) (py : Pos) : Expr → Bool
  | .ListComp _ _ scope pos => (ck.sc.names.lookup y == some .local) && (py.line == pos.line) && !(scope.names.any fun (n, k) => n == y && (k == .local || k == .cell))
  | _ => false
def isLc : Expr → Bool
  | .ListComp _ _ _ _ => true
  | _ => false
def CK.heat (ck : CK) : CK := { ck with hot := true, rz := false }
def CK.heatR (ck : CK) : CK := { ck with hot := true, rz := true }
/-! shapes -/
def xAsgN : Stmt → Option (Str × Pos × Expr)
  | .Assign [.Name y py] v _ => some (y, py, v)
  | _ => none
theorem xAsgN_eq {st : Stmt} {p : Str × Pos × Expr} (h : xAsgN st = some p) : ∃ pos, st = .Assign [.Name p.1 p.2.1] p.2.2 pos := by
  unfold xAsgN at h
  split at h
  · cases h; exact ⟨_, rfl⟩
  · cases h
def xAsgT : Stmt → Option (Expr × Expr)
  | .Assign [.Tuple es k p] v _ => some (.Tuple es k p, v)
  | _ => none
theorem xAsgT_eq {st : Stmt} {p : Expr × Expr} (h : xAsgT st = some p) : ∃ es k q pos, p.1 = .Tuple es k q ∧ st = .Assign [p.1] p.2 pos := by
  unfold xAsgT at h
  split at h
  · cases h; exact ⟨_, _, _, _, rfl, rfl⟩
  · cases h
def xSetF : Stmt → Option (Expr × Str × Expr)
  | .Assign [.Attribute x n _] v _ => some (x, n, v)
  | _ => none
theorem xSetF_eq {st : Stmt} {p : Expr × Str × Expr} (h : xSetF st = some p) : ∃ p1 pos, st = .Assign [.Attribute p.1 p.2.1 p1] p.2.2 pos := by
  unfold xSetF at h
  split at h
  · cases h; exact ⟨_, _, rfl⟩
  · cases h
def xSetI : Stmt → Option (Expr × Expr × Expr)
  | .Assign [.Subscript x y _] v _ => some (x, y, v)
  | _ => none
theorem xSetI_eq {st : Stmt} {p : Expr × Expr × Expr} (h : xSetI st = some p) : ∃ p1 pos, st = .Assign [.Subscript p.1 p.2.1 p1] p.2.2 pos := by
  unfold xSetI at h
  split at h
  · cases h; exact ⟨_, _, rfl⟩
  · cases h
def xAugI : Stmt → Option (Expr × Expr × Expr)
  | .AugAssign (.Subscript x y _) .Add v _ => some (x, y, v)
  | _ => none
theorem xAugI_eq {st : Stmt} {p : Expr × Expr × Expr} (h : xAugI st = some p) : ∃ p1 pos, st = .AugAssign (.Subscript p.1 p.2.1 p1) .Add p.2.2 pos := by
  unfold xAugI at h
  split at h
  · cases h; exact ⟨_, _, rfl⟩
  · cases h
def xRaise : Stmt → Option Str
  | .Raise (some (.Call (.Name x _) [.Constant (.str _) _ _] [] _)) none _ => some x
  | _ => none
theorem xRaise_eq {st : Stmt} {x : Str} (h : xRaise st = some x) : ∃ p m k p2 pos pos', st = .Raise (some (.Call (.Name x p) [.Constant (.str m) k p2] [] pos)) none pos' := by
  unfold xRaise at h
  split at h
  · cases h; exact ⟨_, _, _, _, _, _, rfl⟩
  · cases h
def xRaise1 : Stmt → Option (Str × Expr)
  | .Raise (some (.Call (.Name x _) [v] [] _)) none _ => some (x, v)
  | _ => none
theorem xRaise1_eq {st : Stmt} {r : Str × Expr} (h : xRaise1 st = some r) : ∃ p pos pos', st = .Raise (some (.Call (.Name r.1 p) [r.2] [] pos)) none pos' := by
  unfold xRaise1 at h
  split at h
  · cases h; exact ⟨_, _, _, rfl⟩
  · cases h
/-- x, y = a, b with plain local names -/
structure XPar where
  x : Str
  px : Pos
  y : Str
  py : Pos
  a : Expr
  b : Expr
def xPar : Expr → Expr → Option XPar
  | .Tuple [.Name x px, .Name y py] _ _, .Tuple [a, b] _ _ => some ⟨x, px, y, py, a, b⟩
  | _, _ => none
theorem xPar_eq {t v : Expr} {r : XPar} (h : xPar t v = some r) : ∃ k p k2 p2, t = .Tuple [.Name r.x r.px, .Name r.y r.py] k p ∧ v = .Tuple [r.a, r.b] k2 p2 := by
  unfold xPar at h
  split at h
  · cases h; exact ⟨_, _, _, _, rfl, rfl⟩
  · cases h
def parT : T → Option (Nat × Nat)
  | .cons (.nm i) (.cons (.nm j) .nil) => some (i, j)
  | _ => none
theorem parT_eq {t : T} {i j : Nat} (h : parT t = some (i, j)) : t = .cons (.nm i) (.cons (.nm j) .nil) := by
  unfold parT at h
  split at h
  · cases h; rfl
  · cases h
def tupA : E → Option E
  | .tup as => some as
  | _ => none
theorem tupA_eq {e as : E} (h : tupA e = some as) : e = .tup as := by
  unfold tupA at h
  split at h
  · cases h; rfl
  · cases h
def noStr2 (a b : Expr) : Bool := noStar a && noStar b && !((foldedForSure 8 a) && (foldedForSure 8 b)) && !((constantsAlone 8 a) && (constantsAlone 8 b))
def parC (ck : CK) (t : T) (e : E) (tg v : Expr) : Bool := match xPar tg v, parT t, tupA e with
  | some r, some (i, j), some as => !ck.hot && (ck.N[i]? == some r.x) && (ck.N[j]? == some r.y) && (i != j) && (r.x != r.y) && (ck.sc.names.lookup r.x == some .local) && (ck.sc.names.lookup r.y == some .local) && (r.px.line == r.py.line) && noStr2 r.a r.b && chkA ck as [r.a, r.b]
  | _, _, _ => false
structure XTry where
  body : List Stmt
  hds : List ExceptHandler
  els : List Stmt
def xTry : Stmt → Option XTry
  | .Try body hds orelse [] _ => some ⟨body, hds, orelse⟩
  | _ => none
theorem xTry_eq {st : Stmt} {t : XTry} (h : xTry st = some t) : ∃ pos, st = .Try t.body t.hds t.els [] pos := by
  unfold xTry at h
  split at h
  · cases h; exact ⟨_, rfl⟩
  · cases h
structure XHd where
  x : Str
  xp : Pos
  n : Option Str
  b0 : Stmt
  suite : List Stmt
def xHd : ExceptHandler → Option XHd
  | .ExceptHandler (some (.Name x xp)) n (b0 :: suite) _ => some ⟨x, xp, n, b0, suite⟩
  | _ => none
theorem xHd_eq {h : ExceptHandler} {t : XHd} (e : xHd h = some t) : ∃ pos, h = .ExceptHandler (some (.Name t.x t.xp)) t.n (t.b0 :: t.suite) pos := by
  unfold xHd at e
  split at e
  · cases e; exact ⟨_, rfl⟩
  · cases e
def xWhile : Stmt → Option (Expr × List Stmt)
  | .While z p [] _ => some (z, p)
  | _ => none
theorem xWhile_eq {st : Stmt} {p : Expr × List Stmt} (h : xWhile st = some p) : ∃ pos, st = .While p.1 p.2 [] pos := by
  unfold xWhile at h
  split at h
  · cases h; exact ⟨_, rfl⟩
  · cases h
def xFor : Stmt → Option (Expr × Expr × List Stmt)
  | .For tg it p [] _ => some (tg, it, p)
  | _ => none
theorem xFor_eq {st : Stmt} {p : Expr × Expr × List Stmt} (h : xFor st = some p) : ∃ pos, st = .For p.1 p.2.1 p.2.2 [] pos := by
  unfold xFor at h
  split at h
  · cases h; exact ⟨_, rfl⟩
  · cases h
mutual
def chkS (ck : CK) : S → Stmt → Bool
  | .skip, .Pass _ => true
  | .skip, .Expr (.Constant (.str _) _ _) _ => true
  | .expr e, .Expr x _ => noComp x && chkE ck e x
  | .asg (.nm i) e, st => match xAsgN st with
    | some (y, py, v) => chkT ck (.nm i) (.Name y py) && (noComp v || isLc v) && chkE ck e v
    | none => false
  | .asg (.tp t) e, st => match xAsgT st with
    | some (tg, v) => (chkT ck (.tp t) tg && noComp v && noTup v && chkE ck e v) || parC ck t e tg v
    | none => false
  | .setf a f e, st => match xSetF st with
    | some (x, n, v) => (ck.at_[f]? == some n) && noComp v && chkE ck e v && chkE ck a x
    | none => false
  | .seti a i e, st => match xSetI st with
    | some (x, y, v) => noComp v && noSlice y && chkE ck e v && chkE ck a x && chkE ck i y
    | none => false
  | .augi a i .add e, st => match xAugI st with
    | some (x, y, v) => noSlice y && chkE ck a x && chkE ck i y && chkE ck e v
    | none => false
  | .aug i .add e, .AugAssign (.Name x p) .Add v _ => chkT ck (.nm i) (.Name x p) && chkE ck e v
  | .ret e, .Return (some x) _ => chkE ck e x
  | .retN, .Return none _ => true
  | .ife c a b, .If z p q _ => tstOk c && chkE ck c z && chkSs ck a p && chkSs ck b q
  | .whl _ c b, st => match xWhile st with
    | some (z, p) => !ck.hot && tstOk c && chkE ck c z && chkSs ck b p
    | none => false
  | .for t k as b, st => match xFor st with
    | some (tg, it, p) => !ck.hot && (match itA ck k tg it with
      | some es => chkA ck as es
      | none => false) && chkT ck t tg && chkSs ck b p
    | none => false
  | .brk, .Break _ => true
  | .cnt, .Continue _ => true
  | .rais c .nil, st => match xRaise st with
    | some x => (!ck.hot || (ck.rz && ck.unc.contains c)) && glB ck.sc x && okN x && (ck.gl.lookup x == some (.xc c))
    | none => false
  | .rais c (.cons a .nil), st => match xRaise1 st with
    | some (x, v) => !ck.hot && ck.unc.contains c && glB ck.sc x && okN x && (ck.gl.lookup x == some (.xc c)) && decide (2 ≤ ck.lvl) && chkA ck (.cons a .nil) [v]
    | none => false
  | .try b h e, st => match xTry st with
    | some y => !ck.hot && !ck.rz && !y.hds.isEmpty && chkSs ck b y.body && chkH ck h y.hds && chkSs ck e y.els
    | none => false
  | _, _ => false
def chkSs (ck : CK) : S → List Stmt → Bool
  | .skip, [] => true
  | .seq (.frz _) b, r => chkSs ck b r
  | .seq (.kill _) b, r => chkSs ck b r
  | .seq a b, x :: r => chkS ck a x && chkSs ck b r
  | _, _ => false
/-- clauses -/
def chkH (ck : CK) : S → List ExceptHandler → Bool
  | .skip, [] => true
  | .exc t n s more, h :: r => (match xHd h with
    | some y => chkTC ck t (.Name y.x y.xp) && (match n, y.n with
      | some i, some m => (ck.N[i]? == some m) && (ck.so.names.lookup m == some .local)
      | none, none => true
      | _, _ => false) && chkSs ck.heat s (y.b0 :: y.suite)
    | none => false) && chkH ck more r
  | .excR t s more, h :: r => (match xHd h with
    | some y => chkTC ck t (.Name y.x y.xp) && y.n.isNone && chkSs ck.heatR s (y.b0 :: y.suite)
    | none => false) && chkH ck more r
  | _, _ => false
end

/-- what is wanted behind a statement -/
def PostS (G : Gm) (pn : List (Addr × Obj)) (b : Nat) (w : Wd) (r : SR) (W : WX) (D : Ends) : Prop :=
  match r with
  | .nx ρ st => ∀ w' σ', w'.st = st → Ok G w' → Ext b w w' → EnvOk G pn w' ρ σ' → D.nx σ' w'.H
  | .rt d st => ∀ w' v, w'.st = st → Ok G w' → Ext b w w' → Rep G w' d v → D.rt v w'.H
  | .bk ρ st => ∀ w' σ', w'.st = st → Ok G w' → Ext b w w' → EnvOk G pn w' ρ σ' → D.bk σ' w'.H
  | .ct ρ st => ∀ w' σ', w'.st = st → Ok G w' → Ext b w w' → EnvOk G pn w' ρ σ' → D.ct σ' w'.H
  | .exc c fs ρ st => ∀ w' σ' cls dd, w'.st = st → Ok G w' → Ext b w w' → EnvOk G pn w' ρ σ' → ExcOk G w' c fs cls dd → W cls dd σ' w'.H
  | .stk => False
def tS (G : Gm) (pg : Pg) (b : Nat) (pn : List (Addr × Obj)) (W : WX) (ir : S) : TS := fun D σ H => ∃ w ρ, Pre G pn b w ρ σ H ∧ PostS G pn b w (evS pg b ir ρ w.st) W D
section
variable {G : Gm} {pn : List (Addr × Obj)} {b : Nat} {w w1 : Wd} {r : SR} {W : WX} {D D' : Ends} {σ : L2.St} {ρ : DEnv}
theorem PostS.from (x : Ext b w w1) (h : PostS G pn b w r W D) : PostS G pn b w1 r W D := by
  cases r with
  | nx ρ st => exact fun w' σ' e o y z => h w' σ' e o (x.trans y) z
  | bk ρ st => exact fun w' σ' e o y z => h w' σ' e o (x.trans y) z
  | ct ρ st => exact fun w' σ' e o y z => h w' σ' e o (x.trans y) z
  | rt d st => exact fun w' v e o y z => h w' v e o (x.trans y) z
  | exc c fs ρ st => exact fun w' σ' cls dd e o y z q => h w' σ' cls dd e o (x.trans y) z q
  | stk => exact h
theorem PostS.sr {α : Type} {r : Res α} {f : α → Sto → SR} (en : EnvOk G pn w ρ σ) (h : PostS G pn b w (r.sr ρ f) W D) : Post G b w r W σ (fun a w1 => PostS G pn b w1 (f a w1.st) W D) := by
  cases r with
  | ok a st => exact fun w1 e o x => by subst e; exact PostS.from x h
  | exc c fs st => exact fun w' cls dd e o x q => h w' σ cls dd e o x (en.ext x) q
  | stk => exact h
theorem PostS.mono (h : PostS G pn b w r W D) (f1 : ∀ ρ σ' w', Ok G w' → Ext b w w' → EnvOk G pn w' ρ σ' → r = .nx ρ w'.st → D.nx σ' w'.H → D'.nx σ' w'.H) (f2 : ∀ v H, D.rt v H → D'.rt v H) (f3 : ∀ σ' H, D.bk σ' H → D'.bk σ' H) (f4 : ∀ σ' H, D.ct σ' H → D'.ct σ' H) : PostS G pn b w r W D' := by
  cases r with
  | nx ρ st => exact fun w' σ' e o y z => f1 ρ σ' w' o y z (by rw [e]) (h w' σ' e o y z)
  | bk ρ st => exact fun w' σ' e o y z => f3 _ _ (h w' σ' e o y z)
  | ct ρ st => exact fun w' σ' e o y z => f4 _ _ (h w' σ' e o y z)
  | rt d st => exact fun w' v e o y z => f2 _ _ (h w' v e o y z)
  | exc c fs ρ st => exact h
  | stk => exact h
/-- in a row -/
theorem PostS.seq {f : DEnv → Sto → SR} (ok : Ok G w) (hb : b ≤ w.st.length) (h : PostS G pn b w (r.seq f) W D) : PostS G pn b w r W { D with nx := fun σ H => ∃ w1 ρ, Pre G pn b w1 ρ σ H ∧ PostS G pn b w1 (f ρ w1.st) W D } := by
  cases r with
  | nx ρ st => exact fun w' σ' e o y z => ⟨w', ρ, ⟨rfl, o, Nat.le_trans hb (y.len ok o), z⟩, by subst e; exact PostS.from y h⟩
  | bk ρ st => exact h
  | ct ρ st => exact h
  | rt d st => exact h
  | exc c fs ρ st => exact h
  | stk => exact h
theorem PostS.nx_here {D : Ends} (p : Pre G pn b w ρ σ w.H) (h : PostS G pn b w (.nx ρ w.st) W D) : D.nx σ w.H := h w σ rfl p.ok .refl p.env
end
theorem _root_.L2.PS.imp {X : Cx} {st : Stmt} {t t' : TS} (h : PS X st t) (f : ∀ D σ H, t' D σ H → t D σ H) : PS X st t' := ⟨fun pins s σ H D I q => h.run pins s σ H D I (f D σ H q)⟩
theorem _root_.L2.PSs.imp {X : Cx} {st : List Stmt} {t t' : TS} (h : PSs X st t) (f : ∀ D σ H, t' D σ H → t D σ H) : PSs X st t' := ⟨fun pins s σ H D I q => h.run pins s σ H D I (f D σ H q)⟩

/-- the frames of the context -/
structure SG (X : Cx) (ck : CK) : Prop where
  hs : X.stack = X.env :: X.outer
  hf : X.env.frame = some X.env.locals
  hp : ck.hot = false → PassesOwn (model X.prog X.w) X.A X.env X.xe
  hpa : ck.hot = false → ∀ hd : Option Value, PassesOwnAt (model X.prog X.w) (X.A.mark hd) X.A X.env X.xe
abbrev SS (G : Gm) (pg : Pg) (b : Nat) (ir : S) : Prop := ∀ (X : Cx) (ck : CK) (W : WX), XG X G pg ck → SG X ck → TkB G X W → ∀ st, chkS ck ir st = true → PS X st (tS G pg b (epn X ck) W ir)
abbrev SSs (G : Gm) (pg : Pg) (b : Nat) (ir : S) : Prop := ∀ (X : Cx) (ck : CK) (W : WX), XG X G pg ck → SG X ck → TkB G X W → ∀ sts, chkSs ck ir sts = true → PSs X sts (tS G pg b (epn X ck) W ir)

section
variable {G : Gm} {pg : Pg} {b : Nat}
theorem sw_none {x : Expr} {l : Nat} {env : Env} (h : noComp x = true) (t : Option Expr) : swapsWith x t l env = pure false := by
  cases x <;> first | rfl | cases h
theorem ss_skips : SSs G pg b .skip := fun X ck W xg sg tk sts h => by
  cases sts with
  | cons _ _ => exact (Bool.false_ne_true h).elim
  | nil =>
    refine pss_nil.imp fun D σ H ⟨w, ρ, p, q⟩ => ?_
    show D.nx σ H
    have q' := PostS.nx_here (D := D) ⟨rfl, p.ok, p.hb, p.env⟩ q
    rw [p.H] at q'; exact q'
theorem ss_seq0 {a c : S} (sa : SS G pg b a) (sb : SSs G pg b c) (hf : ∀ i, a ≠ .frz i) (hk : ∀ l, a ≠ .kill l) : SSs G pg b (.seq a c) := fun X ck W xg sg tk sts h => by
  cases sts with
  | nil => exact (Bool.false_ne_true (show false = true by cases a <;> first | exact h | exact absurd rfl (hf _) | exact absurd rfl (hk _))).elim
  | cons st r =>
    have h' : chkS ck a st = true ∧ chkSs ck c r = true := by
      cases a <;> first | exact Bool.and_eq_true_iff.mp h | exact absurd rfl (hf _) | exact absurd rfl (hk _)
    refine (pss_cons (sa X ck W xg sg tk st h'.1) (sb X ck W xg sg tk r h'.2)).imp fun D σ H ⟨w, ρ, p, q⟩ => ?_
    exact ⟨w, ρ, p, PostS.seq p.ok p.hb q⟩
theorem EnvOk.forget {pn : List (Addr × Obj)} {w : Wd} {ρ : DEnv} {σ : L2.St} (i : Nat) (h : EnvOk G pn w ρ σ) : EnvOk G pn w (ρ.set i .no) σ := by
  refine ⟨by rw [List.length_set]; exact h.len, fun j e q n => ?_, h.glob⟩
  rw [getElem?_set_ite] at q
  by_cases hj : j = i
  · rw [if_pos hj] at q
    by_cases hl : i < ρ.length
    · rw [if_pos hl] at q; cases q; exact (n rfl).elim
    · rw [if_neg hl] at q; cases q
  · rw [if_neg hj] at q; exact h.slot j e q n
theorem EnvOk.wiped {pn : List (Addr × Obj)} {w : Wd} {ρ : DEnv} {σ : L2.St} (h : EnvOk G pn w ρ σ) : ∀ l : List Nat, EnvOk G pn w (wipeD ρ l) σ
  | [] => h
  | i :: r => (EnvOk.wiped h r).forget i
theorem EnvOk.put {pn : List (Addr × Obj)} {w : Wd} {ρ : DEnv} {σ : L2.St} {i : Nat} {d : D} {v : V} (h : EnvOk G pn w ρ σ) (hs : σ[i]? = some (some v)) (r : Rep G w d v) : EnvOk G pn w (ρ.set i (.v d)) σ := by
  refine ⟨by rw [List.length_set]; exact h.len, fun j e q n => ?_, h.glob⟩
  rw [getElem?_set_ite] at q
  by_cases hj : j = i
  · rw [if_pos hj] at q
    by_cases hl : i < ρ.length
    · rw [if_pos hl] at q; cases q; exact ⟨v, by rw [hj]; exact hs, r⟩
    · rw [if_neg hl] at q; cases q
  · rw [if_neg hj] at q; exact h.slot j e q n
theorem ss_seq {a c : S} (sa : SS G pg b a) (sb : SSs G pg b c) : SSs G pg b (.seq a c) := by
  cases a with
  | frz i =>
      intro X ck W xg sg tk sts h
      refine (sb X ck W xg sg tk sts (by cases sts <;> exact h)).imp fun D σ H ⟨w, ρ, p, q⟩ => ?_
      have q' : PostS G (epn X ck) b w ((match ρ[i]? with
        | some (.v (.loc j)) => match w.st[j]? with
          | some (.mu d) => SR.nx (ρ.set i (.v d)) (w.st.set j .dead)
          | _ => .stk
        | some (.v _) => .nx ρ w.st
        | _ => .stk : SR).seq fun ρ st => evS pg b c ρ st) W D := q
      cases hi : ρ[i]? with
      | none => rw [hi] at q'; exact q'.elim
      | some s =>
        rw [hi] at q'
        cases s with
        | no => exact q'.elim
        | x _ _ => exact q'.elim
        | v d =>
          cases d with
          | loc j =>
            dsimp only at q'
            cases hj : w.st[j]? with
            | none => rw [hj] at q'; exact q'.elim
            | some cc =>
              rw [hj] at q'
              cases cc with
              | dead => exact q'.elim
              | lk _ => exact q'.elim
              | mu d =>
                obtain ⟨v, hv, r⟩ := p.env.slot i _ hi (fun z => nomatch z)
                obtain ⟨e1, o1, r1⟩ := freeze (b := b) p.ok hj r
                exact ⟨⟨w.φ, w.st.set j .dead, w.H, w.ex⟩, ρ.set i (.v d), ⟨p.H, o1, by show b ≤ (w.st.set j _).length; rw [List.length_set]; exact p.hb, (p.env.ext e1).put hv r1⟩, PostS.from e1 q'⟩
          | _ => exact ⟨w, ρ, p, q'⟩
  | kill l => exact fun X ck W xg sg tk sts h => (sb X ck W xg sg tk sts (by cases sts <;> exact h)).imp fun D σ H ⟨w, ρ, p, q⟩ => ⟨w, wipeD ρ l, ⟨p.H, p.ok, p.hb, p.env.wiped l⟩, q⟩
  | _ => exact ss_seq0 sa sb (fun _ z => nomatch z) (fun _ z => nomatch z)
theorem ss_skip : SS G pg b .skip := fun X ck W xg sg tk st h => by
  have fin : ∀ D σ H, tS G pg b (epn X ck) W .skip D σ H → D.nx σ H := fun D σ H ⟨w, ρ, p, q⟩ => by
    have q' := PostS.nx_here (D := D) ⟨rfl, p.ok, p.hb, p.env⟩ q
    rw [p.H] at q'; exact q'
  cases st <;> try (exact (Bool.false_ne_true h).elim)
  · rename_i x pos
    cases x <;> try (exact (Bool.false_ne_true h).elim)
    rename_i c k p2
    cases c <;> try (exact (Bool.false_ne_true h).elim)
    exact ps_doc.imp fin
  · exact ps_pass.imp fin
theorem ss_expr {e : E} (se : SE G pg b e) : SS G pg b (.expr e) := fun X ck W xg sg tk st h => by
  cases st <;> try (exact (Bool.false_ne_true h).elim)
  rename_i x pos
  have h' := Bool.and_eq_true_iff.mp h
  refine (ps_expr (se X ck W xg tk x h'.2) (sw_none h'.1 none)).imp fun D σ H ⟨w, ρ, p, q⟩ => ?_
  exact tE.of p (PostS.sr p.env q) fun d w1 v p1 e1 k1 r1 => PostS.nx_here p1 k1
theorem ss_ret {e : E} (se : SE G pg b e) : SS G pg b (.ret e) := fun X ck W xg sg tk st h => by
  cases st <;> try (exact (Bool.false_ne_true h).elim)
  rename_i x pos
  cases x <;> try (exact (Bool.false_ne_true h).elim)
  rename_i x
  refine (ps_ret (se X ck W xg tk x h)).imp fun D σ H ⟨w, ρ, p, q⟩ => ?_
  exact tE.of p (PostS.sr p.env q) fun d w1 v p1 e1 k1 r1 => k1 w1 v rfl p1.ok .refl r1
theorem ss_retN : SS G pg b .retN := fun X ck W xg sg tk st h => by
  cases st <;> try (exact (Bool.false_ne_true h).elim)
  rename_i x pos
  cases x <;> try (exact (Bool.false_ne_true h).elim)
  refine ps_retN.imp fun D σ H ⟨w, ρ, p, q⟩ => ?_
  show D.rt .non H
  rw [← p.H]
  exact q w .non rfl p.ok .refl rfl
theorem ss_brk : SS G pg b .brk := fun X ck W xg sg tk st h => by
  cases st <;> try (exact (Bool.false_ne_true h).elim)
  refine ps_break.imp fun D σ H ⟨w, ρ, p, q⟩ => ?_
  show D.bk σ H
  rw [← p.H]
  exact q w σ rfl p.ok .refl p.env
theorem ss_cnt : SS G pg b .cnt := fun X ck W xg sg tk st h => by
  cases st <;> try (exact (Bool.false_ne_true h).elim)
  refine ps_continue.imp fun D σ H ⟨w, ρ, p, q⟩ => ?_
  show D.ct σ H
  rw [← p.H]
  exact q w σ rfl p.ok .refl p.env
theorem ss_ife {c : E} {a d : S} (tc : ST G pg b c) (sa : SSs G pg b a) (sb : SSs G pg b d) : SS G pg b (.ife c a d) := fun X ck W xg sg tk st h => by
  cases st <;> try (exact (Bool.false_ne_true h).elim)
  rename_i z p q pos
  have h' := Bool.and_eq_true_iff.mp h
  have h1 := Bool.and_eq_true_iff.mp h'.1
  have h2 := Bool.and_eq_true_iff.mp h1.1
  refine (ps_if (tc h2.1 X ck W xg tk z h2.2) (sa X ck W xg sg tk p h1.2) (sb X ck W xg sg tk q h'.2)).imp fun D σ H ⟨w, ρ, p, q⟩ => ?_
  refine tT.of p (PostS.sr p.env q) fun d w1 p1 e1 k1 => ?_
  cases d <;> try (exact k1.elim)
  rename_i t
  refine ⟨t, rfl, ?_⟩
  cases t with
  | true => rw [if_pos rfl]; exact ⟨w1, ρ, p1, k1⟩
  | false => rw [if_neg Bool.false_ne_true]; exact ⟨w1, ρ, p1, k1⟩
/-- a target's reading from the interpreter's -/
theorem tG.of {w : Wd} {t : T} {d : D} {v : V} {ρ ρ' : DEnv} {σ : L2.St} {W : WX} {D : Ends} (p : Pre G pn b w ρ σ w.H) (r : Rep G w d v) (h : asgT t d ρ w.st = some ρ') (q : PostS G pn b w (.nx ρ' w.st) W D) : tG G pn b t v σ w.H D.nx :=
  ⟨w, ρ, d, ρ', p, r, h, fun σ' en _ => q w σ' rfl p.ok .refl en⟩
theorem asg_read {pn : List (Addr × Obj)} {W : WX} {t : T} {e : E} {D : Ends} {σ : L2.St} {H : Hp} (h : tS G pg b pn W (.asg t e) D σ H) : tE G pg b pn W e σ H (fun x H1 => tG G pn b t x σ H1 D.nx) := by
  obtain ⟨w, ρ, p, q⟩ := h
  refine tE.of p (PostS.sr p.env q) fun d w1 v p1 e1 k1 r1 => ?_
  cases ha : asgT t d ρ w1.st with
  | none => simp only [ha] at k1; exact k1.elim
  | some ρ' => simp only [ha] at k1; exact tG.of p1 r1 ha k1
end
end Den
set_option maxHeartbeats 4000000
/-! DStm2: storing, loops, raising, except. -/
namespace Den
open PySem L2

section
variable {G : Gm} {pg : Pg} {b : Nat}
theorem sw_name {X : Cx} {ck : CK} (xg : XG X G pg ck) {y : Str} {py : Pos} {v : Expr} {l : Nat} (h : (noComp v || isLc v) = true) : swapsWith v (some (.Name y py)) l X.env = pure (swB ck y py v) := by
  cases v <;> first
    | rfl
    | (cases h; done)
    | skip
  rename_i elt gs scope pos
  have hb : X.env.blockKind = .function := by unfold Env.blockKind; rw [xg.kind]; rfl
  unfold swapsWith swB
  simp only [hb, Expr.pos, Env.kindOf, xg.sc]
  rfl
theorem loc_of {X : Cx} {ck : CK} (xg : XG X G pg ck) {i : Nat} {x : Str} {pos : Pos} (h : chkT ck (.nm i) (.Name x pos) = true) : X.N[i]? = some x ∧ L2.Loc X.env.scope x ∧ (X.fn x = true ∨ X.env.scope.names.lookup x = some .local) := by
  have h' := Bool.and_eq_true_iff.mp h
  have hl := locB_loc h'.2
  refine ⟨by rw [xg.N]; exact beq_iff_eq.mp h'.1, by rw [xg.sc]; exact hl.imp (fun z => xg.so _ _ (by decide) z) (fun z => xg.so _ _ (by decide) z), hl.elim (fun z => .inr (by rw [xg.sc]; exact xg.so _ _ (by decide) z)) fun z => .inl (xg.cel x z)⟩
/-- what a comprehension's parts give -/
def LcHyp (G : Gm) (pg : Pg) (b : Nat) : E → Prop
  | .lc _ _ _ _ as cnd elt => SA G pg b as ∧ EachE (SE G pg b) as ∧ ST G pg b cnd ∧ SE G pg b elt
  | _ => True
theorem gname_of {pn : List (Addr × Obj)} {i : Nat} {v : V} {σ : L2.St} {H : Hp} {Q : L2.St → Hp → Prop} (h : tG G pn b (.nm i) v σ H Q) : gName i v σ H Q := by
  obtain ⟨w, ρ, d, ρ', p, r, ha, q⟩ := h
  unfold asgT at ha
  split at ha
  · cases ha
    exact q _ (p.env.set i (d := .v d) r) fun vs hv => wipe_set (hv i (by simp [slotsT]))
  · cases ha
theorem lc_shape {ck : CK} {ir : E} {x : Expr} {gs : List Comprehension} {scope : Scope} {pos : Pos} (h : chkE ck ir (.ListComp x gs scope pos) = true) : ∃ m own tg k as cnd elt t it ifs, ir = .lc m own tg k as cnd elt ∧ gs = [⟨t, it, ifs, 0⟩] := by
  unfold chkE at h
  split at h <;> first
    | (rename_i e1 e2; cases e2; exact ⟨_, _, _, _, _, _, _, _, _, _, rfl, rfl⟩)
    | (cases h; done)
    | (rename_i e1 e2 e3; cases e3; done)
theorem sw_par {X : Cx} {ck : CK} (xg : XG X G pg ck) {x y : Str} {px py p p2 : Pos} {k k2 : Nat} {a c : Expr} (hx : X.env.scope.names.lookup x = some .local) (hy : X.env.scope.names.lookup y = some .local) (hne : x ≠ y) (hl : px.line = py.line) (hn : noStr2 a c = true) :
    swappedStores [.Tuple [.Name x px, .Name y py] k p] (.Tuple [a, c] k2 p2) X.env = pure (some [x, y]) := by
  have hb : X.env.blockKind = .function := by unfold Env.blockKind; rw [xg.kind]; rfl
  unfold noStr2 at hn
  simp only [Bool.and_eq_true, Bool.not_eq_true'] at hn
  obtain ⟨⟨⟨n1, n2⟩, n3⟩, n4⟩ := hn
  have kx : X.env.kindOf x = some .local := hx
  have ky : X.env.kindOf y = some .local := hy
  have hany : ∀ f : Expr → Bool, (∀ e, noStar e = true → f e = false) → [a, c].any f = false := fun f hf => by simp [hf a n1, hf c n2]
  have hall : ∀ f : Expr → Bool, (f a && f c) = false → [a, c].all f = false := fun f hf => by simpa using hf
  unfold swappedStores
  dsimp only
  rw [hany _ (fun e he => by cases e <;> first | rfl | cases he), hall _ n3, hall _ n4]
  have hyx : (y == x) = false := beq_eq_false_iff_ne.mpr (Ne.symm hne)
  simp [hb, kx, ky, Expr.pos, hl, hne, hyx, List.eraseDups_cons]
theorem ss_par {t : T} {e : E} {tg v : Expr} {pos : Pos} (ha : ∀ as, e = .tup as → SA G pg b as) {X : Cx} {ck : CK} {W : WX} (xg : XG X G pg ck) (tk : TkB G X W) (h : parC ck t e tg v = true) : PS X (.Assign [tg] v pos) (tS G pg b (epn X ck) W (.asg (.tp t) e)) := by
  unfold parC at h
  split at h
  · rename_i r i j as h1 h2 h3
    have h1 := h1; have h2 := h2; have h3 := h3
    obtain ⟨k, p, k2, p2, rfl, rfl⟩ := xPar_eq h1
    have et := parT_eq h2
    have ee := tupA_eq h3
    subst et ee
    simp only [Bool.and_eq_true, beq_iff_eq, bne_iff_ne, ne_eq, Bool.not_eq_true'] at h
    obtain ⟨⟨⟨⟨⟨⟨⟨⟨⟨g1, g2⟩, g3⟩, g4⟩, g5⟩, g6⟩, g7⟩, g8⟩, g9⟩, g10⟩ := h
    have hx : X.env.scope.names.lookup r.x = some .local := by rw [xg.sc]; exact g6
    have hy : X.env.scope.names.lookup r.y = some .local := by rw [xg.sc]; exact g7
    refine (ps_par (pos := pos) (xg.calm g1) xg.nd (by rw [xg.N]; exact g2) (by rw [xg.N]; exact g3) g4 hx hy (ha _ rfl X ck W xg tk _ g10) (sw_par xg hx hy g5 g8 g9)).imp fun D σ H ⟨w, ρ, p, q⟩ => ?_
    have q' : PostS G (epn X ck) b w ((evA pg b as ρ w.st).sr ρ fun xs st => (if xs.length ≤ LIM then Res.ok (Den.D.tup xs) st else .stk : Res Den.D).sr ρ fun d st => match asgT (.tp (.cons (.nm i) (.cons (.nm j) .nil))) d ρ st with
        | some ρ => .nx ρ st
        | none => .stk) W D := by
      have e : evS pg b (.asg (.tp (.cons (.nm i) (.cons (.nm j) .nil))) (.tup as)) ρ w.st = ((evA pg b as ρ w.st).bind fun xs st => if xs.length ≤ LIM then Res.ok (Den.D.tup xs) st else .stk).sr ρ fun d st => match asgT (.tp (.cons (.nm i) (.cons (.nm j) .nil))) d ρ st with
        | some ρ => .nx ρ st
        | none => .stk := rfl
      rw [e] at q
      cases hr : evA pg b as ρ w.st with
      | ok xs st => rw [hr] at q; exact q
      | exc c fs st => rw [hr] at q; exact q
      | stk => rw [hr] at q; exact q
    refine tA.of p (PostS.sr p.env q') fun ds w1 vs p1 e1 k1 r1 => ?_
    by_cases hlim : ds.length ≤ LIM
    case neg => rw [if_neg hlim] at k1; exact k1.elim
    case pos =>
        rw [if_pos hlim] at k1
        dsimp only [Res.sr] at k1
        cases ds with
        | nil => exact k1.elim
        | cons d1 ds =>
          cases ds with
          | nil =>
            have e0 : asgT (.tp (.cons (.nm i) (.cons (.nm j) .nil))) (.tup [d1]) ρ w1.st = none := by
              show (if i < ρ.length then some (ρ.set i (.v d1)) else none).bind (fun ρ' => none) = none
              split <;> rfl
            rw [e0] at k1; exact k1.elim
          | cons d2 ds =>
            obtain ⟨v1, _, rfl, rv1, v2, vr, rfl, rv2, hv⟩ := r1
            have e0 : asgT (.tp (.cons (.nm i) (.cons (.nm j) .nil))) (.tup (d1 :: d2 :: ds)) ρ w1.st = (if i < ρ.length then some (ρ.set i (.v d1)) else none).bind fun ρ' => (if j < ρ'.length then some (ρ'.set j (.v d2)) else none).bind fun ρ'' => asgTs .nil ds ρ'' w1.st := rfl
            rw [e0] at k1
            by_cases hi : i < ρ.length
            case neg => simp only [if_neg hi, Option.bind_none] at k1; exact k1.elim
            case pos =>
              simp only [if_pos hi, Option.bind_some] at k1
              by_cases hj : j < (ρ.set i (.v d1)).length
              case neg => simp only [if_neg hj, Option.bind_none] at k1; exact k1.elim
              case pos =>
                simp only [if_pos hj, Option.bind_some] at k1
                cases ds with
                | nil =>
                  cases hv
                  exact ⟨v1, v2, rfl, k1 w1 _ rfl p1.ok .refl ((p1.env.set i (d := .v d1) rv1).set j (d := .v d2) rv2)⟩
                | cons _ _ => exact k1.elim
  · cases h
theorem ss_asg {t : T} {e : E} (se : SE G pg b e) (hl : LcHyp G pg b e) (ha : ∀ as, e = .tup as → SA G pg b as) : SS G pg b (.asg t e) := fun X ck W xg sg tk st h => by
  cases t with
  | nil => exact (Bool.false_ne_true h).elim
  | cons _ _ => exact (Bool.false_ne_true h).elim
  | tp t =>
    dsimp only [chkS] at h
    cases hx : xAsgT st with
    | none => rw [hx] at h; cases h
    | some p =>
      obtain ⟨tg, v⟩ := p
      rw [hx] at h
      obtain ⟨es, k, q, pos, ht, rfl⟩ := xAsgT_eq hx
      cases ht
      simp only [Bool.or_eq_true, Bool.and_eq_true] at h
      rcases h with h | h
      case inr => exact ss_par ha xg tk h
      obtain ⟨⟨⟨h1, h2⟩, h3⟩, h4⟩ := h
      refine (ps_asg (se X ck W xg tk v h4) (pg_T (b := b) xg (.tp t) _ h1) (hs := by show swapsWith v (some (.Tuple es k q)) pos.line X.env = pure false; exact sw_none h2 _) (hw := ?_)).imp fun D σ H q => asg_read q
      cases v <;> first | rfl | cases h3
  | nm i =>
    dsimp only [chkS] at h
    cases hx : xAsgN st with
    | none => rw [hx] at h; cases h
    | some p =>
      obtain ⟨y, py, v⟩ := p
      rw [hx] at h
      obtain ⟨pos, rfl⟩ := xAsgN_eq hx
      simp only [Bool.and_eq_true] at h
      obtain ⟨⟨h1, h2⟩, h3⟩ := h
      obtain ⟨hN, hloc, hfn⟩ := loc_of xg h1
      have hsw := sw_name (l := pos.line) xg (y := y) (py := py) h2
      cases hb : swB ck y py v with
      | false =>
        rw [hb] at hsw
        refine (ps_set xg.nd hN hloc (se X ck W xg tk v h3) hsw hfn).imp fun D σ H q => ?_
        obtain ⟨w, ρ, p, q⟩ := asg_read q
        exact ⟨w, ρ, p, q.mono fun d w' o e z u r => gname_of (z u r)⟩
      | true =>
        rw [hb] at hsw
        cases v <;> try (cases hb; done)
        rename_i x gs scope p2
        obtain ⟨m, own, tg, k, as, cnd, elt, t, it, ifs, rfl, rfl⟩ := lc_shape h3
        obtain ⟨tt, L⟩ := lc_ok hl.1 hl.2.1 hl.2.2.1 hl.2.2.2 xg tk h3
        have hyl : X.env.scope.names.lookup y = some .local := by
          simp only [swB, Bool.and_eq_true, beq_iff_eq] at hb
          rw [xg.sc]; exact hb.1.1
        refine (ps_thaw (ps_setLc L.calm xg.nd hN hyl hsw L.pi L.ok L.ptg L.pt L.pe L.fi)).imp fun D σ H q => ?_
        show tLc _ _ _ _ _ σ H _
        rw [ownP_map]
        rw [epn_cold L.hot] at q
        obtain ⟨w, ρ, p, q⟩ := asg_read q
        exact lc_read L.rd L.sl ⟨w, ρ, p, q.mono fun d w' o e z u r => gname_of (z u r)⟩
theorem ss_aug {i : Nat} {o : B} {e : E} (se : SE G pg b e) : SS G pg b (.aug i o e) := fun X ck W xg sg tk st h => by
  cases o <;> try (exact (Bool.false_ne_true h).elim)
  cases st <;> try (exact (Bool.false_ne_true h).elim)
  rename_i tg op v pos
  cases tg <;> try (exact (Bool.false_ne_true h).elim)
  cases op <;> try (exact (Bool.false_ne_true h).elim)
  rename_i x p
  have h' := Bool.and_eq_true_iff.mp h
  obtain ⟨hN, hloc, hfn⟩ := loc_of xg h'.1
  refine (ps_aug xg.nd hN hloc (se X ck W xg tk v h'.2) ip_add hfn).imp fun D σ H ⟨w, ρ, p, q⟩ => ?_
  dsimp only [evS] at q
  cases hi : ρ[i]? with
  | none => simp only [hi] at q; exact q.elim
  | some s =>
    cases s with
    | no => simp only [hi] at q; exact q.elim
    | x c fs => simp only [hi] at q; exact q.elim
    | v d =>
      cases d <;> try (simp only [hi] at q; exact q.elim)
      rename_i n
      simp only [hi] at q
      obtain ⟨v0, hv0, r0⟩ := p.env.slot i _ hi (fun z => nomatch z)
      cases r0
      refine ⟨_, hv0, tE.of p (PostS.sr p.env q) fun d w1 u p1 e1 k1 r1 => ?_⟩
      cases d <;> try (exact k1.elim)
      rename_i n2
      cases r1
      exact ⟨n, n2, rfl, rfl, k1 w1 _ rfl p1.ok .refl (p1.env.set i (d := .v (.int (n + n2))) rfl)⟩
end
end Den
set_option maxHeartbeats 4000000
/-! DStm3: loops, raising, except. -/
namespace Den
open PySem L2

section
variable {G : Gm} {pg : Pg} {b : Nat}
/-- values stay where only what may change changes -/
theorem EnvOk.poke {w w' : Wd} {ρ : DEnv} {σ : L2.St} (hφ : w'.φ = w.φ) (hH : ∀ a, ¬ Tk w a → w'.H a = w.H a) (hl : ∀ a, Tk w' a → Tk w a) (h : EnvOk G [] w ρ σ) : EnvOk G [] w' ρ σ := by
  refine ⟨h.len, fun i d q n => ?_, fun p hp => Rep.poke hφ hH hl _ _ (h.glob p hp)⟩
  obtain ⟨v, h1, h2⟩ := h.slot i d q n
  refine ⟨v, h1, ?_⟩
  cases d with
  | no => trivial
  | v d => exact Rep.poke hφ hH hl _ _ h2
  | x c fs => obtain ⟨a, oe, dd, _, hm, _⟩ := h2; cases hm
theorem EnvOk.any {pn : List (Addr × Obj)} {w : Wd} {ρ : DEnv} {σ : L2.St} (h : EnvOk G [] w ρ σ) : EnvOk G pn w ρ σ := by
  refine ⟨h.len, fun i d q n => ?_, h.glob⟩
  obtain ⟨v, h1, h2⟩ := h.slot i d q n
  refine ⟨v, h1, ?_⟩
  cases d with
  | no => trivial
  | v d => exact h2
  | x c fs => obtain ⟨a, oe, dd, _, hm, _⟩ := h2; cases hm
theorem EnvOk.thS {w w' : Wd} {ρ : DEnv} {σ : L2.St} (hφ : w'.φ = w.φ) (hH : HTh w.H w'.H) (hl : ∀ a, Tk w' a → Tk w a) (h : EnvOk G [] w ρ σ) : EnvOk G [] w' ρ σ := by
  refine ⟨h.len, fun i d q n => ?_, fun p hp => Rep.thS (w' := w) (w4 := w') hφ hH hl (h.glob p hp)⟩
  obtain ⟨v, h1, h2⟩ := h.slot i d q n
  refine ⟨v, h1, ?_⟩
  cases d with
  | no => trivial
  | v d => exact Rep.thS (w' := w) (w4 := w') hφ hH hl h2
  | x c fs => obtain ⟨a, oe, dd, _, hm, _⟩ := h2; cases hm
/-- behind the locks -/
theorem un_end {H0 : Hp} {w0 w2 w : Wd} {lk : Lk} {st' : Sto} (L : LkW G b H0 w0 lk w2) (ok : Ok G w) (e : Ext b w2 w) (hu : unSt w.st lk = some st') :
    ∃ H', Thw H0 w.H H' ∧ Ext b w0 ⟨w.φ, st', H', w.ex⟩ ∧ Ok G ⟨w.φ, st', H', w.ex⟩ ∧ (∀ ρ σ, EnvOk G [] w ρ σ → EnvOk G [] ⟨w.φ, st', H', w.ex⟩ ρ σ) ∧ (∀ d v, Rep G w d v → Rep G ⟨w.φ, st', H', w.ex⟩ d v) := by
  obtain ⟨H', th, e5, o5, hh⟩ := L.un w st' ok e hu
  have tv : ∀ a, Tk ⟨w.φ, st', H', w.ex⟩ a → Tk w a := fun a l => unlock_tk lk hu l
  exact ⟨H', th, e5, o5, fun ρ σ h => EnvOk.thS (w := w) (w' := ⟨w.φ, st', H', w.ex⟩) rfl hh tv h, fun d v r => Rep.thS (w' := w) (w4 := ⟨w.φ, st', H', w.ex⟩) rfl hh tv r⟩

/-! ### for -/
def forB (pg : Pg) (b : Nat) (t : T) (s : S) : D → DEnv → Sto → SR := fun x ρ st => match asgT t x ρ st with
  | some ρ => evS pg b s ρ st
  | none => .stk
theorem evS_for {t : T} {k : IK} {as : E} {s : S} {ρ : DEnv} {st : Sto} : evS pg b (.for t k as s) ρ st = (evA pg b as ρ st).sr ρ fun vs st => match evIt k vs st with
    | some (xs, lk) => (forD (forB pg b t s) xs ρ (lkSt st lk)).un lk
    | none => .stk := rfl
theorem for_read {H0 : Hp} {W : WX} {t : T} {k : IK} {as : E} {s : S} {D : Ends} {σ : L2.St} {H : Hp} (h : tS G pg b [] W (.for t k as s) D σ H) : tFor (tI G pg b [] W H0 k as) (tG G [] b t) (tS G pg b [] W s) (thD H0 D) σ H := by
  obtain ⟨w, ρ, p, q⟩ := h
  rw [evS_for] at q
  refine ⟨w, ρ, p, (PostS.sr p.env q).mono fun vs w1 ok1 e1 q1 => ?_⟩
  have p1 := p.next ok1 e1
  cases hev : evIt k vs w1.st with
  | none => simp only [hev] at q1; exact q1.elim
  | some r =>
    obtain ⟨xs, lk⟩ := r
    simp only [hev] at q1
    refine ⟨xs, lk, rfl, fun J w2 L hJ => ?_⟩
    obtain ⟨Gd, Y, walk, hG, hY⟩ := hJ
    have el := L.ext
    have okl := L.ok
    rw [← L.st] at q1
    have leave : ∀ {w5 : Wd} {ρ5 : DEnv} {σ5 : L2.St}, Ok G w5 → Ext b w2 w5 → EnvOk G [] w5 ρ5 σ5 → PostS G [] b w1 ((SR.nx ρ5 w5.st).un lk) W D → (thD H0 D).nx σ5 w5.H := fun {w5 ρ5 σ5} o5 e5 en5 q5 => by
      cases hu : unSt w5.st lk with
      | none => simp only [SR.un, hu] at q5; exact q5.elim
      | some st' =>
        simp only [SR.un, hu] at q5
        obtain ⟨H', th, e6, o6, f6, _⟩ := un_end L o5 e5 hu
        exact ⟨H', th, q5 ⟨w5.φ, st', H', w5.ex⟩ σ5 rfl o6 e6 (f6 _ _ en5)⟩
    refine for_it walk (fun i σ' H' => ∃ w3 ρ3, w3.H = H' ∧ Ok G w3 ∧ Ext b w2 w3 ∧ EnvOk G [] w3 ρ3 σ' ∧ PostS G [] b w1 ((forD (forB pg b t s) (xs.drop i) ρ3 w3.st).un lk) W D) ?_ ?_ ?_ ?_
    · exact ⟨w2, ρ, rfl, okl, .refl, p1.env.ext el, q1⟩
    · rintro i σ' H' hi ⟨w3, ρ3, rfl, o3, e3, _⟩
      exact hG w3 o3 e3
    · rintro i x σ' H1 H' hi ⟨w3, ρ3, rfl, o3, e3, en3, q3⟩ hy
      obtain ⟨w4, d, rfl, es4, o4, e4, hd, rd⟩ := hY i x H' w3 hi o3 e3 hy
      have hdrop : xs.drop i = d :: xs.drop (i + 1) := by
        obtain ⟨hi', e⟩ := List.getElem?_eq_some_iff.mp hd
        rw [List.drop_eq_getElem_cons hi', e]
      rw [hdrop] at q3
      have q4 := q3
      rw [← es4] at q4
      have e24 := e3.trans e4
      have e14 : Ext b w1 w4 := el.trans e24
      have hb4 : b ≤ w4.st.length := Nat.le_trans p1.hb (e14.len ok1 o4)
      have en4 := en3.ext e4
      unfold forD at q4
      cases ha : asgT t d ρ3 w4.st with
      | none =>
        have z : forB pg b t s d ρ3 w4.st = .stk := by unfold forB; rw [ha]
        rw [z] at q4; exact q4.elim
      | some ρ' =>
        have z : forB pg b t s d ρ3 w4.st = evS pg b s ρ' w4.st := by unfold forB; rw [ha]
        rw [z] at q4
        refine ⟨w4, ρ3, d, ρ', ⟨rfl, o4, hb4, en4⟩, rd, ha, fun σ2 en2 _ => ⟨w4, ρ', ⟨rfl, o4, hb4, en2⟩, ?_⟩⟩
        cases hr : evS pg b s ρ' w4.st with
        | nx ρ5 st5 =>
          rw [hr] at q4
          intro w5 σ5 est o5 e5 en5
          subst est
          exact ⟨w5, ρ5, rfl, o5, e24.trans e5, en5, q4⟩
        | ct ρ5 st5 =>
          rw [hr] at q4
          intro w5 σ5 est o5 e5 en5
          subst est
          exact ⟨w5, ρ5, rfl, o5, e24.trans e5, en5, q4⟩
        | bk ρ5 st5 =>
          rw [hr] at q4
          intro w5 σ5 est o5 e5 en5
          subst est
          exact leave o5 (e24.trans e5) en5 q4
        | rt d5 st5 =>
          rw [hr] at q4
          intro w5 v5 est o5 e5 r5
          subst est
          dsimp only [SR.un] at q4
          cases hu : unSt w5.st lk with
          | none => rw [hu] at q4; exact q4.elim
          | some st' =>
            rw [hu] at q4
            obtain ⟨H', th, e6, o6, _, f6⟩ := un_end L o5 (e24.trans e5) hu
            exact ⟨H', th, q4 ⟨w5.φ, st', H', w5.ex⟩ v5 rfl o6 e6 (f6 _ _ r5)⟩
        | exc c fs ρ5 st5 =>
          rw [hr] at q4
          intro w5 σ5 cls dd est o5 e5 en5 x5
          subst est
          exact q4 w5 σ5 cls dd rfl o5 (e14.trans e5) en5 x5
        | stk => rw [hr] at q4; exact q4.elim
    · rintro σ' H' ⟨w3, ρ3, rfl, o3, e3, en3, q3⟩
      have hnil : xs.drop xs.length = [] := List.drop_length
      rw [hnil] at q3
      exact leave o3 e3 en3 q3
theorem ss_for {t : T} {k : IK} {as : E} {s : S} (sa : SA G pg b as) (se : EachE (SE G pg b) as) (sb : SSs G pg b s) : SS G pg b (.for t k as s) := fun X ck W xg sg tk st h => by
  dsimp only [chkS] at h
  cases hx : xFor st with
  | none => rw [hx] at h; cases h
  | some y =>
    obtain ⟨tg, it, p⟩ := y
    rw [hx] at h
    obtain ⟨pos, rfl⟩ := xFor_eq hx
    simp only [Bool.and_eq_true] at h
    obtain ⟨⟨⟨h1, h2⟩, h3⟩, h4⟩ := h
    have hot : ck.hot = false := by simpa using h1
    cases hi : itA ck k tg it with
    | none => rw [hi] at h2; cases h2
    | some es =>
      rw [hi] at h2
      obtain ⟨pi, fi⟩ := pi_I sa se xg tk (chkI_of hi h2)
      have pt := pg_T (b := b) xg t tg h3
      have ps := sb X ck W xg sg tk p h4
      rw [epn_cold hot] at pi pt ps
      refine (ps_thaw (ps_for (sg.hp hot) (xg.calm hot) pi pt ps fi)).imp fun D σ H q => ?_
      rw [epn_cold hot] at q
      exact for_read q

/-! ### while -/
theorem evS_whl {n : Nat} {c : E} {s : S} {ρ : DEnv} {st : Sto} : evS pg b (.whl n c s) ρ st = whD (evE pg b c) (evS pg b s) n ρ st := rfl
theorem whl_read {W : WX} {n : Nat} {c : E} {s : S} {D : Ends} {σ : L2.St} {H : Hp} (h : tS G pg b [] W (.whl n c s) D σ H) : tWhile (tT G pg b [] W c) (tS G pg b [] W s) D σ H := by
  obtain ⟨w, ρ, p, q⟩ := h
  rw [evS_whl] at q
  refine ⟨fun m σ' H' => ∃ w3 ρ3, Pre G [] b w3 ρ3 σ' H' ∧ PostS G [] b w3 (whD (evE pg b c) (evS pg b s) m ρ3 w3.st) W D, ⟨n, w, ρ, p, q⟩, ?_⟩
  rintro m σ' H' ⟨w3, ρ3, p3, q3⟩
  cases m with
  | zero => exact q3.elim
  | succ m =>
    unfold whD at q3
    refine tT.of p3 (PostS.sr p3.env q3) fun d w4 p4 e4 k4 => ?_
    cases d <;> try (exact k4.elim)
    rename_i t
    refine ⟨t, rfl, ?_⟩
    cases t with
    | false => rw [if_neg Bool.false_ne_true]; exact PostS.nx_here p4 k4
    | true =>
      rw [if_pos rfl]
      refine ⟨fun σ5 H5 => ∃ w5 ρ5, Pre G [] b w5 ρ5 σ5 H5 ∧ PostS G [] b w5 (whD (evE pg b c) (evS pg b s) m ρ5 w5.st) W D, fun σ5 H5 z => ⟨m, Nat.lt_succ_self m, z⟩, w4, ρ3, p4, ?_⟩
      have k5 : PostS G [] b w4 (match evS pg b s ρ3 w4.st with
        | .nx ρ st => whD (evE pg b c) (evS pg b s) m ρ st
        | .ct ρ st => whD (evE pg b c) (evS pg b s) m ρ st
        | .bk ρ st => .nx ρ st
        | r => r) W D := k4
      cases hr : evS pg b s ρ3 w4.st with
      | nx ρ5 st5 =>
        rw [hr] at k5
        intro w5 σ5 est o5 e5 en5
        subst est
        exact ⟨w5, ρ5, ⟨rfl, o5, Nat.le_trans p4.hb (e5.len p4.ok o5), en5⟩, PostS.from e5 k5⟩
      | ct ρ5 st5 =>
        rw [hr] at k5
        intro w5 σ5 est o5 e5 en5
        subst est
        exact ⟨w5, ρ5, ⟨rfl, o5, Nat.le_trans p4.hb (e5.len p4.ok o5), en5⟩, PostS.from e5 k5⟩
      | bk ρ5 st5 => rw [hr] at k5; exact k5
      | rt d5 st5 => rw [hr] at k5; exact k5
      | exc c5 fs5 ρ5 st5 => rw [hr] at k5; exact k5
      | stk => rw [hr] at k5; exact k5.elim
theorem ss_whl {n : Nat} {c : E} {s : S} (tc : ST G pg b c) (sb : SSs G pg b s) : SS G pg b (.whl n c s) := fun X ck W xg sg tk st h => by
  dsimp only [chkS] at h
  cases hx : xWhile st with
  | none => rw [hx] at h; cases h
  | some y =>
    obtain ⟨z, p⟩ := y
    rw [hx] at h
    obtain ⟨pos, rfl⟩ := xWhile_eq hx
    simp only [Bool.and_eq_true] at h
    obtain ⟨⟨⟨h1, h2⟩, h3⟩, h4⟩ := h
    have hot : ck.hot = false := by simpa using h1
    have pt := tc h2 X ck W xg tk z h3
    have ps := sb X ck W xg sg tk p h4
    rw [epn_cold hot] at pt ps
    refine (ps_while (sg.hp hot) pt ps).imp fun D σ H q => ?_
    rw [epn_cold hot] at q
    exact whl_read q

/-! ### raise -/
theorem xd_eq {H : Hp} {a dx : Addr} {C : Addr} {f : Str} {y : V} (ha : H a = none) (hne : dx ≠ a) :
    upd (del (upd (upd (upd H a (exo a C none)) dx (exd dx [(f, y)])) a (exo a C (some dx))) a) dx (.xd [(f, y)]) = upd H dx (.xd [(f, y)]) := by
  funext b
  by_cases h1 : b = dx
  · rw [h1, upd_same, upd_same]
  · rw [upd_ne h1, upd_ne h1]
    by_cases h2 : b = a
    · rw [h2, del_same, ha]
    · rw [del_ne h2, upd_ne h2, upd_ne h1, upd_ne h2]
theorem ss_rais {c : Nat} {as : E} (sa : SA G pg b as) : SS G pg b (.rais c as) := fun X ck W xg sg tk st h => by
  have stk : ∀ {D : Ends} {σ : L2.St} {H : Hp}, (∀ ρ st, evS pg b (.rais c as) ρ st = .stk) → tS G pg b (epn X ck) W (.rais c as) D σ H → False := fun e ⟨w, ρ, p, q⟩ => by
    rw [e] at q; exact q
  cases as <;> try (cases st <;> exact (Bool.false_ne_true h).elim)
  case cons a r =>
    cases r <;> try (cases st <;> exact (Bool.false_ne_true h).elim)
    dsimp only [chkS] at h
    cases hx : xRaise1 st with
    | none => rw [hx] at h; cases h
    | some y =>
      obtain ⟨x, v⟩ := y
      rw [hx] at h
      obtain ⟨p, pos, pos', rfl⟩ := xRaise1_eq hx
      simp only [Bool.and_eq_true, beq_iff_eq, glB, decide_eq_true_eq] at h
      obtain ⟨⟨⟨⟨⟨⟨h1, h0⟩, h2⟩, h3⟩, h4⟩, h5⟩, h6⟩ := h
      have hunc := xg.unc c h0
      have hot : ck.hot = false := by simpa using h1
      cases hf : pg.xf c with
      | none => exact ps_never.imp fun D σ H q => stk (fun ρ st => by dsimp only [evS]; rw [hf]) q
      | some o =>
        cases o with
        | none => exact ps_never.imp fun D σ H q => stk (fun ρ st => by dsimp only [evS]; rw [hf]) q
        | some f =>
          obtain ⟨C, hC, T, _, hno, fI, fd, ps, iC, tI, F1, hb⟩ := xg.mkf c f hf
          obtain ⟨hm, _⟩ := xg.xc x c h4
          rw [hC] at hm
          obtain ⟨hs, hp⟩ := chkA_cons (env := X.env) h6
          refine (ps_raise (xg.calm hot) tk.u (pmk_oex (dvs := []) (ds := []) T iC tI F1 ((xg.room hot).mono h5) hb .nil (tk.passes fun _ _ _ _ z => z.elim) (by unfold Gl Env.kindOf; rw [xg.sc]; exact h2) hm (sa X ck W xg tk _ h6) (okN_d h3) hs (hp pos))).imp fun D σ H ⟨w, ρ, p, q⟩ => ?_
          have q' : PostS G (epn X ck) b w ((evA pg b (.cons a .nil) ρ w.st).sr ρ fun xs st => match one? xs with
            | some x => .exc c [(f, x)] ρ st
            | none => .stk) W D := by
            have e : evS pg b (.rais c (.cons a .nil)) ρ w.st = (evA pg b (.cons a .nil) ρ w.st).sr ρ fun xs st => match one? xs with
              | some x => .exc c [(f, x)] ρ st
              | none => .stk := by
              show (match pg.xf c with
                | some none => SR.stk
                | some (some f) => (evA pg b (.cons a .nil) ρ w.st).sr ρ fun xs st => match one? xs with
                  | some x => .exc c [(f, x)] ρ st
                  | none => .stk
                | none => .stk) = _
              rw [hf]
            rw [← e]; exact q
          refine tA.of p (PostS.sr p.env q') fun ds w1 vs p1 e1 k1 r1 => ?_
          match ds, r1, k1 with
          | [], _, k1 => exact k1.elim
          | _ :: _ :: _, _, k1 => exact k1.elim
          | [d], r1, k1 =>
            obtain ⟨y, _, rfl, ry, rfl⟩ := r1
            refine ⟨by show 1 ≤ 1000; decide, fun a ha => ⟨a, y, rfl, upd_same, fun dx hdx hne => ⟨rfl, dx, [(G.fnm f, y)], upd_same, by rw [upd_ne hne, upd_same], by rw [upd_ne hne] at hdx; exact hdx, ?_⟩⟩⟩
            rw [xd_eq ha hne]
            rw [upd_ne hne] at hdx
            obtain ⟨eg, og, ng⟩ := grow (b := b) p1.ok hdx (.xd [(G.fnm f, y)])
            refine ⟨hC ▸ hunc, ?_⟩
            exact k1 { w1 with H := upd w1.H dx (HO.xd [(G.fnm f, y)]) } σ _ (some dx) rfl og eg (p1.env.ext eg) ⟨hC.symm, .inr ⟨dx, [(G.fnm f, y)], rfl, ng, upd_same, ⟨y, [], rfl, Rep.ext eg _ _ ry, rfl⟩⟩⟩
  dsimp only [chkS] at h
  cases hx : xRaise st with
  | none => rw [hx] at h; cases h
  | some x =>
    rw [hx] at h
    obtain ⟨p, m, k, p2, pos, pos', rfl⟩ := xRaise_eq hx
    simp only [Bool.and_eq_true, beq_iff_eq, glB] at h
    obtain ⟨⟨⟨h1, h2⟩, h3⟩, h4⟩ := h
    cases hf : pg.xf c with
    | none => exact ps_never.imp fun D σ H q => stk (fun ρ st => by dsimp only [evS]; rw [hf]) q
    | some o =>
      cases o with
      | some f => exact ps_never.imp fun D σ H q => stk (fun ρ st => by dsimp only [evS]; rw [hf]; rfl) q
      | none =>
        obtain ⟨C, hC, hr, hk, B, nid, iid, bm, F, hq⟩ := xg.mkx c hf
        obtain ⟨hm, _⟩ := xg.xc x c h4
        rw [hC] at hm
        have mk := L2N.pmk_own (X := X) (m := m) (j := k) (p := p) (p2 := p2) (pos := pos) F hq hm hk hr (by unfold Gl Env.kindOf; rw [xg.sc]; exact h2) (okN_d h3)
        have fin : ∀ D σ H, tS G pg b (epn X ck) W (.rais c .nil) D σ H → W (.ref C) none σ H := fun D σ H ⟨w, ρ, p, q⟩ => by
          have e : evS pg b (.rais c .nil) ρ w.st = .exc c [] ρ w.st := by dsimp only [evS]; rw [hf]
          rw [e] at q
          rw [← p.H]
          exact q w σ _ none rfl p.ok .refl p.env ⟨hC.symm, .inl ⟨rfl, .inl rfl⟩⟩
        cases hot : ck.hot with
        | false => exact (L2N.ps_raise (xg.calm hot) tk.n mk).imp fin
        | true =>
          rw [hot] at h1
          simp only [Bool.not_true, Bool.false_or, Bool.and_eq_true, Bool.false_eq_true, false_or] at h1
          exact (L2H.ps_raiseH (xg.hc h1.1) tk.u mk).imp fun D σ H q => ⟨hC ▸ xg.unc c h1.2, fin D σ H q⟩
end
end Den
set_option maxHeartbeats 4000000
/-! DStm4: attributes stored, items stored. -/
namespace Den
open PySem L2 PySem.Spec PyProof.Rows

section
variable {G : Gm} {pg : Pg} {b : Nat} {w : Wd}
theorem RepF.put {f : Nat} {d : D} {v : V} (r : Rep G w d v) : ∀ {fs : List (Nat × D)} {us : List (Str × V)}, RepF G w fs us → RepF G w (putD f d fs) (putF (G.fnm f) v us)
  | [], _, h => by cases h; exact ⟨v, [], rfl, r, rfl⟩
  | (g, x) :: fs, us, h => by
    obtain ⟨u, ur, rfl, h1, h2⟩ := h
    unfold putD putF
    by_cases e : g = f
    · subst e
      rw [if_pos rfl, if_pos rfl]
      exact ⟨v, ur, rfl, r, h2⟩
    · rw [if_neg e, if_neg fun z => e (G.fin _ _ z)]
      exact ⟨u, _, rfl, h1, RepF.put r h2⟩
theorem RepF.length : ∀ {fs : List (Nat × D)} {us : List (Str × V)}, RepF G w fs us → fs.length = us.length
  | [], _, h => by cases h; rfl
  | (g, x) :: fs, us, h => by obtain ⟨u, ur, rfl, h1, h2⟩ := h; simp [RepF.length h2]
theorem closedF_put {n f : Nat} {d : D} (hd : closed n d = true) : ∀ {fs : List (Nat × D)}, closedF n fs = true → closedF n (putD f d fs) = true
  | [], _ => by simp [putD, closedF, hd]
  | (g, x) :: fs, h => by
    obtain ⟨h1, h2⟩ := Bool.and_eq_true_iff.mp h
    unfold putD
    split
    · exact Bool.and_eq_true_iff.mpr ⟨hd, h2⟩
    · exact Bool.and_eq_true_iff.mpr ⟨h1, closedF_put hd h2⟩
theorem ss_setf {a e : E} {f : Nat} (sa : SE G pg b a) (se : SE G pg b e) : SS G pg b (.setf a f e) := fun X ck W xg sg tk st h => by
  dsimp only [chkS] at h
  cases hx : xSetF st with
  | none => rw [hx] at h; cases h
  | some y =>
    obtain ⟨x, n, v⟩ := y
    rw [hx] at h
    obtain ⟨p1, pos, rfl⟩ := xSetF_eq hx
    simp only [Bool.and_eq_true, beq_iff_eq] at h
    obtain ⟨⟨⟨h1, h2⟩, h3⟩, h4⟩ := h
    have hn := xg.at_ f n h1
    refine (ps_fld (sa X ck W xg tk x h4) (se X ck W xg tk v h3) (sw_none h2 _)).imp fun D σ H ⟨w, ρ, p, q⟩ => ?_
    refine tE.of p (PostS.sr p.env q) fun d w1 v1 p1 e1 k1 r1 => tE.of p1 (PostS.sr p1.env k1) fun o w2 v2 p2 e2 k2 r2 => ?_
    unfold setfD at k2
    cases o <;> try exact k2.elim
    rename_i i
    dsimp only at k2
    cases hi : w2.st[i]? with
    | none => rw [hi] at k2; exact k2.elim
    | some cc =>
      rw [hi] at k2
      cases cc <;> try exact k2.elim
      rename_i c
      cases c <;> try exact k2.elim
      rename_i c fs
      dsimp only at k2
      split at k2
      · rename_i st' hst
        split at hst
        · rename_i hc
          cases hst
          simp only [Bool.and_eq_true, decide_eq_true_eq] at hc
          obtain ⟨⟨c1, c2⟩, c3⟩ := hc
          obtain ⟨ad, rfl, ha⟩ := r2
          obtain ⟨dx, us, z, qf⟩ : RepC G w2 (.ins c fs) ad := p2.ok.cell i _ ad hi ha
          obtain ⟨hC, hA⟩ := xg.fa c f c1
          rw [← hn]
          refine ⟨ad, _, dx, us, rfl, z, hC, hA, by rw [← RepF.length qf]; exact c3, ?_⟩
          have r1' := Rep.ext e2 _ _ r1
          obtain ⟨ew, ow⟩ := write (b := b) (d' := .ins c (putD f d fs)) (o := .ins (G.cls c) dx (putF (G.fnm f) v1 us)) p2.ok hi ha (fun w' e z => ⟨dx, _, z, RepF.put (Rep.ext e _ _ r1') (RepF.ext e _ _ qf)⟩) (fun k hk1 hk2 hk3 => closedF_put (fits_cl c2 hk1 hk2) hk3)
          exact k2 _ σ rfl ow ew (p2.env.ext ew)
        · cases hst
      · exact k2.elim

/-! ### items -/
theorem PSet.or {X : Cx} {r r' : TSet} (h : PSet X r) (h' : PSet X r') : PSet X (fun o i v H Q => r o i v H Q ∨ r' o i v H Q) := by
  intro pins s σ H o i v ov iv u Q I ro ri rv q
  rcases q with q | q
  · exact h pins s σ H o i v ov iv u Q I ro ri rv q
  · exact h' pins s σ H o i v ov iv u Q I ro ri rv q
theorem PGet.or {X : Cx} {r r' : V → V → Hp → VK → Prop} (h : PGet X r) (h' : PGet X r') : PGet X (fun o i H Q => r o i H Q ∨ r' o i H Q) := by
  intro pins s σ H o i ov iv Q I ro ri q
  rcases q with q | q
  · exact h pins s σ H o i ov iv Q I ro ri q
  · exact h' pins s σ H o i ov iv Q I ro ri q
theorem get_lst {X : Cx} : PGet X (rIxL X.K) := by
  intro pins s σ H x y v u Q I rx ry h
  obtain ⟨p, xs, i, z, rfl, rfl, hq, he, q⟩ := h
  cases rx
  obtain ⟨t, rfl⟩ := ry
  obtain ⟨its, r, pl, hz⟩ := I.list hq
  obtain ⟨j, h1, h2, h3, h4, h5⟩ := atI_get he
  obtain ⟨w, ew, rw'⟩ := r.get h2
  have hl := r.length
  have hn := line63
  have fin : EP X pins σ Q w s := ⟨z, H, I, rw', q⟩
  by_cases h0 : 0 ≤ i
  · have hj : i.toNat = j := by
      rw [seqIndex_of h0 h5] at h1
      exact Option.some.inj h1
    exact wpAny_getItem_list pl.isList h0 (by omega) (by rw [hj]; simpa using ew) fin
  · have hj : (i + (its.toArray.size : Int)).toNat = j := by
      rw [seqIndex_neg (by omega) h4] at h1
      rw [List.size_toArray, ← hl]
      exact Option.some.inj h1
    exact wpAny_getItem_list_neg pl.isList (by omega) (by rw [List.size_toArray] <;> omega) (by omega) (by rw [hj]; simpa using ew) fin
def rGetD (kx : Kx) : V → V → Hp → VK → Prop := fun o i H Q => ∃ a v, o = .ref a ∧ DGet kx H a i (some v) ∧ Q v H
theorem get_dic {X : Cx} (hu : X.A.units + 1 < cLine) : PGet X (rGetD (kxX X)) := by
  intro pins s σ H o i ov iv Q I ro ri h
  obtain ⟨a, v, rfl, g, q⟩ := h
  cases ro
  exact d_getItem hu I g ri fun w' s' I' r' => ⟨v, H, I', r', q⟩

/-- an item's store -/
def rSetD (kx : Kx) : TSet := fun o i v H Q => ∃ a H', o = .ref a ∧ DPut kx H a i v H' ∧ Q H'
theorem set_dict {X : Cx} (hu : X.A.units + 1 < cLine) : PSet X (rSetD (kxX X)) := by
  intro pins s σ H o i v ov iv u Q I ro ri rv h
  obtain ⟨a, H', rfl, g, q⟩ := h
  cases ro
  exact d_setItem hu I g ri rv fun s' I' => ⟨H', I', q⟩
def rSetA (kx : Kx) : TSet := fun o i v H Q => rSetL o i v H Q ∨ rSetD kx o i v H Q
theorem setA {X : Cx} (hu : X.A.units + 1 < cLine) : PSet X (rSetA (kxX X)) := PSet.or set_list (set_dict hu)
theorem set_ok (ok : Ok G w) {o k v : V} {od kd vd : D} (ro : Rep G w od o) (rk : Rep G w kd k) (rv : Rep G w vd v) {st' : Sto} (h : setiD w.st b od kd vd = some st') {Q : Hp → Prop} (hq : ∀ w', w'.st = st' → Ok G w' → Ext b w w' → Q w'.H) : rSetA G.kx o k v w.H Q := by
  unfold setiD at h
  split at h
  · rename_i i
    split at h
    · rename_i xs hx
      split at h
      · rename_i j
        split at h
        · rename_i hf
          cases rk
          obtain ⟨a, us, rfl, ha, z, q⟩ := mu_lst ok ro hx
          have fin : ∀ n : Nat, n < xs.length → ixN us.length j = some n → some (w.st.set i (.mu (.lst (xs.set n vd)))) = some st' → rSetA G.kx (.ref a) (.int j) v w.H Q := fun n hn h1 h2 => by
            cases h2
            obtain ⟨e, o'⟩ := write (b := b) (d' := .lst (xs.set n vd)) (o := .lst (us.set n v)) ok hx ha (fun w' e z => ⟨_, z, Reps.set (Rep.ext e _ _ rv) n (Reps.ext e _ _ q)⟩) (fun c hc1 hc2 hc3 => by
              have hc3' : closedL c xs = true := hc3
              show closedL c (xs.set n vd) = true
              rw [closedL_mem] at hc3' ⊢
              exact fun x hx => (List.mem_or_eq_of_mem_set hx).elim (hc3' x) fun z => z ▸ fits_cl hf hc1 hc2)
            exact .inl ⟨a, us, j, n, rfl, rfl, z, h1, hq _ rfl o' e⟩
          have hl := q.length
          split at h
          · rename_i h0
            split at h
            · rename_i h1
              exact fin j.toNat (by omega) (by unfold ixN; rw [if_pos h0, if_pos (by omega)]) h
            · cases h
          · rename_i h0
            split at h
            · rename_i h1
              exact fin (j + xs.length).toNat (by omega) (by unfold ixN; rw [if_neg h0, if_pos (by omega), ← hl]) h
            · cases h
        · cases h
      · cases h
    · rename_i d hne hd
      split at h
      · rename_i hf
        obtain ⟨d', h1, rfl⟩ := Option.map_eq_some_iff.mp h
        obtain ⟨a, rfl, ha⟩ := ro
        have q : RepC G w d a := ok.cell i _ a hd ha
        cases d with
        | dK kvs =>
          obtain ⟨kk, h2, h3⟩ := Option.bind_eq_some_iff.mp h1
          split at h3
          · rename_i hl
            cases h3
            obtain ⟨us, z, q⟩ := q
            have ek := toK_rep rk h2
            subst ek
            obtain ⟨e, o'⟩ := write (b := b) (d' := .dK (dput kvs kk vd)) (o := .dK (putK us kk v)) ok hd ha (fun w' e z => ⟨_, z, RepK.put (Rep.ext e _ _ rv) (RepK.ext e _ _ q)⟩) (fun c hc1 hc2 hc3 => closedK_put (fits_cl hf hc1 hc2) hc3)
            exact .inr ⟨a, _, rfl, DPut.k z (by rw [← q.len, ← lim]; exact hl), hq _ rfl o' e⟩
          · cases h3
        | dT kvs =>
          cases kd <;> try (cases h1; done)
          rename_i ks
          obtain ⟨kk, h2, h3⟩ := Option.bind_eq_some_iff.mp h1
          split at h3
          · rename_i hl
            cases h3
            obtain ⟨us, z, q⟩ := q
            obtain ⟨t, vs, rfl, zt, rs⟩ := rk
            have ek := toKs_reps rs h2
            subst ek
            obtain ⟨e, o'⟩ := write (b := b) (d' := .dT (dput kvs kk vd)) (o := dX G.hs a (putX us kk t v)) ok hd ha (fun w' e z => ⟨_, z, RepT.put (zt.ext e) (Rep.ext e _ _ rv) (RepT.ext e _ _ q)⟩) (fun c hc1 hc2 hc3 => closedT_put (fits_cl hf hc1 hc2) hc3)
            exact .inr ⟨a, _, rfl, DPut.t (kx := G.kx) z q.keys zt.key (by rw [← q.len, ← lim]; exact hl), hq _ rfl o' e⟩
          · cases h3
        | _ => cases h1
      · cases h
    · cases h
  · cases h
theorem pg_sub' {X : Cx} {o i : Expr} {pos : Pos} {to ti : TE} {t : TSet} (ho : PE X o to) (hi : PE X i ti) (hs : PSet X t) (hsl : noSlice i = true) : PG X (.Subscript o i pos) (gSub to ti t) := by
  refine pg_sub ho hi hs fun v => ?_
  cases i <;> first | rfl | cases hsl
theorem ss_seti {a i e : E} (sa : SE G pg b a) (si : SE G pg b i) (se : SE G pg b e) : SS G pg b (.seti a i e) := fun X ck W xg sg tk st h => by
  dsimp only [chkS] at h
  cases hx : xSetI st with
  | none => rw [hx] at h; cases h
  | some y =>
    obtain ⟨x, n, v⟩ := y
    rw [hx] at h
    obtain ⟨p1, pos, rfl⟩ := xSetI_eq hx
    simp only [Bool.and_eq_true, beq_iff_eq] at h
    obtain ⟨⟨⟨⟨h1, h2⟩, h3⟩, h4⟩, h5⟩ := h
    refine (ps_asg (se X ck W xg tk v h3) (pg_sub' (sa X ck W xg tk x h4) (si X ck W xg tk n h5) (setA (by have := xg.hu; omega)) h2) (hs := by show swapsWith v (some (.Subscript x n p1)) pos.line X.env = pure false; exact sw_none h1 _) (hw := ?_)).imp fun D σ H ⟨w, ρ, p, q⟩ => ?_
    · cases v <;> first | rfl | cases h1
    · refine tE.of p (PostS.sr p.env q) fun d w1 v1 p1 e1 k1 r1 => ?_
      refine tE.of p1 (PostS.sr p1.env k1) fun o w2 v2 p2 e2 k2 r2 => tE.of p2 (PostS.sr p2.env k2) fun kd w3 v3 p3 e3 k3 r3 => ?_
      cases hs : setiD w3.st b o kd d with
      | none => simp only [hs] at k3; exact k3.elim
      | some st' =>
        simp only [hs] at k3
        have q9 : rSetA G.kx v2 v3 v1 w3.H (D.nx σ) := set_ok p3.ok (Rep.ext e3 _ _ r2) r3 (Rep.ext (e2.trans e3) _ _ r1) hs fun w' est ok' e' => k3 w' σ est ok' e' (p3.env.ext e')
        rw [← xg.kx] at q9
        exact q9
theorem loc_At (ok : Ok G w) {i : Nat} {v : V} {c : D} (r : Rep G w (.loc i) v) (h : look w.st (.loc i) = some c) : At G w c v ∧ ((∃ xs, c = .lst xs) ∨ (∃ kvs, c = .dK kvs) ∨ (∃ kvs, c = .dT kvs) ∨ ∃ k fs, c = .ins k fs) := by
  refine ⟨At.of ok r h, ?_⟩
  obtain ⟨a, rfl, ha⟩ := r
  have h' : (match w.st[i]? with
    | some (.mu d) => some d
    | some (.lk d) => some d
    | _ => none) = some c := h
  cases hi : w.st[i]? with
  | none => rw [hi] at h'; cases h'
  | some cc =>
    rw [hi] at h'
    have q := ok.cell i cc a hi ha
    cases cc with
    | dead => cases h'
    | mu d =>
      cases h'
      have q : RepC G w c a := q
      cases c <;> first | exact q.elim | exact .inl ⟨_, rfl⟩ | exact .inr (.inl ⟨_, rfl⟩) | exact .inr (.inr (.inl ⟨_, rfl⟩)) | exact .inr (.inr (.inr ⟨_, _, rfl⟩))
    | lk d =>
      cases h'
      have q : RepL G w c a := q
      cases c <;> first | exact q.elim | exact .inl ⟨_, rfl⟩ | exact .inr (.inl ⟨_, rfl⟩) | exact .inr (.inr (.inl ⟨_, rfl⟩)) | exact .inr (.inr (.inr ⟨_, _, rfl⟩))
theorem get_ok (ok : Ok G w) {o k : V} {od kd : D} (ro : Rep G w od o) (rk : Rep G w kd k) {W : WX} {σ : L2.St} {Q : VK} (h : Post G b w (idxL od kd w.st) W σ (KV1 G Q)) : rIxL G.K o k w.H Q ∨ rGetD G.kx o k w.H Q := by
  unfold idxL at h
  cases od <;> try exact h.elim
  rename_i i
  dsimp only at h
  unfold idxD at h
  split at h
  · rename_i c hl
    obtain ⟨a, hc⟩ := loc_At ok ro hl
    split at h
    · rename_i d hd
      have q : ∀ v, Rep G w d v → Q v w.H := h.here ok
      have dicts : (dlook c kd).bind id = some d → rIxL G.K o k w.H Q ∨ rGetD G.kx o k w.H Q := fun e => by
        cases ho : dlook c kd with
        | none => rw [ho] at e; cases e
        | some oo =>
          rw [ho] at e
          have e' : oo = some d := e
          subst e'
          obtain ⟨p, r, rfl, g, z⟩ := dlook_get ok a rk ho
          rcases z with ⟨z, _⟩ | ⟨d', z, e1, rfl, e3⟩
          · cases z
          · cases e1
            exact .inr ⟨p, z, rfl, g, q _ e3⟩
      rcases hc with ⟨xs, rfl⟩ | ⟨kvs, rfl⟩ | ⟨kvs, rfl⟩ | ⟨kk, fs, rfl⟩
      · cases a with
        | lst z r =>
          dsimp only [idxC] at hd
          split at hd
          · cases rk
            obtain ⟨v, e1, e2⟩ := r.ix hd
            exact .inl ⟨_, _, _, v, rfl, rfl, SqL.of z, e1, q v e2⟩
          · cases hd
      · exact dicts hd
      · exact dicts hd
      · cases hd
    · exact h.elim
  · exact h.elim
theorem ss_augi {a i e : E} {o : B} (sa : SE G pg b a) (si : SE G pg b i) (se : SE G pg b e) : SS G pg b (.augi a i o e) := fun X ck W xg sg tk st h => by
  cases o <;> try (cases st <;> exact (Bool.false_ne_true h).elim)
  dsimp only [chkS] at h
  cases hx : xAugI st with
  | none => rw [hx] at h; cases h
  | some y =>
    obtain ⟨x, n, v⟩ := y
    rw [hx] at h
    obtain ⟨p1, pos, rfl⟩ := xAugI_eq hx
    simp only [Bool.and_eq_true, beq_iff_eq] at h
    obtain ⟨⟨⟨h1, h2⟩, h3⟩, h4⟩ := h
    have hu : X.A.units + 1 < cLine := by have := xg.hu; omega
    refine (ps_augS (sa X ck W xg tk x h2) (si X ck W xg tk n h3) (PGet.or get_lst (get_dic hu)) (se X ck W xg tk v h4) ip_add (setA hu) (fun ov iv new => by cases n <;> first | rfl | cases h1)).imp fun D σ H ⟨w, ρ, p, q⟩ => ?_
    refine tE.of p (PostS.sr p.env q) fun od w1 v1 p1 e1 k1 r1 => tE.of p1 (PostS.sr p1.env k1) fun kd w2 v2 p2 e2 k2 r2 => ?_
    have k2' := PostS.sr p2.env k2
    show rIxL X.K v1 v2 w2.H _ ∨ rGetD (kxX X) v1 v2 w2.H _
    rw [xg.kx, xg.K]
    refine get_ok (b := b) p2.ok (Rep.ext e2 _ _ r1) r2 (k2'.mono fun u w3 ok3 e3 k3 uv ru => ?_)
    have p3 := p2.next ok3 e3
    refine tE.of p3 (PostS.sr p3.env k3) fun d4 w4 v4 p4 e4 k4 r4 => ?_
    cases u <;> try exact k4.elim
    rename_i m
    cases d4 <;> try exact k4.elim
    rename_i m'
    cases ru
    cases r4
    refine ⟨m, m', rfl, rfl, ?_⟩
    dsimp only at k4
    cases hs : setiD w4.st b od kd (.int (m + m')) with
    | none => rw [hs] at k4; exact k4.elim
    | some st' =>
      rw [hs] at k4
      exact set_ok p4.ok (Rep.ext (e2.trans (e3.trans e4)) _ _ r1) (Rep.ext (e3.trans e4) _ _ r2) (vd := .int (m + m')) rfl hs fun w' est ok' e' => k4 w' σ est ok' e' (p4.env.ext e')
/-! ### new lists that stay -/
theorem own_bind {α : Type} (r : Res α) (f : α → Sto → Res D) : ownD (r.bind f) = r.bind fun d st => ownD (f d st) := by cases r <;> rfl
theorem own_op {o : B} {a c : E} {ρ : DEnv} {W : WX} {σ : L2.St} {Q : VK} {w : Wd} (q : Post G b w (evE pg b (.own (.bin o a c)) ρ w.st) W σ (KV1 G Q)) :
    Post G b w ((evE pg b a ρ w.st).bind fun d st => (evE pg b c ρ st).bind fun e st => ownD (opB o d e st)) W σ (KV1 G Q) := by
  have e : evE pg b (.own (.bin o a c)) ρ w.st = ownD ((evE pg b a ρ w.st).bind fun d st => (evE pg b c ρ st).bind fun e st => opB o d e st) := rfl
  rw [e, own_bind] at q
  simp only [own_bind] at q
  exact q
theorem new_own {w : Wd} {xs : List D} {us : List V} {W : WX} {σ : L2.St} {Q : VK} (ok : Ok G w) (hb : b ≤ w.st.length) (q : Reps G w xs us) (k : Post G b w (.ok (.loc w.st.length) (w.st ++ [.mu (.lst xs)])) W σ (KV1 G Q)) : ∀ p, w.H p = none → Q (.ref p) (upd w.H p (.lst us)) := fun ad had => by
  obtain ⟨e3, ok3, r3⟩ := alloc ok hb had (.lst _) (.lst _) (fun w' e' z => ⟨_, z, Reps.ext e' _ _ q⟩) (by
    have := Reps.closed _ _ q
    rw [ok.len] at this; exact this)
  exact k _ rfl ok3 e3 _ r3
theorem own_lst {as : E} {ρ : DEnv} {W : WX} {σ : L2.St} {Q : VK} {w : Wd} (q : Post G b w (evE pg b (.own (.pr .lst as)) ρ w.st) W σ (KV1 G Q)) :
    Post G b w ((evA pg b as ρ w.st).bind fun ds st => ownD (prim .lst ds st)) W σ (KV1 G Q) := by
  have e : evE pg b (.own (.pr .lst as)) ρ w.st = ownD ((evA pg b as ρ w.st).bind fun ds st => prim .lst ds st) := rfl
  rw [e, own_bind] at q
  exact q
theorem s_ownC {as : E} (sa : SA G pg b as) {X : Cx} {ck : CK} {W : WX} (xg : XG X G pg ck) (tk : TkB G X W) {g : Expr} {es : List Expr} {ks} {pos} (h : chkE ck (.pr .lst as) (.Call g es ks pos) = true) : PE X (.Call g es ks pos) (tE G pg b (epn X ck) W (.own (.pr .lst as))) := by
  cases g <;> try (exact (Bool.false_ne_true h).elim)
  rename_i x xp
  cases ks <;> try (exact (Bool.false_ne_true h).elim)
  simp only [chkE, isBi, Bool.and_eq_true, beq_iff_eq, Bool.not_eq_true', glB] at h
  obtain ⟨⟨⟨⟨h1, h2⟩, h3⟩, ⟨⟨h4, h5⟩, h6⟩⟩, h7⟩ := h
  cases es with
  | nil => cases h2
  | cons e es =>
    have hm := xg.bi x h6
    have hg : Gl X x := by unfold Gl Env.kindOf; rw [xg.sc]; exact h4
    have hr : CallR X (pyP .lst) (rP G.kx .lst) := xg.kx ▸ P_R (xg.calm h1) .lst
    obtain ⟨hs, hp⟩ := chkA_cons (env := X.env) h7
    have hv : bootBuiltins x = some (pyP .lst) := by rw [h3]; exact boot_P .lst
    refine (pe_callTy hr hg hm hv (sa X ck W xg tk _ h7) (okN_n h5) (okN_d h5) hs (hp pos)).imp fun σ H Q ⟨w, ρ, p, q⟩ => ?_
    refine tA.of p (own_lst q).bind fun ds w1 vs p1 e1 k1 r1 => ?_
    dsimp only [prim] at k1
    split at k1
    · obtain ⟨v, rfl, q1⟩ := one_rep r1
      split at k1
      · rename_i xs hi
        obtain ⟨us, r2, a, rfl, z⟩ := items_seq p1.ok q1 hi
        exact ⟨a, us, rfl, z, new_own p1.ok p1.hb r2 k1⟩
      · exact k1.elim
    · exact k1.elim
theorem s_own {a : E} (h1 : ∀ o x y, a = .bin o x y → SE G pg b x ∧ SE G pg b y) (hpo : ∀ as, a = .pr .lst as → SA G pg b as) : SE G pg b (.own a) := fun X ck W xg tk e h => by
  cases e <;> try (exact (Bool.false_ne_true h).elim)
  case Call g es ks pos =>
    obtain ⟨ho, h3⟩ := Bool.and_eq_true_iff.mp h
    cases a <;> try (exact (Bool.false_ne_true ho).elim)
    rename_i f as
    cases f <;> try (exact (Bool.false_ne_true ho).elim)
    exact s_ownC (hpo _ rfl) xg tk h3
  clear hpo
  rename_i x op y pos
  obtain ⟨ho, h2⟩ := Bool.and_eq_true_iff.mp h
  cases a <;> try (exact (Bool.false_ne_true ho).elim)
  rename_i o a c
  obtain ⟨sa, sc⟩ := h1 _ _ _ rfl
  cases o <;> try (exact (Bool.false_ne_true ho).elim)
  · simp only [chkE, Bool.and_eq_true, beq_iff_eq] at h2
    obtain ⟨⟨rfl, h3⟩, h4⟩ := h2
    refine (pe_op op_cat (sa X ck W xg tk x h3) (sc X ck W xg tk y h4)).imp fun σ H Q ⟨w, ρ, p, q⟩ => ?_
    refine tE.of p (own_op q).bind fun d1 w1 v1 p1 e1 k1 r1 => tE.of p1 k1.bind fun d2 w2 v2 p2 e2 k2 r2 => ?_
    dsimp only [opB] at k2
    split at k2
    · rename_i c1 c2 l1 l2
      have a1 := At.of p2.ok (Rep.ext e2 _ _ r1) l1
      have a2 := At.of p2.ok r2 l2
      unfold addC at k2
      split at k2
      · exact k2.elim
      · split at k2 <;> exact k2.elim
      · split at k2 <;> exact k2.elim
      · split at k2
        · rename_i hl
          cases a1 with
          | lst z1 q1 =>
            cases a2 with
            | lst z2 q2 => exact ⟨_, _, _, _, rfl, rfl, z1, z2, by rw [← q1.length, ← q2.length, ← lim]; exact hl, new_own p2.ok p2.hb (q1.append q2) k2⟩
        · exact k2.elim
      · exact k2.elim
    · exact k2.elim
  · simp only [chkE, Bool.and_eq_true, beq_iff_eq] at h2
    obtain ⟨⟨rfl, h3⟩, h4⟩ := h2
    refine (pe_op op_rep (sa X ck W xg tk x h3) (sc X ck W xg tk y h4)).imp fun σ H Q ⟨w, ρ, p, q⟩ => ?_
    refine tE.of p (own_op q).bind fun d1 w1 v1 p1 e1 k1 r1 => tE.of p1 k1.bind fun d2 w2 v2 p2 e2 k2 r2 => ?_
    dsimp only [opB] at k2
    split at k2
    · rename_i c1 c2 l1 l2
      have a1 := At.of p2.ok (Rep.ext e2 _ _ r1) l1
      have a2 := At.of p2.ok r2 l2
      unfold mulC at k2
      split at k2
      · split at k2 <;> exact k2.elim
      · split at k2
        · rename_i hm
          obtain ⟨m1, m2, m3⟩ := hm
          cases a1 with
          | lst z1 q1 =>
            cases a2
            exact ⟨_, _, _, rfl, rfl, z1, by omega, by omega, by rw [← q1.length, ← lim]; exact m3, new_own p2.ok p2.hb (q1.replicate _) k2⟩
        · exact k2.elim
      · exact k2.elim
    · exact k2.elim
end
end Den
set_option maxHeartbeats 4000000
/-! DTry: except. -/
namespace Den
open PySem L2

section
variable {G : Gm} {pg : Pg} {b : Nat}
theorem xg_tr {X : Cx} {ck : CK} (xg : XG X G pg ck) (hr : ck.rz = false) (pn : List (Addr × Obj)) (xe : Value → Shared → Prop) : XG (X.tr pn xe) G pg ck :=
  { xg with hc := fun h => by rw [hr] at h; cases h }
theorem xg_suite {X : Cx} {ck : CK} (xg : XG X G pg ck) (a : Addr) (pn : List (Addr × Obj)) : XG (X.suite a pn) G pg ck.heat :=
  { xg with hc := (fun h => nomatch h), calm := (fun h => nomatch h), room := (fun h => nomatch h) }
theorem xg_suiteX {X : Cx} {ck : CK} (xg : XG X G pg ck) (a : Addr) (pn : List (Addr × Obj)) (hot : L2H.HotC (L2H.suiteX X a pn)) : XG (L2H.suiteX X a pn) G pg ck.heatR :=
  { xg with hc := (fun _ => hot), calm := (fun h => nomatch h), room := (fun h => nomatch h) }
theorem names_tc {X : Cx} {ck : CK} (xg : XG X G pg ck) {t : TC} {x : Str} {xp : Pos} (h : chkTC ck t (.Name x xp) = true) : Names X x (tcv G t) := by
  cases t with
  | cl c => exact (Bool.false_ne_true h).elim
  | ty t =>
    have h' := Bool.and_eq_true_iff.mp h
    obtain ⟨hg, hm, ho⟩ := bi_range xg h'.1
    exact ⟨hg, okN_d ho, .inr ⟨hm, by rw [beq_iff_eq.mp h'.2]; exact boot_ty t, okN_n ho⟩⟩
  | ec c =>
    have h' := Bool.and_eq_true_iff.mp h
    have h1 := Bool.and_eq_true_iff.mp h'.1
    exact ⟨by unfold Gl Env.kindOf; rw [xg.sc]; exact beq_iff_eq.mp h1.1, okN_d h1.2, .inl (xg.xc x c (beq_iff_eq.mp h'.2)).1⟩
/-- behind a suite nothing holds the exception -/
theorem env_gone {pn : List (Addr × Obj)} {w : Wd} {ρ : DEnv} {σ : L2.St} (h : EnvOk G pn w ρ σ) : EnvOk G [] w (goneD ρ none) σ := by
  refine ⟨by show (ρ.map _).length = _; rw [List.length_map]; exact h.len, fun i d q n => ?_, h.glob⟩
  have q' : (ρ.map fun o => match o with
    | Sl.x _ _ => Sl.no
    | o => o)[i]? = some d := q
  rw [List.getElem?_map] at q'
  cases hi : ρ[i]? with
  | none => rw [hi] at q'; cases q'
  | some o =>
    rw [hi] at q'
    cases o with
    | no => cases q'; exact (n rfl).elim
    | x c fs => cases q'; exact (n rfl).elim
    | v e =>
      cases q'
      obtain ⟨v, h1, h2⟩ := h.slot i _ hi (fun z => nomatch z)
      exact ⟨v, h1, h2⟩
theorem env_gone1 {pn : List (Addr × Obj)} {w : Wd} {ρ : DEnv} {σ : L2.St} (i : Nat) (h : EnvOk G pn w ρ σ) : EnvOk G [] w (goneD ρ (some i)) (σ.set i none) := (env_gone h).unset i

/-- what a suite gives, at the exception a of the class cls -/
def tSui (G : Gm) (pg : Pg) (b : Nat) (W : WX) (s : S) (a : Addr) (cls : Value) (d : Option Addr) : TS := fun D σ H => ∀ oe pn, Zc cls d oe → (∃ vs, oe.data = .fields vs) → tS G pg b ((a, oe) :: pn) W s D σ H
/-- what the clauses are read as -/
def claOf (G : Gm) (pg : Pg) (b : Nat) (W : WX) : S → List Cla
  | .exc t n s more => ⟨tcv G t, n, false, tSui G pg b WF s⟩ :: claOf G pg b W more
  | .excR t s more => ⟨tcv G t, none, true, tSui G pg b W s⟩ :: claOf G pg b W more
  | _ => []
/-- what the suites give -/
def ExcHyp (G : Gm) (pg : Pg) (b : Nat) : S → Prop
  | .exc _ _ s more => SSs G pg b s ∧ ExcHyp G pg b more
  | .excR _ s more => SSs G pg b s ∧ ExcHyp G pg b more
  | _ => True
theorem hd_ok {X : Cx} {ck : CK} {W : WX} (xg : XG X G pg ck) (sg : SG X ck) : ∀ {h : S} {hds : List ExceptHandler}, ExcHyp G pg b h → chkH ck h hds = true → HdG G X W hds (claOf G pg b W h)
  | .skip, [], _, _ => .nil
  | .skip, _ :: _, _, h => (Bool.false_ne_true h).elim
  | .exc t n s more, [], _, h => (Bool.false_ne_true h).elim
  | .excR t s more, [], _, h => (Bool.false_ne_true h).elim
  | .exc t n s more, hd :: r, e, h => by
    obtain ⟨h1, h2⟩ := Bool.and_eq_true_iff.mp h
    have ih := hd_ok (W := W) xg sg e.2 h2
    cases hx : xHd hd with
    | none => rw [hx] at h1; cases h1
    | some y =>
      rw [hx] at h1
      obtain ⟨pos, rfl⟩ := xHd_eq hx
      obtain ⟨x, xp, yn, b0, su⟩ := y
      simp only [Bool.and_eq_true] at h1
      obtain ⟨⟨h3, h4⟩, h5⟩ := h1
      have hn := names_tc xg h3
      have hsu : ∀ (a : Addr) (oe : Obj) (cls : Value) (d : Option Addr) (pn : List (Addr × Obj)), Zc cls d oe → (∃ vs, oe.data = .fields vs) → PSs (X.suite a ((a, oe) :: pn)) (b0 :: su) (tSui G pg b WF s a cls d) := fun a oe cls d pn hz hf =>
        (e.1 _ _ WF (xg_suite xg a ((a, oe) :: pn)) ⟨sg.hs, sg.hf, (fun z => nomatch z), fun z => nomatch z⟩ tk_no (b0 :: su) h5).imp fun D σ H q => q oe pn hz hf
      match n, yn, h4 with
      | none, none, _ => exact .only hn hsu ih
      | some i, some m, h4 =>
        simp only [Bool.and_eq_true, beq_iff_eq] at h4
        exact .as_ xg.nd (by rw [xg.N]; exact h4.1) (by unfold Env.kindOf; rw [xg.sc]; exact xg.so _ _ (by decide) h4.2) hn hsu ih
      | none, some _, h4 => cases h4
      | some _, none, h4 => cases h4
  | .excR t s more, hd :: r, e, h => by
    obtain ⟨h1, h2⟩ := Bool.and_eq_true_iff.mp h
    have ih := hd_ok (W := W) xg sg e.2 h2
    cases hx : xHd hd with
    | none => rw [hx] at h1; cases h1
    | some y =>
      rw [hx] at h1
      obtain ⟨pos, rfl⟩ := xHd_eq hx
      obtain ⟨x, xp, yn, b0, su⟩ := y
      simp only [Bool.and_eq_true, Option.isNone_iff_eq_none] at h1
      obtain ⟨⟨h3, rfl⟩, h5⟩ := h1
      exact .rais (names_tc xg h3) (fun a oe cls d pn hz hf tk hot =>
        (e.1 _ _ W (xg_suiteX xg a ((a, oe) :: pn) hot) ⟨sg.hs, sg.hf, (fun z => nomatch z), fun z => nomatch z⟩ tk (b0 :: su) h5).imp fun D σ H q => q oe pn hz hf) ih
  | .seq _ _, _, _, h | .expr _, _, _, h | .asg _ _, _, _, h | .seti _ _ _, _, _, h | .setf _ _ _, _, _, h | .aug _ _ _, _, _, h | .augi _ _ _ _, _, _, h | .ret _, _, _, h | .retN, _, _, h | .ife _ _ _, _, _, h | .whl _ _ _, _, _, h | .for _ _ _ _, _, _, h
  | .brk, _, _, h | .cnt, _, _, h | .rais _ _, _, _, h | .try _ _ _, _, _, h | .frz _, _, _, h | .kill _, _, _, h => by
    unfold chkH at h
    cases h
/-- a suite's end -/
theorem sui_read {W W' : WX} {i : Option Nat} {ss : S} {D : Ends} {w1 : Wd} {ρ2 : DEnv} {oe : Obj} {pn : List (Addr × Obj)} {a : Addr} {b : Nat}
    (q : PostS G [] b w1 ((evS pg b ss ρ2 w1.st).gone i) W D) : PostS G ((a, oe) :: pn) b w1 (evS pg b ss ρ2 w1.st) W' (endsG D i) := by
  cases hr : evS pg b ss ρ2 w1.st with
  | nx ρ3 st2 =>
    rw [hr] at q
    cases i with
    | none => exact fun w2 σ2 est o2 e2 en2 => q w2 _ est o2 e2 (env_gone en2)
    | some i => exact fun w2 σ2 est o2 e2 en2 => q w2 _ est o2 e2 (env_gone1 i en2)
  | bk ρ3 st2 =>
    rw [hr] at q
    cases i with
    | none => exact fun w2 σ2 est o2 e2 en2 => q w2 _ est o2 e2 (env_gone en2)
    | some i => exact fun w2 σ2 est o2 e2 en2 => q w2 _ est o2 e2 (env_gone1 i en2)
  | ct ρ3 st2 =>
    rw [hr] at q
    cases i with
    | none => exact fun w2 σ2 est o2 e2 en2 => q w2 _ est o2 e2 (env_gone en2)
    | some i => exact fun w2 σ2 est o2 e2 en2 => q w2 _ est o2 e2 (env_gone1 i en2)
  | rt d2 st2 =>
    rw [hr] at q
    cases i with
    | none => exact fun w2 v est o2 e2 r2 => q w2 v est o2 e2 r2
    | some i => exact fun w2 v est o2 e2 r2 => q w2 v est o2 e2 r2
  | exc c2 fs2 ρ3 st2 => rw [hr] at q; exact q.elim
  | stk => rw [hr] at q; exact q.elim
theorem suiR_read {W : WX} {ss : S} {D : Ends} {w1 : Wd} {ρ2 : DEnv} {oe : Obj} {pn : List (Addr × Obj)} {a : Addr} {b : Nat}
    (q : PostS G [] b w1 ((evS pg b ss ρ2 w1.st).goneR) W D) : PostS G ((a, oe) :: pn) b w1 (evS pg b ss ρ2 w1.st) W D := by
  cases hr : evS pg b ss ρ2 w1.st with
  | nx ρ3 st2 => rw [hr] at q; exact fun w2 σ2 est o2 e2 en2 => q w2 _ est o2 e2 (env_gone en2)
  | bk ρ3 st2 => rw [hr] at q; exact fun w2 σ2 est o2 e2 en2 => q w2 _ est o2 e2 (env_gone en2)
  | ct ρ3 st2 => rw [hr] at q; exact fun w2 σ2 est o2 e2 en2 => q w2 _ est o2 e2 (env_gone en2)
  | rt d2 st2 => rw [hr] at q; exact fun w2 v est o2 e2 r2 => q w2 v est o2 e2 r2
  | exc c2 fs2 ρ3 st2 => rw [hr] at q; exact fun w2 σ2 cls dd est o2 e2 en2 x2 => q w2 σ2 cls dd est o2 e2 (env_gone en2) x2
  | stk => rw [hr] at q; exact q.elim
theorem hd_read {X : Cx} {ck : CK} {W : WX} (xg : XG X G pg ck) {D : Ends} {c : Nat} {fs : List (Nat × Den.D)} {ρ : DEnv} {σ : L2.St} {w1 : Wd} {cls : Value} {dd : Option Addr} (o1 : Ok G w1) (hb1 : b ≤ w1.st.length) (en1 : EnvOk G [] w1 ρ σ) (x1 : ExcOk G w1 c fs cls dd) :
    ∀ {h : S}, PostS G [] b w1 (evH pg b h c fs ρ w1.st) W D → wGen G W D (claOf G pg b W h) cls dd σ w1.H
  | .skip, q => q w1 σ cls dd rfl o1 .refl en1 x1
  | .exc t n s more, q => by
    have q' : PostS G [] b w1 (match (generalizing := false) pg.sub c t with
      | some true => (match (generalizing := false) n with
         | some i => (evS pg b s (ρ.set i (.x c fs)) w1.st).gone (some i)
         | none => (evS pg b s ρ w1.st).gone none)
      | some false => evH pg b more c fs ρ w1.st
      | none => .stk) W D := q
    cases hs : pg.sub c t with
    | none => rw [hs] at q'; exact q'.elim
    | some r =>
      rw [hs] at q'
      have hm := xg.sub c t r hs
      rw [xg.K, ← x1.1] at hm
      refine ⟨r, hm, fun hr => ⟨(fun z => nomatch z), fun a ha oe pn hz hf => ?_⟩, fun hr => ?_⟩
      · subst hr
        dsimp only at q'
        cases n with
        | none => exact ⟨w1, ρ, ⟨rfl, o1, hb1, en1.any⟩, sui_read q'⟩
        | some i => exact ⟨w1, ρ.set i (.x c fs), ⟨rfl, o1, hb1, (en1.any (pn := (a, oe) :: pn)).set i (d := .x c fs) ⟨a, oe, dd, rfl, List.mem_cons_self, x1.1 ▸ hz, hf, (x1.1 ▸ x1.2)⟩⟩, sui_read q'⟩
      · subst hr
        exact hd_read xg o1 hb1 en1 x1 q'
  | .excR t s more, q => by
    have q' : PostS G [] b w1 (match (generalizing := false) pg.sub c t with
      | some true => if pg.cln c then (evS pg b s ρ w1.st).goneR else .stk
      | some false => evH pg b more c fs ρ w1.st
      | none => .stk) W D := q
    cases hs : pg.sub c t with
    | none => rw [hs] at q'; exact q'.elim
    | some r =>
      rw [hs] at q'
      have hm := xg.sub c t r hs
      rw [xg.K, ← x1.1] at hm
      refine ⟨r, hm, fun hr => ?_, fun hr => ?_⟩
      · subst hr
        dsimp only at q'
        cases hc : pg.cln c with
        | false => rw [hc] at q'; exact q'.elim
        | true =>
          rw [hc, if_pos rfl] at q'
          exact ⟨fun _ => x1.1 ▸ xg.cln c hc, fun a ha oe pn hz hf => ⟨w1, ρ, ⟨rfl, o1, hb1, en1.any⟩, suiR_read q'⟩⟩
      · subst hr
        exact hd_read xg o1 hb1 en1 x1 q'
  | .seq _ _, q | .expr _, q | .asg _ _, q | .seti _ _ _, q | .setf _ _ _, q | .aug _ _ _, q | .augi _ _ _ _, q | .ret _, q | .retN, q | .ife _ _ _, q | .whl _ _ _, q | .for _ _ _ _, q
  | .brk, q | .cnt, q | .rais _ _, q | .try _ _ _, q | .frz _, q | .kill _, q => q.elim
theorem try_read {X : Cx} {ck : CK} (xg : XG X G pg ck) {W : WX} {sb h se : S} {D : Ends} {σ : L2.St} {H : Hp} (q : tS G pg b [] W (.try sb h se) D σ H) :
    tS G pg b [] (wGen G W D (claOf G pg b W h)) sb { D with nx := tS G pg b [] W se D } σ H := by
  obtain ⟨w, ρ, p, q⟩ := q
  refine ⟨w, ρ, p, ?_⟩
  have q' : PostS G [] b w (match evS pg b sb ρ w.st with
    | .nx ρ st => evS pg b se ρ st
    | .exc c fs ρ st => evH pg b h c fs ρ st
    | r => r) W D := q
  cases hr : evS pg b sb ρ w.st with
  | nx ρ1 st1 =>
    rw [hr] at q'
    intro w1 σ1 est o1 e1 en1
    subst est
    exact ⟨w1, ρ1, ⟨rfl, o1, Nat.le_trans p.hb (e1.len p.ok o1), en1⟩, PostS.from e1 q'⟩
  | bk ρ1 st1 => rw [hr] at q'; exact q'
  | ct ρ1 st1 => rw [hr] at q'; exact q'
  | rt d1 st1 => rw [hr] at q'; exact q'
  | stk => rw [hr] at q'; exact q'
  | exc c fs ρ1 st1 =>
    rw [hr] at q'
    intro w1 σ1 cls dd est o1 e1 en1 x1
    subst est
    exact hd_read xg o1 (Nat.le_trans p.hb (e1.len p.ok o1)) en1 x1 (PostS.from e1 q')
theorem ss_try {sb h se : S} (s1 : SSs G pg b sb) (s2 : ExcHyp G pg b h) (s3 : SSs G pg b se) : SS G pg b (.try sb h se) := fun X ck W xg sg tk st hc => by
  dsimp only [chkS] at hc
  cases hx : xTry st with
  | none => rw [hx] at hc; cases hc
  | some y =>
    rw [hx] at hc
    obtain ⟨pos, rfl⟩ := xTry_eq hx
    simp only [Bool.and_eq_true] at hc
    obtain ⟨⟨⟨⟨⟨h1, h1'⟩, h2⟩, h3⟩, h4⟩, h5⟩ := hc
    have hot : ck.hot = false := by simpa using h1
    have hrz : ck.rz = false := by simpa using h1'
    have body : ∀ (W' : WX) (pn : List (Addr × Obj)) (xe : Value → Shared → Prop), TkB G (X.tr pn xe) W' → PassesOwn (model X.prog X.w) X.A X.env xe → (∀ hd : Option Value, PassesOwnAt (model X.prog X.w) (X.A.mark hd) X.A X.env xe) → PSs (X.tr pn xe) y.body (tS G pg b [] W' sb) := fun W' pn xe tk' hp' hpa' => by
      have z := s1 _ _ W' (xg_tr xg hrz pn xe) ⟨sg.hs, sg.hf, fun _ => hp', fun _ => hpa'⟩ tk' y.body h3
      rw [epn_cold hot] at z
      exact z
    have els := s3 X ck W xg sg tk y.els h5
    rw [epn_cold hot] at els
    obtain ⟨yb, yh, yel⟩ := y
    dsimp only at h2 h3 h4 h5 body els ⊢
    cases yh with
    | nil => cases h2
    | cons h0 hds =>
      refine (ps_try_gen sg.hs sg.hf xg.K (sg.hpa hot) tk els body (hd_ok xg sg s2 h4)).imp fun D σ H q => ?_
      rw [epn_cold hot] at q
      exact try_read xg q
end
end Den
set_option maxHeartbeats 4000000
/-! DAll: every expression, every statement. -/
namespace Den
open PySem L2

/-- tests that go by their value -/
def plI : E → Bool
  | .not _ => false
  | .and _ => false
  | .or _ => false
  | .ife _ _ _ => false
  | .cmp _ _ _ => false
  | .chn _ _ _ _ _ => false
  | _ => true
theorem plain_of {ck : CK} {ir : E} {e : Expr} (hp : plI ir = true) (h : chkE ck ir e = true) : plainT e = true := by
  cases e <;> try rfl
  · cases ir <;> first | exact (Bool.false_ne_true h).elim | (cases hp; done) | (rename_i d; cases d <;> exact (Bool.false_ne_true h).elim)
  · rename_i op x pos
    cases op <;> try rfl
    cases ir <;> first
      | exact (Bool.false_ne_true h).elim
      | (cases hp; done)
      | (rename_i d; cases d <;> exact (Bool.false_ne_true h).elim)
      | (rename_i o a; cases o; exact (Bool.false_ne_true h).elim)
  · cases ir <;> first | exact (Bool.false_ne_true h).elim | (cases hp; done) | (rename_i d; cases d <;> exact (Bool.false_ne_true h).elim)
  · cases ir <;> first | exact (Bool.false_ne_true h).elim | (cases hp; done) | (rename_i d; cases d <;> exact (Bool.false_ne_true h).elim)
section
variable {G : Gm} {pg : Pg} {b : Nat}
theorem st_plain {ir : E} (hp : plI ir = true) (se : SE G pg b ir) : ST G pg b ir := fun _ X ck W xg tk e h => pt_plain (plain_of hp h) (se X ck W xg tk e h)
theorem sa_nil : SA G pg b .nil := fun X ck W xg tk es h => by
  cases es with
  | cons _ _ => exact (Bool.false_ne_true h).elim
  | nil =>
    refine pa_nil.imp fun σ H Q ⟨w, ρ, p, q⟩ => ?_
    have q' : Post G b w (.ok [] w.st) W σ (fun ds w' => ∀ vs, Reps G w' ds vs → Q vs w'.H) := q
    have := q'.here p.ok [] rfl
    rw [p.H] at this
    exact this
theorem sa_cons {a as : E} (se : SE G pg b a) (sa : SA G pg b as) : SA G pg b (.cons a as) := fun X ck W xg tk es h => by
  cases es with
  | nil => exact (Bool.false_ne_true h).elim
  | cons e es =>
    have h' := Bool.and_eq_true_iff.mp h
    have h1 := Bool.and_eq_true_iff.mp h'.1
    refine (pa_cons (se X ck W xg tk e h1.2) (sa X ck W xg tk es h'.2) (star_cons h1.1)).imp fun σ H Q ⟨w, ρ, p, q⟩ => ?_
    refine tE.of p q.bind fun d w1 v p1 e1 k1 r1 => tA.of p1 k1.bind fun ds w2 vs p2 e2 k2 r2 => ?_
    exact k2.here p2.ok _ ⟨v, vs, rfl, Rep.ext e2 _ _ r1, r2⟩
theorem so_nil : SO G pg b .nil := fun X ck W xg tk o h => by
  cases o with
  | some _ => exact (Bool.false_ne_true h).elim
  | none =>
    refine po_none.imp fun σ H Q ⟨w, ρ, p, q⟩ => ?_
    have q' : Post G b w (.ok none w.st) W σ (fun o w' => Q o w'.H) := q
    have := q'.here p.ok
    rw [p.H] at this
    exact this
theorem so_some {a as : E} (se : SE G pg b a) : SO G pg b (.cons a as) := fun X ck W xg tk o h => by
  cases as <;> try (exact (Bool.false_ne_true h).elim)
  cases o with
  | none => exact (Bool.false_ne_true h).elim
  | some e =>
    refine (po_some (se X ck W xg tk e h)).imp fun σ H Q ⟨w, ρ, p, q⟩ => ?_
    refine tE.of p q.bind fun d w1 v p1 e1 k1 r1 => ?_
    cases d <;> try (exact k1.elim)
    cases r1
    exact ⟨_, rfl, k1.here p1.ok⟩
/-- all that is said of one expression -/
structure ME (G : Gm) (pg : Pg) (b : Nat) (ir : E) : Prop where
  se : SE G pg b ir
  st : ST G pg b ir
  sa : SA G pg b ir
  so : SO G pg b ir
  ee : EachE (SE G pg b) ir
  et : EachE (ST G pg b) ir
  lc : LcHyp G pg b ir
  bo : ∀ o x y, ir = .bin o x y → SE G pg b x ∧ SE G pg b y
  tu : ∀ as, ir = .tup as → SA G pg b as
  po : ∀ as, ir = .pr .lst as → SA G pg b as
theorem no_se {ir : E} (h : ∀ ck e, chkE ck ir e = false) : SE G pg b ir := fun X ck W xg tk e q => by rw [h] at q; cases q
theorem no_sa {ir : E} (h : ∀ ck es, chkA ck ir es = false) : SA G pg b ir := fun X ck W xg tk es q => by rw [h] at q; cases q
theorem no_so {ir : E} (h : ∀ ck o, chkO ck ir o = false) : SO G pg b ir := fun X ck W xg tk o q => by rw [h] at q; cases q
theorem me_of {ir : E} (se : SE G pg b ir) (st : ST G pg b ir) (lc : LcHyp G pg b ir := by exact True.intro) (ha : ∀ ck es, chkA ck ir es = false := by intro ck es; cases es <;> rfl) (ho : ∀ ck o, chkO ck ir o = false := by intro ck o; cases o <;> rfl)
    (ee : EachE (SE G pg b) ir := by exact True.intro) (et : EachE (ST G pg b) ir := by exact True.intro) (bo : ∀ o x y, ir = .bin o x y → SE G pg b x ∧ SE G pg b y := by intro o x y e; cases e) (tu : ∀ as, ir = .tup as → SA G pg b as := by intro as e; cases e) (po : ∀ as, ir = .pr .lst as → SA G pg b as := by intro as e; cases e) : ME G pg b ir := ⟨se, st, no_sa ha, no_so ho, ee, et, lc, bo, tu, po⟩
theorem me_pl {ir : E} (hp : plI ir = true) (se : SE G pg b ir) (lc : LcHyp G pg b ir := by exact True.intro) (ha : ∀ ck es, chkA ck ir es = false := by intro ck es; cases es <;> rfl) (ho : ∀ ck o, chkO ck ir o = false := by intro ck o; cases o <;> rfl)
    (ee : EachE (SE G pg b) ir := by exact True.intro) (et : EachE (ST G pg b) ir := by exact True.intro) (bo : ∀ o x y, ir = .bin o x y → SE G pg b x ∧ SE G pg b y := by intro o x y e; cases e) (tu : ∀ as, ir = .tup as → SA G pg b as := by intro as e; cases e) (po : ∀ as, ir = .pr .lst as → SA G pg b as := by intro as e; cases e) : ME G pg b ir := me_of se (st_plain hp se) lc ha ho ee et bo tu po
theorem all_E : ∀ ir : E, ME G pg b ir
  | .var i => me_pl rfl (s_var i)
  | .cst d => me_pl rfl (s_cst d)
  | .gl k => me_pl rfl (s_gl k)
  | .un o a => me_pl rfl (s_un (all_E a).se)
  | .bin o a c => me_pl rfl (s_bin (all_E a).se (all_E c).se) (bo := fun _ x y e => by cases e; exact ⟨(all_E a).se, (all_E c).se⟩)
  | .cmp o a c => me_of (s_cmp (all_E a).se (all_E c).se) (fun _ => t_cmp (all_E a).se (all_E c).se)
  | .chn o p a c d => me_of (s_chn (all_E a).se (all_E c).se (all_E d).se) (t_chn (all_E a).se (all_E c).se (all_E d).se)
  | .not a => me_of (s_not (all_E a).se) (t_not (all_E a).st)
  | .and as => me_of (s_and (all_E as).ee) (t_and (all_E as).et)
  | .or as => me_of (s_or (all_E as).ee) (t_or (all_E as).et)
  | .ife c a d => me_of (s_ife (all_E c).st (all_E c).se (all_E a).se (all_E d).se) (fun h => nomatch h)
  | .nil => ⟨no_se (fun ck e => by cases e <;> rfl), fun _ X ck W xg tk e q => (by have : chkE ck .nil e = false := (by cases e <;> rfl); rw [this] at q; cases q), sa_nil, so_nil, True.intro, True.intro, True.intro, fun _ _ _ e => (nomatch e), fun _ e => (nomatch e), fun _ e => (nomatch e)⟩
  | .cons a as => ⟨no_se (fun ck e => by cases e <;> rfl), fun _ X ck W xg tk e q => (by have : chkE ck (.cons a as) e = false := (by cases e <;> rfl); rw [this] at q; cases q), sa_cons (all_E a).se (all_E as).sa, so_some (all_E a).se, ⟨(all_E a).se, (all_E as).ee⟩, ⟨(all_E a).st, (all_E as).et⟩, True.intro, fun _ _ _ e => (nomatch e), fun _ e => (nomatch e), fun _ e => (nomatch e)⟩
  | .tup as => me_pl rfl (s_tup (all_E as).sa) (tu := fun _ e => by cases e; exact (all_E as).sa)
  | .lst m as => me_pl rfl (s_lst (all_E as).sa)
  | .dnew m t => me_pl rfl s_dnew
  | .idx a c => me_pl rfl (s_idx (all_E a).se (all_E c).se)
  | .slc a l h => me_pl rfl (s_slc (all_E a).se (all_E l).so (all_E h).so)
  | .revl a => me_pl rfl (s_revl (all_E a).se)
  | .fld a f => me_pl rfl (s_fld (all_E a).se)
  | .call f md as => me_pl rfl (s_call (all_E as).sa)
  | .meth a m md as => me_pl rfl (s_meth (all_E a).se (all_E as).sa)
  | .make c md as => me_pl rfl (s_make (all_E as).sa)
  | .pr p as => me_pl rfl (s_pr (all_E as).sa) (po := fun _ e => by cases e; exact (all_E as).sa)
  | .bm m a as => me_pl rfl (s_bm (all_E a).se (all_E as).sa (all_E as).ee)
  | .lc m own tg k as cnd elt => me_pl rfl (s_lc (all_E as).sa (all_E as).ee (all_E cnd).st (all_E elt).se) ⟨(all_E as).sa, (all_E as).ee, (all_E cnd).st, (all_E elt).se⟩
  | .isi a t => me_pl rfl (s_isi (all_E a).se)
  | .isx i t => me_pl rfl s_isx
  | .fldx i f => me_pl rfl s_fldx
  | .fz a => me_pl rfl (no_se fun ck e => by cases e <;> rfl)
  | .own a => me_pl rfl (s_own (all_E a).bo (all_E a).po)
  | .iso a c => me_pl rfl (s_iso (all_E a).se)
  | .idxx a x => me_pl rfl (s_idxx (all_E a).se (all_E x).se)
  | .mxd mx a d => me_pl rfl (s_mxd (all_E a).se (all_E d).se)
  | .ddsp m t as => me_pl rfl s_ddsp

structure MS (G : Gm) (pg : Pg) (b : Nat) (ir : S) : Prop where
  s : SS G pg b ir
  ss : SSs G pg b ir
  ex : ExcHyp G pg b ir
theorem no_ss {ir : S} (h : ∀ ck e, chkS ck ir e = false) : SS G pg b ir := fun X ck W xg sg tk e q => by rw [h] at q; cases q
theorem no_sss {ir : S} (h : ∀ ck es, chkSs ck ir es = false) : SSs G pg b ir := fun X ck W xg sg tk es q => by rw [h] at q; cases q
theorem ms_of {ir : S} (s : SS G pg b ir) (ex : ExcHyp G pg b ir := by exact True.intro) (h : ∀ ck es, chkSs ck ir es = false := by intro ck es; cases es <;> rfl) : MS G pg b ir := ⟨s, no_sss h, ex⟩
theorem all_S : ∀ ir : S, MS G pg b ir
  | .skip => ⟨ss_skip, ss_skips, True.intro⟩
  | .seq a c => ⟨no_ss (fun ck e => by cases e <;> rfl), ss_seq (all_S a).s (all_S c).ss, True.intro⟩
  | .expr e => ms_of (ss_expr (all_E e).se)
  | .asg t e => ms_of (ss_asg (all_E e).se (all_E e).lc (all_E e).tu)
  | .seti a i e => ms_of (ss_seti (all_E a).se (all_E i).se (all_E e).se)
  | .setf a f e => ms_of (ss_setf (all_E a).se (all_E e).se)
  | .aug i o e => ms_of (ss_aug (all_E e).se)
  | .augi a i o e => ms_of (ss_augi (all_E a).se (all_E i).se (all_E e).se)
  | .ret e => ms_of (ss_ret (all_E e).se)
  | .retN => ms_of ss_retN
  | .ife c a d => ms_of (ss_ife (all_E c).st (all_S a).ss (all_S d).ss)
  | .whl n c s => ms_of (ss_whl (all_E c).st (all_S s).ss)
  | .for t k as s => ms_of (ss_for (all_E as).sa (all_E as).ee (all_S s).ss)
  | .brk => ms_of ss_brk
  | .cnt => ms_of ss_cnt
  | .rais c as => ms_of (ss_rais (all_E as).sa)
  | .try s h e => ms_of (ss_try (all_S s).ss (all_S h).ex (all_S e).ss)
  | .exc t n s m => ms_of (no_ss fun ck e => by cases e <;> rfl) ⟨(all_S s).ss, (all_S m).ex⟩
  | .excR t s m => ms_of (no_ss fun ck e => by cases e <;> rfl) ⟨(all_S s).ss, (all_S m).ex⟩
  | .frz i => ms_of (no_ss fun ck e => by cases e <;> rfl)
  | .kill l => ms_of (no_ss fun ck e => by cases e <;> rfl)
end
end Den
set_option maxHeartbeats 4000000
/-! DXi: exceptions whose own __init__ keeps one attribute. -/
namespace Den
open PySem L2 PySem.Spec PyProof.Rows

section
variable {X : Cx} {e : Expr} {es : List Expr} {ta : TA} {p1 p2 pos : Pos} {C : Addr} {mc : Value} {x : Str}
theorem pe_clsinit {pl : Sem Bool} (hr : PySem.W.readsIn X.K C mc = true) (hga : PySem.W.specialIn X.K (.ref C) "__getattribute__" = some (some (.builtin "type.__getattribute__")))
    (hf : PySem.W.findCls X.K (.ref C) mc "__init__" = some (.val (.builtin "ValueError.__init__"))) (hg : Gl X x) (hm : X.mg x = some (.ref C)) (hdb : (x == ("__debug__" : Str)) = false) (ha : PA X (e :: es) ta)
    (hc : eval (.Call (.Attribute (.Name x p1) "__init__" p2) (e :: es) [] pos) X.env = (do
      let ov ← eval (.Name x p1) X.env
      standAt p2.atName
      let (f, first) ← holding [ov] (getMethod ov "__init__" pl)
      callWith pos f first (backTo pos (starEach (e :: es) X.env)) (backToKw pos (keywordEach [] X.env))))
    (he : starEach (e :: es) X.env = (false, eval e X.env) :: starEach es X.env) (hpl : (backTo pos (starEach es X.env)).any (·.1) = false) :
    PE X (.Call (.Attribute (.Name x p1) "__init__" p2) (e :: es) [] pos) (tVeI X.K ta) := by
  refine ⟨fun pins s σ H Q I h => ?_⟩
  refine PySem.W.methodCall_KW (pl := pl) ?_ hc
  refine ld_glob I hg hm ?_ hdb
  refine PySem.W.method_cls I.kIn hga ?_
  refine PySem.W.cls_value I.kIn hr hf (by decide +kernel) ?_
  show wpAny _ _ (callWith pos (Value.builtin "ValueError.__init__") [] (backTo pos (starEach (e :: es) X.env)) []) _ _ _
  refine PyProof.Rows.callWith_method1 (thn (ha.run pos pins _ σ H _ (I.tok _) h) fun us s1 ⟨vs, H1, I1, r1, a, C, ws, ev, hl, T, ea, q⟩ => ?_) he hpl
  subst ev
  cases r1 with
  | @cons _ u0 _ ur ra rw' =>
    obtain rfl : u0 = Value.ref a := ra
    have hlen : ur.length ≤ sizeLine := by
      rw [← Paired.length rw', sizeLine_eq]
      omega
    exact oinit_ok T I1 ea hlen fun s' J => ⟨.non, H1, J, rfl, q⟩
end

/-- the class of such exceptions -/
def oexB (K : PySem.W.Frag) (C : Addr) : Bool := (match K.lookup C with
  | some ⟨.type "type", _, .cls cd, sl⟩ => (match cd.mro, sl.toList with
    | .ref C' :: bm, [_, _, _, _, some (.builtin n), _] => C' == C && n == "ValueError.__new__" && !cd.hasDel && cd.hasDict && PySem.HandSPX.refsVE bm
    | _, _ => false)
  | _ => false) && He.eqO (PySem.W.findIn K (.ref C) "__setattr__") (some (some (.builtin "object.__setattr__"))) && decide (PySem.W.subIn K (.ref C) (.type "BaseException") = some true) && decide (PySem.W.typeIn K (.ref C) = some (.type "type")) && PySem.W.keepIn K (.ref C)
theorem oexB_ok {K : PySem.W.Frag} {C : Addr} (h : oexB K C = true) : OexC K C := by
  unfold oexB at h
  rw [Bool.and_eq_true, Bool.and_eq_true, Bool.and_eq_true, Bool.and_eq_true, decide_eq_true_eq, decide_eq_true_eq] at h
  obtain ⟨⟨⟨⟨h1, h2⟩, h3⟩, h4⟩, h5⟩ := h
  refine ⟨?_, He.eqO_ok h2, h3, h4, h5⟩
  split at h1
  · rename_i dd cd sl ho
    split at h1
    · rename_i C' bm k0 k1 k2 k3 n k5 hm hs
      simp only [Bool.and_eq_true, beq_iff_eq, Bool.not_eq_true'] at h1
      obtain ⟨⟨⟨⟨rfl, rfl⟩, hdel⟩, hd⟩, ht⟩ := h1
      obtain ⟨nm, bs, mro, ns, qn, hdd, sn, sub, ab, col, del⟩ := cd
      dsimp only at hm hdel hd
      subst hm hdel hd
      have hsl : sl = #[k0, k1, k2, k3, some (.builtin "ValueError.__new__"), k5] := by
        obtain ⟨l⟩ := sl
        simp only at hs
        rw [hs]
      subst hsl
      exact ⟨nm, qn, ns, bs, bm, sn, sub, ab, col, dd, k0, k1, k2, k3, k5, ho, ht⟩
    · cases h1
  · cases h1

/-- the text of such an __init__ -/
structure XIT where
  B : Str
  s : Str
  s2 : Str
  y : Str
  f : Str
  m : Str
  n : Str
  p1 : Pos
  p2 : Pos
  p3 : Pos
  p4 : Pos
  p5 : Pos
  p6 : Pos
  p7 : Pos
  q1 : Pos
  q2 : Pos
  q3 : Pos
  k : Nat
def xiT : List Stmt → Option XIT
  | [.Expr (.Call (.Attribute (.Name B p1) n p2) [.Name s p3, .Constant (.str m) k p4] [] q1) q2, .Assign [.Attribute (.Name s2 p5) f p6] (.Name y p7) q3] => some ⟨B, s, s2, y, f, m, n, p1, p2, p3, p4, p5, p6, p7, q1, q2, q3, k⟩
  | _ => none
theorem xiT_eq {l : List Stmt} {t : XIT} (h : xiT l = some t) : l = [.Expr (.Call (.Attribute (.Name t.B t.p1) t.n t.p2) [.Name t.s t.p3, .Constant (.str t.m) t.k t.p4] [] t.q1) t.q2, .Assign [.Attribute (.Name t.s2 t.p5) t.f t.p6] (.Name t.y t.p7) t.q3] := by
  unfold xiT at h
  split at h
  · cases h; rfl
  · cases h
def xiB (N : List Str) (sc : Scope) (B f : Str) (l : List Stmt) : Bool := match xiT l with
  | some t => (t.B == B) && (t.n == "__init__") && (N[0]? == some t.s) && (t.s2 == t.s) && (N[1]? == some t.y) && (t.f == f) && (N.length == 2) && visB sc t.s && visB sc t.y && okN t.s && okN t.y && glB sc t.B && okN t.B && (t.p2.endLine == t.q1.line)
  | none => false

theorem xinit_ok {G : Gm} {P : Program} {w : World} {K : PySem.W.Frag} {mg : Str → Option Value} {base : Heap} {x qual B f : Str} {params : Arguments} {body : List Stmt} {scope : Scope} {fI C c0 : Addr} {fd : FuncData} {N : List Str} {mc : Value}
    (F : FunD K x qual params body scope [] [] fI fd) (S : FnScope N N scope) (T : OexC K C) (hno : PySem.W.findIn K (.ref C) f = some none) (ht : xiB N scope B f body = true) (hB : mg B = some (.ref c0)) (hr : PySem.W.readsIn K c0 mc = true)
    (hga : PySem.W.specialIn K (.ref c0) "__getattribute__" = some (some (.builtin "type.__getattribute__"))) (hfc : PySem.W.findCls K (.ref c0) mc "__init__" = some (.val (.builtin "ValueError.__init__"))) : FnOk P w K mg base (CXB G P w) 1 fI fd N (spXi C f) := by
  unfold xiB at ht
  cases hx : xiT body with
  | none => rw [hx] at ht; cases ht
  | some t =>
    rw [hx] at ht
    have hb := xiT_eq hx
    subst hb
    obtain ⟨tB, s, s2, y, tf, m, n, p1, p2, p3, p4, p5, p6, p7, q1, q2, q3, k⟩ := t
    simp only [Bool.and_eq_true, beq_iff_eq, glB] at ht
    obtain ⟨⟨⟨⟨⟨⟨⟨⟨⟨⟨⟨⟨⟨hB0, hn0⟩, h3⟩, hs0⟩, h5⟩, hf0⟩, h7⟩, h8⟩, h9⟩, h10⟩, h11⟩, h12⟩, h13⟩, h14⟩ := ht
    subst hB0 hn0 hs0 hf0
    refine F.ok S (fun vs H Q E ⟨a, y, e, _⟩ => by rw [e, h7]; rfl) fun cdv A outer s' H vs Q E hr' ⟨a, v, e, ha, hq⟩ => ?_
    subst e
    let X : Cx := cxOf (CXB G P w) P w K mg base N qual scope fI cdv A outer s' H E
    have hvs : PE X (.Name s2 p3) (tVar 0) := pe_var (i := 0) h3 (visB_vis h8) (okN_d h10) (okN_c h10)
    have hvs2 : PE X (.Name s2 p5) (tVar 0) := pe_var (i := 0) h3 (visB_vis h8) (okN_d h10) (okN_c h10)
    have hvy : PE X (.Name y p7) (tVar 1) := pe_var (i := 1) h5 (visB_vis h9) (okN_d h11) (okN_c h11)
    have hcall := pe_clsinit (X := X) (p1 := p1) (p2 := p2) (pos := q1) (x := tB) hr hga hfc h12 hB (okN_d h13) (pa_cons hvs (pa_cons (pe_str (x := m) (j := k) (pos := p4)) pa_nil rfl) rfl) (meth_ht (o := .Name tB p1) rfl rfl (beq_iff_eq.mpr h14)) rfl rfl
    refine ⟨_, pss_cons (ps_expr hcall rfl) (pss_cons (ps_ost hvs2 hvy rfl) pss_nil), ?_⟩
    refine ⟨V.ref a, rfl, ?_⟩
    refine ⟨a, C, [V.str m], rfl, (by show 1 ≤ 1000; decide), T, ha, ?_⟩
    refine ⟨_, rfl, _, rfl, a, C, rfl, T, hno, .inl ⟨ha, fun dx h1 h2 => ?_⟩⟩
    exact hq dx h1 h2
/-- such a class, where it stands -/
structure XiAt (K : PySem.W.Frag) (mg : Str → Option Value) (C : Addr) (f : Str) : Prop where
  T : OexC K C
  R : XfC K C
  no : PySem.W.findIn K (.ref C) f = some none
  ex : ∃ (x qual B : Str) (params : Arguments) (body : List Stmt) (scope : Scope) (fI c0 : Addr) (fd : FuncData) (N : List Str) (mc : Value), PySem.W.findIn K (.ref C) "__init__" = some (some (.ref fI)) ∧ PySem.W.typeIn K (.ref fI) = some (.type "function") ∧
    FunD K x qual params body scope [] [] fI fd ∧ Binds K fd N [] ∧ FnScope N N scope ∧ xiB N scope B f body = true ∧ mg B = some (.ref c0) ∧ PySem.W.readsIn K c0 mc = true ∧
    PySem.W.specialIn K (.ref c0) "__getattribute__" = some (some (.builtin "type.__getattribute__")) ∧ PySem.W.findCls K (.ref c0) mc "__init__" = some (.val (.builtin "ValueError.__init__"))
theorem XiAt.fn {G : Gm} {P : Program} {w : World} {K : PySem.W.Frag} {mg : Str → Option Value} {base : Heap} {C : Addr} {f : Str} (h : XiAt K mg C f) : ∃ fI fd ps, PySem.W.findIn K (.ref C) "__init__" = some (some (.ref fI)) ∧ PySem.W.typeIn K (.ref fI) = some (.type "function") ∧
    FnOk P w K mg base (CXB G P w) 1 fI fd ps (spXi C f) ∧ Binds K fd ps [] := by
  obtain ⟨x, qual, B, params, body, scope, fI, c0, fd, N, mc, h1, h2, h3, h4, h5, h6, h7, h8, h9, h10⟩ := h.ex
  exact ⟨fI, fd, N, h1, h2, xinit_ok h3 h5 h.T h.no h6 h7 h8 h9 h10, h4⟩
/-- what of the text is looked at -/
def xiK (K : PySem.W.Frag) (C fI c0 : Addr) (f : Str) : Bool := oexB K C && xfB K C && He.eqO (PySem.W.findIn K (.ref C) f) (some none) && He.eqO (PySem.W.findIn K (.ref C) "__init__") (some (some (.ref fI))) && PySem.W.isFn K (.ref fI) &&
  PySem.W.readsIn K c0 (.type "type") && He.eqO (PySem.W.specialIn K (.ref c0) "__getattribute__") (some (some (.builtin "type.__getattribute__"))) && (match PySem.W.findCls K (.ref c0) (.type "type") "__init__" with
    | some (.val (.builtin n)) => n == "ValueError.__init__"
    | _ => false)
theorem xiK_ok {K : PySem.W.Frag} {mg : Str → Option Value} {C fI c0 : Addr} {f x qual B : Str} {params : Arguments} {body : List Stmt} {scope : Scope} {fd : FuncData} {N : List Str} (h : xiK K C fI c0 f = true) (F : FunD K x qual params body scope [] [] fI fd) (hb : Binds K fd N []) (S : FnScope N N scope) (ht : xiB N scope B f body = true) (hm : mg B = some (.ref c0)) : XiAt K mg C f := by
  unfold xiK at h
  rw [Bool.and_eq_true, Bool.and_eq_true, Bool.and_eq_true, Bool.and_eq_true, Bool.and_eq_true, Bool.and_eq_true, Bool.and_eq_true] at h
  obtain ⟨⟨⟨⟨⟨⟨⟨h1, h2⟩, h3⟩, h4⟩, h5⟩, h6⟩, h7⟩, h8⟩ := h
  refine ⟨oexB_ok h1, xfB_ok h2, He.eqO_ok h3, _, _, _, _, _, _, _, _, _, _, _, He.eqO_ok h4, beq_iff_eq.mp h5, F, hb, S, ht, hm, h6, He.eqO_ok h7, ?_⟩
  split at h8
  · rename_i n e
    rw [beq_iff_eq.mp h8] at e
    exact e
  · cases h8
end Den
set_option maxHeartbeats 4000000
/-! DFn: the functions of a text keep what the interpreter gives; the law. -/
namespace Den
open PySem L2 PySem.Spec PyProof.Rows

/-- a function: where it stands, its names (the parameters first), its body, the room that its calls want -/
structure FI where
  d : He.DefD
  N : List Str
  ps : List Str
  ir : S
  lvl : Nat
def FI.fn (f : FI) : Fn := ⟨f.ps.length, f.N.length, f.ir⟩
def glN (gl : List (Str × GK)) (n : Nat) : List (Str × GK) := gl.filter fun p => match p.2 with
  | .fn i => decide (i < n)
  | _ => true
/-- the tables of classes: names of attributes and methods; methods, __init__, functions called by a class -/
structure Tb where
  at_ : List Str
  mts : List ((Nat × Nat) × Nat)
  inis : List (Nat × Nat)
  cfs : List ((Nat × Nat) × Nat)
  unc : List Nat
def ckOf (gl : List (Str × GK)) (tb : Tb) (f : FI) (r : List FI) : CK := ⟨f.N, f.d.scope, f.d.scope, glN gl r.length, r.reverse.map fun g => g.lvl + 1, f.lvl, false, tb.at_, tb.mts.filter fun p => decide (p.2 < r.length), tb.inis.filter fun p => decide (p.2 < r.length), tb.cfs.filter (fun p => decide (p.2 < r.length)), tb.unc, false⟩
def chkF (gl : List (Str × GK)) (tb : Tb) (f : FI) (r : List FI) : Bool := C8.scC f.N f.ps f.d.scope && chkSs (ckOf gl tb f r) f.ir f.d.body
def chkP (gl : List (Str × GK)) (tb : Tb) : List FI → Bool
  | [] => true
  | f :: r => chkF gl tb f r && chkP gl tb r

theorem lookup_in {α : Type} {x : Str} {k : α} : ∀ {l : List (Str × α)}, l.lookup x = some k → (x, k) ∈ l
  | [], h => by cases h
  | (y, u) :: r, h => by
    rw [List.lookup_cons] at h
    split at h
    · rename_i e
      cases h
      rw [beq_iff_eq.mp e]
      exact List.mem_cons_self
    · exact List.mem_cons_of_mem _ (lookup_in h)
theorem glN_mem {gl : List (Str × GK)} {n : Nat} {x : Str} {k : GK} (h : (glN gl n).lookup x = some k) : (x, k) ∈ gl ∧ ∀ i, k = .fn i → i < n := by
  have hm := List.mem_filter.mp (lookup_in h)
  refine ⟨hm.1, fun i e => ?_⟩
  have h2 := hm.2
  rw [e] at h2
  exact of_decide_eq_true h2

/-- what the module's names stand for -/
structure GF (G : Gm) (mg : Str → Option Value) (cl : Cls) (gl : List (Str × GK)) (fad : Nat → Addr) (tb : Tb) : Prop where
  at_ : ∀ i x, tb.at_[i]? = some x → G.fnm i = x
  fa : ∀ c f, cl.fa c f = true → L2.Cls G.K (G.cls c) ∧ NoAttr G.K (G.cls c) (G.fnm f)
  mtl : ∀ c m i, cl.mt c m = some i → ((c, m), i) ∈ tb.mts
  mt : ∀ c m i, ((c, m), i) ∈ tb.mts → L2.Cls G.K (G.cls c) ∧ Meth G.K (G.cls c) (G.fnm m) (fad i)
  inl : ∀ c i, cl.ini c = some i → (c, i) ∈ tb.inis
  inm : ∀ p ∈ tb.inis, ∃ i, cl.ini p.1 = some i
  ini : ∀ c i, (c, i) ∈ tb.inis → Mk G.K (G.cls c) (fad i)
  clg : ∀ x c, (x, GK.cls c) ∈ gl → mg x = some (.ref (G.cls c))
  cf : ∀ c m i, ((c, m), i) ∈ tb.cfs → ∃ mc, PySem.W.readsIn G.K (G.cls c) mc = true ∧ PySem.W.specialIn G.K (.ref (G.cls c)) "__getattribute__" = some (some (.builtin "type.__getattribute__")) ∧
    PySem.W.findCls G.K (.ref (G.cls c)) mc (G.fnm m) = some (.val (.ref (fad i))) ∧ PySem.W.isFn G.K (.ref (fad i)) = true
  xc : ∀ x c, (x, GK.xc c) ∈ gl → mg x = some (G.xcl c) ∧ ∃ C, G.xcl c = .ref C
  bi : ∀ x, (x, GK.bi) ∈ gl → mg x = none
  va : ∀ x k, (x, GK.va k) ∈ gl → ∀ d, cl.gv k = some d → ∃ v u, (d, v) ∈ G.gv ∧ mg x = some u ∧ RelV v u
  kit : ∀ c t r, cl.kit c t = some r → ∃ C, G.xcl c = .ref C ∧ ExcC G.K C ∧ PySem.W.kitOne G.K (.ref C) (tcv G t) = some r
  sub : ∀ c t r, cl.sub c t = some r → PySem.W.exmOne G.K (G.xcl c) (tcv G t) = some r
  unc : ∀ c, tb.unc.contains c = true → ¬ G.cln (G.xcl c)
  cln : ∀ c, cl.cln c = true → G.cln (G.xcl c)
  ve : ∀ c, cl.vE = some c → G.xcl c = .type "ValueError"
  isc : ∀ c d r, cl.isc c d = some r → InsC G.K (G.cls c) ∧ PySem.W.kitOne G.K (.ref (G.cls c)) (.ref (G.cls d)) = some r
  mkx : ∀ c, cl.xf c = some none → ∃ C, G.xcl c = .ref C ∧ PySem.W.subIn G.K (.ref C) (.type "BaseException") = some true ∧ PySem.W.typeIn G.K (.ref C) = some (.type "type") ∧ PySem.W.keepIn G.K (.ref C) = true ∧
    ∃ B newId initId bmB, ExcBaseFacts B newId initId bmB ∧ PySem.W.excIn G.K C bmB newId = true
  fn : ∀ x i, (x, GK.fn i) ∈ gl → mg x = some (.ref (fad i))
  mkf : ∀ c f, cl.xf c = some (some f) → ∃ C, G.xcl c = .ref C ∧ XiAt G.K mg C (G.fnm f)

def pgOf (cl : Cls) (fs : List FI) : Pg := ⟨cl.mt, cl.ini, cl.sub, cl.xf, cl.gv, cl.fa, cl.kit, cl.cln, cl.vE, cl.isc, run cl (fs.map FI.fn)⟩
theorem run_eq {cl : Cls} {f : FI} {fs : List FI} : run cl ((f :: fs).map FI.fn) fs.length = fun as st bs => runF (pgOf cl fs) f.fn as st bs := by
  funext as st bs
  show (if fs.length = (fs.map FI.fn).length then _ else _) = _
  rw [if_pos (by rw [List.length_map])]
  rfl
theorem run_lo {cl : Cls} {f : FI} {fs : List FI} {i : Nat} (h : i < fs.length) : run cl ((f :: fs).map FI.fn) i = run cl (fs.map FI.fn) i := by
  funext as st bs
  show (if i = (fs.map FI.fn).length then _ else _) = _
  rw [if_neg (by rw [List.length_map]; omega)]
theorem run_hi {cl : Cls} : ∀ {fs : List FI} {i : Nat}, fs.length ≤ i → ∀ ds st bs, run cl (fs.map FI.fn) i ds st bs = .stk
  | [], _, _, _, _, _ => rfl
  | f :: fs, i, h, ds, st, bs => by
    have h' : fs.length + 1 ≤ i := h
    show (if i = (fs.map FI.fn).length then _ else run cl (fs.map FI.fn) i ds st bs) = _
    rw [if_neg (by rw [List.length_map]; omega)]
    exact run_hi (by omega) ds st bs
theorem run_len {cl : Cls} {f : FI} {fs : List FI} {ds : List D} {st : Sto} {bs : Nat} (h : ds.length ≠ f.ps.length) : run cl ((f :: fs).map FI.fn) fs.length ds st bs = .stk := by
  rw [run_eq]
  show (if ds.length = f.ps.length then _ else _) = _
  rw [if_neg h]
theorem spOf_congr {G : Gm} {f1 f2 : Nat → List D → Sto → Nat → Res D} {n i : Nat} (h : f1 i = f2 i) : spOf G f1 n i = spOf G f2 n i := by
  unfold spOf
  rw [h]

section
variable {P : Program} {w : World} {G : Gm} {mg : Str → Option Value} {base : Heap} {cl : Cls} {gl : List (Str × GK)} {fad : Nat → Addr} {tb : Tb}
/-- a function keeps what the interpreter gives -/
structure FOk (P : Program) (w : World) (G : Gm) (mg : Str → Option Value) (base : Heap) (fns : Nat → List D → Sto → Nat → Res D) (f : FI) (i : Nat) (a : Addr) : Prop where
  ex : ∃ fd, FnOk P w G.K mg base (CXB G P w) (f.lvl + 1) a fd f.ps (spOf G fns f.ps.length i) ∧ Binds G.K fd f.ps [] ∧ PySem.W.keepIn G.K (.ref a) = true ∧ ∃ osl oc od, G.K.lookup a = some ⟨oc, od, .func fd, osl⟩
  len : ∀ ds st bs, ds.length ≠ f.ps.length → fns i ds st bs = .stk
/-- the environment at a function's entry -/
theorem env_start {w : Wd} {ds : List D} {vs : List V} {N : List Str} (gv : ∀ p ∈ G.gv, Rep G w p.1 p.2) (r : Reps G w ds vs) : EnvOk G [] w (ds.map Sl.v ++ List.replicate (N.length - ds.length) .no) (L2.start N vs) := by
  refine ⟨by unfold L2.start; simp [r.length], fun i d q n => ?_, gv⟩
  have hl := r.length
  by_cases hi : i < ds.length
  · rw [List.getElem?_append_left (by simpa using hi), List.getElem?_map] at q
    rw [List.getElem?_eq_getElem hi] at q
    cases q
    obtain ⟨v, hv, rv⟩ := r.get (List.getElem?_eq_getElem hi)
    refine ⟨v, ?_, rv⟩
    unfold L2.start
    rw [List.getElem?_append_left (by rw [List.length_map]; omega), List.getElem?_map, hv]
    rfl
  · rw [List.getElem?_append_right (by simpa using hi)] at q
    have := List.mem_of_getElem? q
    rw [List.mem_replicate] at this
    exact (n this.2).elim
theorem fn_one (hh : G.hs = hsOf w) {f : FI} {r : List FI} {fd : FuncData} {a : Addr} (gf : GF G mg cl gl fad tb) (hc : chkF gl tb f r = true) (hd : f.d.dfl = []) (hk : f.d.kwd = [])
    (F : FunD G.K f.d.name f.d.qual f.d.params f.d.body f.d.scope [] [] a fd) (hb : Binds G.K fd f.ps [])
    (lo : ∀ i g, r.reverse[i]? = some g → FOk P w G mg base (run cl (r.map FI.fn)) g i (fad i)) : FOk P w G mg base (run cl ((f :: r).map FI.fn)) f r.length a := by
  obtain ⟨h1, h2⟩ := Bool.and_eq_true_iff.mp hc
  have S := C8.fnScope_by h1
  refine ⟨⟨fd, ?_, hb, F.kp, let ⟨oc, od, _, _, _, _, _, _, _, osl, _, lk, _⟩ := F.ex; ⟨osl, oc, od, lk⟩⟩, fun ds st bs h => run_len h⟩
  refine F.ok S (fun vs H Q E h => h.1) fun cdv A outer s H vs Q E hr h => ?_
  obtain ⟨hl, wd, ds, bs, hH, ok, hbs, hgv, rs, post⟩ := h
  rw [run_eq] at post
  let W : WX := fun c d _ H => E c d H
  refine ⟨tS G (pgOf cl r) bs [] W f.ir, ?_, ?_⟩
  · have at_of : ∀ i, i < r.length → FnAt (cxOf (CXB G P w) P w G.K mg base f.N f.d.qual f.d.scope a cdv A outer s H E) G (pgOf cl r) (ckOf gl tb f r) i (fad i) := fun i hi => by
      obtain ⟨g, hg⟩ : ∃ g, r.reverse[i]? = some g := ⟨_, List.getElem?_eq_getElem (by simpa using hi)⟩
      obtain ⟨⟨fd', F', B', K', _⟩, L'⟩ := lo i g hg
      refine ⟨fd', g.ps, g.lvl + 1, g.ps.length, K', ?_, F', B', rfl, L'⟩
      show (r.reverse.map fun g => g.lvl + 1)[i]? = _
      rw [List.getElem?_map, hg]; rfl
    have xg : XG (cxOf (CXB G P w) P w G.K mg base f.N f.d.qual f.d.scope a cdv A outer s H E) G (pgOf cl r) (ckOf gl tb f r) := {
      kind := S.kind
      so := fun _ _ _ h => h
      cel := fun _ _ => rfl
      xc := fun x c h => gf.xc x c (glN_mem h).1
      sub := gf.sub
      kit := gf.kit
      unc := gf.unc
      cln := gf.cln
      ve := gf.ve
      isc := gf.isc
      hc := fun h => nomatch h
      mkx := fun c h => by
        obtain ⟨C, h1, h2, h3, h4, h5⟩ := gf.mkx c h
        exact ⟨C, h1, raises_own h2 h3, h4, h5⟩
      mkf := fun c f h => by
        obtain ⟨C, h1, h2⟩ := gf.mkf c f h
        exact ⟨C, h1, h2.T, h2.R, h2.no, h2.fn⟩
      N := rfl
      nd := S.nd
      sc := rfl
      K := rfl
      hs := by rw [hh]; rfl
      hu := by
        have := hr.un
        show (A.deeper (envOfC f.d.qual f.d.scope s.heap.objs.size a cdv)).units + 65 < cLine
        omega
      calm := fun _ => rfl
      room := fun _ => hr
      bi := fun x h => gf.bi x (glN_mem h).1
      va := fun x k h => gf.va x k (glN_mem h).1
      fn := fun x i h => by
        obtain ⟨hm, hi⟩ := glN_mem h
        have hi := hi i rfl
        obtain ⟨g, hg⟩ : ∃ g, r.reverse[i]? = some g := ⟨_, List.getElem?_eq_getElem (by simpa using hi)⟩
        obtain ⟨⟨fd', F', B', K', _⟩, L'⟩ := lo i g hg
        refine ⟨fad i, fd', g.ps, g.lvl + 1, g.ps.length, gf.fn x i hm, K', ?_, F', B', rfl, L'⟩
        show (r.reverse.map fun g => g.lvl + 1)[i]? = _
        rw [List.getElem?_map, hg]; rfl
      at_ := gf.at_
      fa := gf.fa
      mt := fun c m i h => by
        have hm := gf.mtl c m i h
        obtain ⟨h1, h2⟩ := gf.mt c m i hm
        refine ⟨h1, fad i, h2, ?_⟩
        by_cases hi : i < r.length
        · exact .inr ⟨List.mem_filter.mpr ⟨hm, decide_eq_true hi⟩, at_of i hi⟩
        · exact .inl (run_hi (by omega))
      ini := fun c i h => by
        have hm := gf.inl c i h
        refine ⟨fad i, gf.ini c i hm, ?_⟩
        by_cases hi : i < r.length
        · exact .inr ⟨List.mem_filter.mpr ⟨hm, decide_eq_true hi⟩, at_of i hi⟩
        · exact .inl (run_hi (by omega))
      inm := fun p hp => gf.inm p (List.mem_filter.mp hp).1
      cl := fun x c h => gf.clg x c (glN_mem h).1
      cf := fun c m i h => by
        obtain ⟨hm, hi⟩ := List.mem_filter.mp h
        obtain ⟨mc, h1, h2, h3, h4⟩ := gf.cf c m i hm
        exact ⟨mc, fad i, h1, h2, h3, h4, at_of i (of_decide_eq_true hi)⟩ }
    exact (all_S f.ir).ss _ _ W xg ⟨rfl, rfl, fun _ => passes_of (K := fun e s'' => CXB G P w outer H s E e s'') rfl, fun _ hd => L2H.passesAt_of (K := fun e s'' => CXB G P w outer H s E e s'') rfl hd⟩ (tk_of rfl rfl rfl rfl) f.d.body h2
  · subst hH
    refine ⟨wd, ds.map Sl.v ++ List.replicate (f.N.length - ds.length) .no, ⟨rfl, ok, hbs, env_start hgv rs⟩, ?_⟩
    have hlen : ds.length = f.ps.length := by rw [rs.length]; exact hl
    have post' : Post G bs wd (runF (pgOf cl r) f.fn ds wd.st bs) (fun c d _ H => E c d H) [] (KV1 G Q) := post
    unfold runF at post'
    rw [if_pos (show ds.length = f.fn.np from hlen)] at post'
    have e1 : f.fn.nn - f.fn.np = f.N.length - ds.length := by rw [hlen]; rfl
    rw [e1] at post'
    have e2 : f.fn.body = f.ir := rfl
    rw [e2] at post'
    cases hr : evS (pgOf cl r) bs f.ir (ds.map Sl.v ++ List.replicate (f.N.length - ds.length) .no) wd.st with
    | nx ρ st =>
      rw [hr] at post'
      exact fun w' σ' e o x en => post' w' e o x .non rfl
    | rt d st =>
      rw [hr] at post'
      exact fun w' v e o x rv => post' w' e o x v rv
    | exc c fs ρ st =>
      rw [hr] at post'
      exact fun w' σ' cls dd e o x en q => post' w' cls dd e o x q
    | bk ρ st => rw [hr] at post'; exact post'.elim
    | ct ρ st => rw [hr] at post'; exact post'.elim
    | stk => rw [hr] at post'; exact post'.elim
/-- all of them -/
theorem fn_all (hh : G.hs = hsOf w) (gf : GF G mg cl gl fad tb) : ∀ (fs : List FI), chkP gl tb fs = true → (∀ i f, fs.reverse[i]? = some f → f.d.dfl = [] ∧ f.d.kwd = [] ∧ ∃ fd, FunD G.K f.d.name f.d.qual f.d.params f.d.body f.d.scope [] [] (fad i) fd ∧ Binds G.K fd f.ps []) →
    ∀ i f, fs.reverse[i]? = some f → FOk P w G mg base (run cl (fs.map FI.fn)) f i (fad i)
  | [], _, _, i, f, h => by simp at h
  | g :: r, hc, hF, i, f, h => by
    obtain ⟨h1, h2⟩ := Bool.and_eq_true_iff.mp hc
    have lo := fn_all hh gf r h2 fun i f h => hF i f (by
      rw [List.reverse_cons, List.getElem?_append_left (List.getElem?_eq_some_iff.mp h).1]; exact h)
    rw [List.reverse_cons] at h
    by_cases hi : i < r.length
    · rw [List.getElem?_append_left (by simpa using hi)] at h
      obtain ⟨⟨fd, F, B, K⟩, L⟩ := lo i f h
      refine ⟨⟨fd, ?_, B, K⟩, fun ds st bs hd => by rw [run_lo hi]; exact L ds st bs hd⟩
      rw [spOf_congr (run_lo hi)]
      exact F
    · rw [List.getElem?_append_right (by simpa using hi)] at h
      have hi2 : i = r.length := by
        have := (List.getElem?_eq_some_iff.mp h).1
        simp at this; omega
      subst hi2
      simp at h
      subst h
      obtain ⟨hd, hk, fd, F, B⟩ := hF r.length g (by simp)
      exact fn_one hh gf h1 hd hk F B lo
/-- the law: what the head's end asks -/
theorem law_end {n : Nat} {f : FI} {fs : List FI} (gf : GF G mg cl gl fad tb) (hg : ∀ (w : Wd), w.φ = [] → w.ex = [] → w.st = [] → ∀ p ∈ G.gv, Rep G w p.1 p.2)
    (law : ∀ ns : List Int, ns.length ≤ n → ∃ st, run cl ((f :: fs).map FI.fn) fs.length [.scr ns] [] 0 = .ok (.bl true) st) (hp : f.ps.length = 1) (H : Hp) (a : Addr) (ns : List Int) (hn : ns.length ≤ n) (hS : SqL G.K H a (ns.map V.int)) :
    spOf G (run cl ((f :: fs).map FI.fn)) f.ps.length fs.length [.ref a] H (fun v _ => v = .bl true) (fun _ _ _ => False) := by
  obtain ⟨st, hl⟩ := law ns hn
  refine ⟨hp.symm, ⟨[], [], H, []⟩, [.scr ns], 0, rfl, ⟨rfl, fun i c a h => by simp at h, fun i j a d e h => by simp at h, fun a h => by simp at h, fun a h => by simp at h⟩, Nat.le_refl _, hg _ rfl rfl rfl, ⟨.ref a, [], rfl, ⟨a, rfl, ?_⟩, rfl⟩, ?_⟩
  · rcases hS with hS | hS
    · refine .inl ⟨fun t => ?_, hS⟩
      rcases t with ⟨i, d, h1, h2⟩ | t
      · cases h2
      · cases t
    · exact .inr fun H' => .inr hS
  · show Post G 0 _ (run cl ((f :: fs).map FI.fn) fs.length [.scr ns] [] 0) _ _ _
    rw [hl]
    exact fun w' e o x v r => r
end
end Den
set_option maxHeartbeats 4000000
/-! DTop: from what the program's top leaves to the law. -/
namespace Den
open PySem L2 PySem.Spec PyProof.Rows

/-! ### a Hook: facts by names, defs, one more Bool -/
def obsB (fa : List He.Fa) (fn : List He.DefD) (ex : PySem.W.Frag → Bool) (K : PySem.W.Frag) : He.AlD × Bool := (He.obsD fa fn K, ex K)
def SaysB (fa : List He.Fa) (fn : List He.DefD) (ex : PySem.W.Frag → Bool) (K : PySem.W.Frag) : Prop := He.SaysD fa fn K ∧ ex K = true
def obsBG (n : Nat) (fa : List He.Fa) (fn : List He.DefD) (ex : PySem.W.Frag → Bool) (g : Addr → Option Obj) : He.AlD × Bool := obsB fa fn ex (He.frG g (He.asD g n ++ [cStatics]))
def hookB (n : Nat) (fa : List He.Fa) (fn : List He.DefD) (ex : PySem.W.Frag → Bool) : PySem.W.Hook where
  α := He.AlD × Bool
  obs := fun s => obsBG n fa fn ex s.heap.get?
  val := fun _ => (He.valD fn, true)
  says := fun _ h => ∃ K : PySem.W.Frag, K.In h ∧ SaysB fa fn ex K
  of := fun _ _ e => ⟨_, He.frG_in, congrArg Prod.fst e, congrArg Prod.snd e⟩
  keeps := fun _ _ _ ⟨K, hK, c⟩ k => ⟨K, PySem.W.Frag.In.keeps hK k, c⟩
theorem obsBG_eq {n : Nat} {fa : List He.Fa} {fn : List He.DefD} {ex : PySem.W.Frag → Bool} (s : PySem.W.SharedT) : obsBG n fa fn ex (HandSHeadRun.getT s) = (hookB n fa fn ex).obs s.abs := by
  have e : HandSHeadRun.getT s = s.abs.heap.get? := funext (HandSHeadRun.getT_eq s)
  rw [e]; rfl

/-- a class's body -/
def clsBody (s : Stmt) : List Stmt := match s with
  | .ClassDef _ _ _ body _ _ _ _ _ _ _ => body
  | _ => []
/-! ### names of attributes -/
def padN (i : Nat) : Str := ⟨(List.replicate (i + 1) 0).toArray⟩
def atOk (l : List Str) : Bool := decide l.Nodup && l.all fun s => decide (s.cps.toList.head? ≠ some 0)
def atN (l : List Str) (i : Nat) : Str := if atOk l = true then (match l[i]? with
  | some s => s
  | none => padN i) else padN i
theorem padN_inj {i j : Nat} (h : padN i = padN j) : i = j := by
  have h1 : (List.replicate (i + 1) 0).toArray = (List.replicate (j + 1) 0).toArray := congrArg Str.cps h
  have h2 := congrArg Array.size h1
  simpa using h2
theorem padN_head (i : Nat) : (padN i).cps.toList.head? = some 0 := rfl
theorem atN_inj (l : List Str) (i j : Nat) (h : atN l i = atN l j) : i = j := by
  unfold atN at h
  by_cases ok : atOk l = true
  · rw [if_pos ok, if_pos ok] at h
    obtain ⟨h1, h2⟩ := Bool.and_eq_true_iff.mp ok
    have h1 := of_decide_eq_true h1
    have hd : ∀ {k : Nat} {s : Str}, l[k]? = some s → s.cps.toList.head? ≠ some 0 := fun e => of_decide_eq_true (List.all_eq_true.mp h2 _ (List.mem_of_getElem? e))
    cases hi : l[i]? with
    | none =>
      rw [hi] at h
      cases hj : l[j]? with
      | none => rw [hj] at h; exact padN_inj h
      | some t =>
        rw [hj] at h
        have h : padN i = t := h
        exact absurd (by rw [← h]; exact padN_head i) (hd hj)
    | some s =>
      rw [hi] at h
      cases hj : l[j]? with
      | none =>
        rw [hj] at h
        have h : s = padN j := h
        exact absurd (by rw [h]; exact padN_head j) (hd hi)
      | some t =>
        rw [hj] at h
        have h : s = t := h
        subst h
        obtain ⟨hi', ei⟩ := List.getElem?_eq_some_iff.mp hi
        obtain ⟨hj', ej⟩ := List.getElem?_eq_some_iff.mp hj
        exact (List.getElem_inj h1).mp (ei.trans ej.symm)
  · rw [if_neg ok, if_neg ok] at h
    exact padN_inj h

/-! ### what of the text the classes must have -/
def clsB (K : PySem.W.Frag) (C : Addr) : Bool := PySem.W.plainGet K C Str.empty && PySem.W.hasDictIn K C && PySem.W.plainOver K C && He.eqO (PySem.W.findIn K (.ref C) "__setattr__") (some (some (.builtin "object.__setattr__")))
theorem clsB_ok {K : PySem.W.Frag} {C : Addr} (h : clsB K C = true) : L2.Cls K C := by
  simp only [clsB, Bool.and_eq_true] at h
  obtain ⟨⟨⟨h1, h2⟩, h3⟩, h4⟩ := h
  exact ⟨h1, h2, h3, He.eqO_ok h4⟩
def methB (K : PySem.W.Frag) (C : Addr) (m : Str) (f : Addr) : Bool := He.eqO (PySem.W.findIn K (.ref C) m) (some (some (.ref f))) && PySem.W.isFn K (.ref f) && PySem.W.keepIn K (.ref f)
theorem methB_ok {K : PySem.W.Frag} {C f : Addr} {m : Str} (h : methB K C m f = true) : Meth K C m f := by
  simp only [methB, Bool.and_eq_true] at h
  obtain ⟨⟨h1, h2⟩, h3⟩ := h
  exact ⟨He.eqO_ok h1, h2, h3⟩
def mkB (K : PySem.W.Frag) (C f : Addr) : Bool := PySem.W.makesIn K C && He.eqO (PySem.W.findIn K (.ref C) "__init__") (some (some (.ref f))) && PySem.W.isFn K (.ref f) && PySem.W.keepIn K (.ref C)
theorem mkB_ok {K : PySem.W.Frag} {C f : Addr} (h : mkB K C f = true) : Mk K C f := by
  simp only [mkB, Bool.and_eq_true] at h
  obtain ⟨⟨⟨h1, h2⟩, h3⟩, h4⟩ := h
  exact ⟨h1, He.eqO_ok h2, h3, h4⟩
def cfB (K : PySem.W.Frag) (C f : Addr) (m : Str) : Bool := PySem.W.readsIn K C (.type "type") && He.eqO (PySem.W.specialIn K (.ref C) "__getattribute__") (some (some (.builtin "type.__getattribute__"))) && PySem.W.isFn K (.ref f) &&
  (match PySem.W.findCls K (.ref C) (.type "type") m with
    | some (.val (.ref a)) => a == f
    | _ => false)
theorem cfB_ok {K : PySem.W.Frag} {C f : Addr} {m : Str} (h : cfB K C f m = true) : ∃ mc, PySem.W.readsIn K C mc = true ∧ PySem.W.specialIn K (.ref C) "__getattribute__" = some (some (.builtin "type.__getattribute__")) ∧
    PySem.W.findCls K (.ref C) mc m = some (.val (.ref f)) ∧ PySem.W.isFn K (.ref f) = true := by
  unfold cfB at h
  rw [Bool.and_eq_true, Bool.and_eq_true, Bool.and_eq_true] at h
  obtain ⟨⟨⟨h1, h2⟩, h3⟩, h4⟩ := h
  refine ⟨_, h1, He.eqO_ok h2, ?_, h3⟩
  split at h4
  · rename_i e
    simp only [beq_iff_eq] at h4
    subst h4
    exact e
  · cases h4

/-! ### a program -/
structure TD where
  fs : List FI
  gl : List (Str × GK)
  xs : List Str
  prs : List ((Nat × TC) × Bool)
  x0 : List Nat
  gvs : List D
  /-- classes by number; which attributes their instances have; names of attributes, methods -/
  cls : List Str
  fas : List (Nat × Nat)
  tb : Tb
  /-- exceptions whose own __init__ keeps one attribute: exception, attribute, the __init__ -/
  xis : List ((Nat × Nat) × FI)
  /-- ValueError's number -/
  vE : Option Nat
  /-- isinstance of own classes: class, class, the answer -/
  iss : List ((Nat × Nat) × Bool) := []
namespace TD
variable (t : TD)
def faOf (p : Str × GK) : He.Fa := match p.2 with
  | .bi => .free p.1
  | .va k => (match t.gvs[k]? with
    | some (.int i) => .int p.1 i
    | some (.str z) => .str p.1 z
    | some (.tup _) => .glo p.1
    | _ => .free p.1)
  | _ => .glo p.1
def xbase (f : FI) : Str := match xiT f.d.body with
  | some x => x.B
  | none => ⟨#[]⟩
def fa : List He.Fa := t.gl.map t.faOf ++ ((t.x0.map fun c => .exc (t.xs.getD c ⟨#[]⟩)) ++ t.xis.map fun p => .glo (xbase p.2))
def all : List FI := t.fs ++ t.xis.map (·.2)
def fn : List He.DefD := t.all.map (·.d)
def xcl (K : PySem.W.Frag) (c : Nat) : Addr := He.ga K (t.xs.getD c ⟨#[]⟩)
def gvL : List (D × V) := t.gvs.filterMap fun d => match d with
  | .int i => some (.int i, V.int i)
  | .str z => some (.str z, V.str z)
  | _ => none
/-- constants that are tuples of ints -/
def gvT (K : PySem.W.Frag) : List (D × V) := t.gl.filterMap fun p => match p.2 with
  | .va k => (match t.gvs[k]? with
    | some (.tup xs) => some (.tup xs, V.ref (He.ga K p.1))
    | _ => none)
  | _ => none
def ca (K : PySem.W.Frag) (c : Nat) : Addr := He.ga K (t.cls.getD c ⟨#[]⟩)
/-- an exception's class -/
def xv (K : PySem.W.Frag) (c : Nat) : Value := if t.vE = some c then .type "ValueError" else .ref (t.xcl K c)
def gm (hs : List Key → Int) (K : PySem.W.Frag) : Gm := ⟨K, hs, t.ca K, atN t.tb.at_, atN_inj t.tb.at_, t.xv K, t.gvL ++ t.gvT K, fun v => ∀ u ∈ t.tb.unc, v ≠ t.xv K u⟩
def cl : Cls := ⟨fun c m => t.tb.mts.lookup (c, m), fun c => t.tb.inis.lookup c, fun c s => (t.prs.lookup (c, s)), fun c => if t.vE = some c then none else if t.x0.contains c then some none else (t.xis.find? fun p => p.1.1 == c).map fun p => some p.1.2, fun k => t.gvs[k]?, fun c f => t.fas.contains (c, f), fun c s => if t.vE = some c then none else t.prs.lookup (c, s), fun c => decide (c < t.xs.length) && !t.tb.unc.contains c, t.vE, fun c d => t.iss.lookup (c, d)⟩
def fad (K : PySem.W.Frag) (i : Nat) : Addr := match t.fs.reverse[i]? with
  | some f => He.fAd K f.d.at_
  | none => 0
end TD
def excB (K : PySem.W.Frag) (C : Addr) : Bool := He.eqO (PySem.W.findIn K (.ref C) "__getattribute__") (some (some (.builtin "BaseException.__getattribute__"))) && He.eqO (PySem.W.findIn K (.ref C) "__getattr__") (some none) &&
  decide (PySem.W.subIn K (.ref C) (.type "BaseException") = some true) && PySem.W.hasDictIn K C && He.eqO (PySem.W.findIn K (.ref C) "__class__") (some (some (.builtin "object.__class__"))) &&
  He.eqO (PySem.W.specialIn K (.builtin "object.__class__") "__get__") (some (some (.builtin "getset_descriptor.__get__"))) && decide (PySem.W.takesIn K (.builtin "object.__class__") = some true) && decide (PySem.W.mroIn K C (.type "object") = some true)
theorem excB_ok {K : PySem.W.Frag} {C : Addr} (h : excB K C = true) : ExcC K C := by
  unfold excB at h
  simp only [Bool.and_eq_true, decide_eq_true_eq] at h
  obtain ⟨⟨⟨⟨⟨⟨⟨h1, h2⟩, h3⟩, h4⟩, h5⟩, h6⟩, h7⟩, h8⟩ := h
  exact ⟨He.eqO_ok h1, He.eqO_ok h2, h3, h4, He.eqO_ok h5, He.eqO_ok h6, h7, h8⟩
def insB (K : PySem.W.Frag) (C : Addr) : Bool := clsB K C && (He.eqO (PySem.W.findIn K (.ref C) "__class__") (some (some (.builtin "object.__class__"))) &&
  (He.eqO (PySem.W.specialIn K (.builtin "object.__class__") "__get__") (some (some (.builtin "getset_descriptor.__get__"))) && (decide (PySem.W.takesIn K (.builtin "object.__class__") = some true) && decide (PySem.W.mroIn K C (.type "object") = some true))))
def TD.exC (t : TD) (K : PySem.W.Frag) : Bool := (List.range t.cls.length).all (fun c => clsB K (t.ca K c)) && (t.fas.all fun p => decide (p.1 < t.cls.length) && He.eqO (PySem.W.findIn K (.ref (t.ca K p.1)) (atN t.tb.at_ p.2)) (some none)) &&
  (t.tb.mts.all fun p => decide (p.1.1 < t.cls.length) && methB K (t.ca K p.1.1) (atN t.tb.at_ p.1.2) (t.fad K p.2)) && (t.tb.inis.all fun p => mkB K (t.ca K p.1) (t.fad K p.2)) && t.tb.cfs.all fun p => cfB K (t.ca K p.1.1) (t.fad K p.2) (atN t.tb.at_ p.1.2)
def TD.exX (t : TD) (K : PySem.W.Frag) : Bool := t.xis.all fun p => xiK K (t.xcl K p.1.1) (He.fAd K p.2.d.at_) (He.ga K (TD.xbase p.2)) (atN t.tb.at_ p.1.2)
def TD.exU (t : TD) (K : PySem.W.Frag) : Bool := (List.range t.xs.length).all fun c => t.tb.unc.contains c || t.tb.unc.all fun u => decide (t.xv K c ≠ t.xv K u)
def TD.exI (t : TD) (K : PySem.W.Frag) : Bool := t.iss.all fun p => insB K (t.ca K p.1.1) && decide (PySem.W.kitOne K (.ref (t.ca K p.1.1)) (.ref (t.ca K p.1.2)) = some p.2)
def intsD : List D → Option (List Int)
  | [] => some []
  | .int i :: r => (intsD r).map fun l => i :: l
  | _ :: _ => none
def intsV : List Value → List Int → Bool
  | [], [] => true
  | .int j _ :: vs, i :: is => decide (j = i) && intsV vs is
  | _, _ => false
def tupB (K : PySem.W.Frag) (a : Addr) (is : List Int) : Bool := match K.lookup a with
  | some o => decide (o.cls = .type "tuple") && (match o.data with
    | .seq its _ => decide (its.size ≤ sizeLine) && intsV its.toList is
    | _ => false)
  | none => false
theorem intsV_ok : ∀ {vs : List Value} {is : List Int}, intsV vs is = true → Vals (is.map V.int) vs
  | [], [], _ => .nil
  | [], _ :: _, h => by cases h
  | v :: vs, [], h => by cases v <;> cases h
  | v :: vs, i :: is, h => by
    cases v <;> try (cases h; done)
    rename_i j t
    obtain ⟨h1, h2⟩ := Bool.and_eq_true_iff.mp h
    have := of_decide_eq_true h1
    subst this
    exact .cons ⟨t, rfl⟩ (intsV_ok h2)
theorem tupB_ok {K : PySem.W.Frag} {a : Addr} {is : List Int} (h : tupB K a is = true) : KTup K a (is.map V.int) := by
  unfold tupB at h
  split at h
  · rename_i o hl
    obtain ⟨h1, h2⟩ := Bool.and_eq_true_iff.mp h
    split at h2
    · rename_i its n hd
      obtain ⟨h3, h4⟩ := Bool.and_eq_true_iff.mp h2
      exact ⟨o, its, n, hl, of_decide_eq_true h1, hd, of_decide_eq_true h3, intsV_ok h4⟩
    · cases h2
  · cases h
theorem intsD_ok {G : Gm} {w : Wd} : ∀ {xs : List D} {is : List Int}, intsD xs = some is → Reps G w xs (is.map V.int)
  | [], _, h => by cases h; rfl
  | x :: xs, is, h => by
    cases x <;> try (cases h; done)
    rename_i i
    obtain ⟨l, h1, rfl⟩ := Option.map_eq_some_iff.mp h
    exact ⟨.int i, _, rfl, rfl, intsD_ok h1⟩
def TD.exT (t : TD) (K : PySem.W.Frag) : Bool := t.gl.all fun p => match p.2 with
  | .va k => (match t.gvs[k]? with
    | some (.tup xs) => (match intsD xs with
      | some is => tupB K (He.ga K p.1) is
      | none => false)
    | _ => true)
  | _ => true
theorem TD.gvT_ok {t : TD} {G : Gm} {w : Wd} {K : PySem.W.Frag} (hG : G.K = K) (h : t.exT K = true) {p : D × V} (hp : p ∈ t.gvT K) : Rep G w p.1 p.2 := by
  obtain ⟨⟨x, g⟩, hm, e⟩ := List.mem_filterMap.mp hp
  have h1 := List.all_eq_true.mp h _ hm
  cases g <;> try (cases e; done)
  rename_i k
  dsimp only at e h1
  split at e
  · rename_i xs hk
    cases e
    rw [hk] at h1
    dsimp only at h1
    split at h1
    · rename_i is hi
      exact ⟨_, _, rfl, .inr (by rw [hG]; exact tupB_ok h1), intsD_ok hi⟩
    · cases h1
  · cases e
def TD.ex (t : TD) (K : PySem.W.Frag) : Bool := t.exT K && ((((t.exC K && t.exX K) && t.exU K) && t.exI K) && t.prs.all fun p => (decide (t.vE = some p.1.1) || (excB K (t.xcl K p.1.1) && decide (PySem.W.kitOne K (.ref (t.xcl K p.1.1)) (tcv (t.gm (fun _ => 0) K) p.1.2) = some p.2))) && decide (PySem.W.exmOne K (t.xv K p.1.1) (tcv (t.gm (fun _ => 0) K) p.1.2) = some p.2))
/-- the table of names is as the functions and classes stand -/
def TD.glOk (t : TD) : Bool := (atOk t.tb.at_ && t.xis.all fun p => xiB p.2.N p.2.d.scope (TD.xbase p.2) (atN t.tb.at_ p.1.2) p.2.d.body && C8.scC p.2.N p.2.N p.2.d.scope && decide (p.2.ps = p.2.N)) && t.gl.all fun p => match p.2 with
  | .fn i => (match t.fs.reverse[i]? with
    | some f => decide (f.d.at_ = (p.1, none))
    | none => false)
  | .xc c => decide (t.xs[c]? = some p.1) && decide (t.vE ≠ some c)
  | .va k => (match t.gvs[k]? with
    | some (.int _) => true
    | some (.str _) => true
    | some (.tup _) => true
    | _ => false)
  | .bi => true
  | .cls c => decide (t.cls[c]? = some p.1)

theorem lookup_in2 {α β : Type} [BEq α] [LawfulBEq α] {x : α} {k : β} : ∀ {l : List (α × β)}, l.lookup x = some k → (x, k) ∈ l
  | [], h => by cases h
  | (y, u) :: r, h => by
    rw [List.lookup_cons] at h
    split at h
    · rename_i e
      cases h
      rw [beq_iff_eq.mp e]
      exact List.mem_cons_self
    · exact List.mem_cons_of_mem _ (lookup_in2 h)
instance : LawfulBEq TC := inferInstance
section
variable {t : TD} {K : PySem.W.Frag} {h : Heap} {mg : Str → Option Value}
theorem TD.fact (c : SaysB t.fa t.fn t.ex K) {p : Str × GK} (hp : p ∈ t.gl) : (t.faOf p).ok K = true := by
  obtain ⟨i, hi, e⟩ := List.mem_iff_getElem.mp (show t.faOf p ∈ t.fa from List.mem_append_left _ (List.mem_map_of_mem hp))
  exact c.1.fact i (f := t.faOf p) (by rw [List.getElem?_eq_getElem hi, e])
/-- how a def of the text binds its arguments -/
def BindOk (f : FI) : Prop := ∀ (kV doc pm : Value) (an : Option Addr) (cdv ct : Value) (us : List Value), us.length = f.ps.length → bindArgs (PySem.W.fnOf f.d.name f.d.qual f.d.params f.d.body f.d.scope .none kV doc pm an cdv ct) ⟨us, []⟩ = pure (f.ps.zip us)
def BindAll : List FI → Prop
  | [] => True
  | f :: r => BindOk f ∧ BindAll r
theorem BindAll.at : ∀ {fs : List FI} {f : FI}, BindAll fs → f ∈ fs → BindOk f
  | g :: r, f, h, hm => by
    rcases List.mem_cons.mp hm with e | e
    · rw [e]; exact h.1
    · exact BindAll.at h.2 e
theorem TD.fund (c : SaysB t.fa t.fn t.ex K) (hd : (t.all.all fun f => f.d.dfl.isEmpty && f.d.kwd.isEmpty) = true) (hb : BindAll t.all) {f : FI} (hm : f ∈ t.all) : ∃ fd, FunD K f.d.name f.d.qual f.d.params f.d.body f.d.scope [] [] (He.fAd K f.d.at_) fd ∧ Binds K fd f.ps [] := by
  have he := List.all_eq_true.mp hd f hm
  obtain ⟨e1, e2⟩ := Bool.and_eq_true_iff.mp he
  have e1 := List.isEmpty_iff.mp e1
  have e2 := List.isEmpty_iff.mp e2
  obtain ⟨j, hj, e⟩ := List.mem_iff_getElem.mp (show f.d ∈ t.fn from List.mem_map_of_mem hm)
  obtain ⟨fd, FD⟩ := c.1.def_ j (d := f.d) (by rw [List.getElem?_eq_getElem hj, e])
  have FD : FunD K f.d.name f.d.qual f.d.params f.d.body f.d.scope [] [] (He.fAd K f.d.at_) fd := by
    unfold He.DefD.dvs He.DefD.kws at FD
    rw [e1, e2] at FD
    exact FD
  exact ⟨fd, FD, FD.bindsN (BindAll.at hb hm)⟩
theorem TD.gf {hs : List Key → Int} (c : SaysB t.fa t.fn t.ex K) (hg0 : t.glOk = true) (hdf : (t.all.all fun f => f.d.dfl.isEmpty && f.d.kwd.isEmpty) = true) (hbn : BindAll t.all) (X : K.In h) (G : h.Ns mainGlobals mg) : GF (t.gm hs K) mg t.cl t.gl (t.fad K) t.tb := by
  obtain ⟨ha0, hg⟩ := Bool.and_eq_true_iff.mp hg0
  obtain ⟨ha, hxi⟩ := Bool.and_eq_true_iff.mp ha0
  obtain ⟨hTt, hC00⟩ := Bool.and_eq_true_iff.mp c.2
  obtain ⟨hC0, hX⟩ := Bool.and_eq_true_iff.mp hC00
  obtain ⟨hC0', hI⟩ := Bool.and_eq_true_iff.mp hC0
  obtain ⟨hC1, hU⟩ := Bool.and_eq_true_iff.mp hC0'
  obtain ⟨hC, hXX⟩ := Bool.and_eq_true_iff.mp hC1
  simp only [TD.exC, Bool.and_eq_true] at hC
  obtain ⟨⟨⟨⟨c1, c2⟩, c3⟩, c4⟩, c5⟩ := hC
  have cok : ∀ k, k < t.cls.length → L2.Cls K (t.ca K k) := fun k hk => clsB_ok (List.all_eq_true.mp c1 k (List.mem_range.mpr hk))
  exact {
    xc := fun x k hx => by
      have h1 := He.glo_ok X G (show (He.Fa.glo x).ok K = true from TD.fact c hx)
      have h2 := List.all_eq_true.mp hg _ hx
      obtain ⟨h3, h4⟩ := Bool.and_eq_true_iff.mp h2
      have h3 : t.xs[k]? = some x := of_decide_eq_true h3
      have ev : t.xv K k = .ref (t.xcl K k) := if_neg (of_decide_eq_true h4)
      refine ⟨?_, _, ev⟩
      rw [h1]
      show some (Value.ref (He.ga K x)) = some (t.xv K k)
      rw [ev]
      show some (Value.ref (He.ga K x)) = some (.ref (He.ga K (t.xs.getD k ⟨#[]⟩)))
      rw [List.getD_eq_getElem?_getD, h3]; rfl
    bi := fun x hx => He.free_ok X G (show (He.Fa.free x).ok K = true from TD.fact c hx)
    va := fun x k hx d hd => by
      have hd' : t.gvs[k]? = some d := hd
      have h2 := List.all_eq_true.mp hg _ hx
      have h2' : (match t.gvs[k]? with
        | some (.int _) => true
        | some (.str _) => true
        | some (.tup _) => true
        | _ => false) = true := h2
      have hf := TD.fact c hx
      unfold TD.faOf at hf
      dsimp only at hf
      rw [hd'] at h2' hf
      have hm := List.mem_of_getElem? hd'
      cases d <;> try (cases h2'; done)
      · rename_i i
        obtain ⟨u, e⟩ := He.int_ok X G hf
        exact ⟨.int i, _, List.mem_append_left _ (List.mem_filterMap.mpr ⟨_, hm, rfl⟩), e, ⟨u, rfl⟩⟩
      · rename_i z
        obtain ⟨u, e⟩ := He.str_ok X G hf
        exact ⟨.str z, _, List.mem_append_left _ (List.mem_filterMap.mpr ⟨_, hm, rfl⟩), e, ⟨u, rfl⟩⟩
      · rename_i xs
        have e := He.glo_ok X G hf
        exact ⟨.ref (He.ga K x), _, List.mem_append_right _ (List.mem_filterMap.mpr ⟨_, hx, by dsimp only; rw [hd']⟩), e, rfl⟩
    kit := fun k s r hr => by
      have hr' : (if t.vE = some k then none else t.prs.lookup (k, s)) = some r := hr
      split at hr'
      · cases hr'
      · rename_i hv
        have hm := lookup_in2 hr'
        have h2 := List.all_eq_true.mp hX _ hm
        simp only [Bool.and_eq_true, Bool.or_eq_true, decide_eq_true_eq] at h2
        have h3 := h2.1.resolve_left hv
        exact ⟨_, if_neg hv, excB_ok h3.1, h3.2⟩
    sub := fun k s r hr => by
      have hm := lookup_in2 (show t.prs.lookup (k, s) = some r from hr)
      have h2 := List.all_eq_true.mp hX _ hm
      simp only [Bool.and_eq_true, Bool.or_eq_true, decide_eq_true_eq] at h2
      exact h2.2
    unc := fun k h hn => hn k (List.contains_iff_mem.mp h) rfl
    ve := fun k h => by
      have h' : t.vE = some k := h
      show (if t.vE = some k then _ else _) = _
      exact if_pos h'
    isc := fun k d r hr => by
      have hm := lookup_in2 (show t.iss.lookup (k, d) = some r from hr)
      have h2 := List.all_eq_true.mp hI _ hm
      simp only [insB, Bool.and_eq_true, decide_eq_true_eq] at h2
      obtain ⟨⟨h3, h4, h5, h6, h7⟩, h8⟩ := h2
      exact ⟨⟨clsB_ok h3, He.eqO_ok h4, He.eqO_ok h5, h6, h7⟩, h8⟩
    cln := fun k h u hu => by
      have h' : (decide (k < t.xs.length) && !t.tb.unc.contains k) = true := h
      obtain ⟨h1, h2⟩ := Bool.and_eq_true_iff.mp h'
      have h3 := List.all_eq_true.mp hU k (List.mem_range.mpr (of_decide_eq_true h1))
      have h4 := (Bool.or_eq_true_iff.mp h3).resolve_left (by simpa using h2)
      exact of_decide_eq_true (List.all_eq_true.mp h4 u hu)
    mkx := fun k hk => by
      have hk0 : (if t.vE = some k then none else if t.x0.contains k then some none else (t.xis.find? fun p => p.1.1 == k).map fun p => some p.1.2 : Option (Option Nat)) = some none := hk
      have hv : ¬ t.vE = some k := fun z => by rw [if_pos z] at hk0; cases hk0
      have hm : t.x0.contains k = true := by
        have hk' := hk0
        rw [if_neg hv] at hk'
        split at hk'
        · assumption
        · cases hz : t.xis.find? (fun p => p.1.1 == k) with
          | none => rw [hz] at hk'; cases hk'
          | some _ => rw [hz] at hk'; cases hk'
      have hm' : k ∈ t.x0 := by simpa using hm
      obtain ⟨i, hi, e⟩ := List.mem_iff_getElem.mp (show He.Fa.exc (t.xs.getD k ⟨#[]⟩) ∈ t.fa from List.mem_append_right _ (List.mem_append_left _ (List.mem_map_of_mem hm')))
      obtain ⟨h1, h2, h3, h4⟩ := He.exc_ok (c.1.fact i (f := .exc (t.xs.getD k ⟨#[]⟩)) (by rw [List.getElem?_eq_getElem hi, e]))
      exact ⟨_, if_neg hv, h3, h4, h2, _, _, _, _, F.excBase_ValueError, h1⟩
    fn := fun x i hx => by
      have h1 := He.glo_ok X G (show (He.Fa.glo x).ok K = true from TD.fact c hx)
      have h2 := List.all_eq_true.mp hg _ hx
      dsimp only at h2
      unfold TD.fad
      cases hf : t.fs.reverse[i]? with
      | none => rw [hf] at h2; cases h2
      | some f =>
        rw [hf] at h2
        have h3 := of_decide_eq_true h2
        rw [h1]
        show some (Value.ref (He.ga K x)) = some (.ref (He.fAd K f.d.at_))
        rw [h3]; rfl
    at_ := fun i x h => by
      show atN t.tb.at_ i = x
      unfold atN
      rw [if_pos ha, h]
    fa := fun k f h => by
      have h' : (k, f) ∈ t.fas := List.contains_iff_mem.mp h
      have := List.all_eq_true.mp c2 _ h'
      simp only [Bool.and_eq_true, decide_eq_true_eq] at this
      exact ⟨cok k this.1, He.eqO_ok this.2⟩
    mtl := fun k m i h => lookup_in2 h
    mt := fun k m i h => by
      have := List.all_eq_true.mp c3 _ h
      simp only [Bool.and_eq_true, decide_eq_true_eq] at this
      exact ⟨cok k this.1, methB_ok this.2⟩
    inl := fun k i h => lookup_in2 h
    inm := fun p hp => by
      show ∃ i, t.tb.inis.lookup p.1 = some i
      have key : ∀ l : List (Nat × Nat), p ∈ l → ∃ i, l.lookup p.1 = some i := fun l => by
        induction l with
        | nil => intro h; cases h
        | cons q r ih =>
          intro h
          rw [show (q :: r).lookup p.1 = _ from List.lookup_cons]
          by_cases e : (p.1 == q.1) = true
          · rw [e]; exact ⟨_, rfl⟩
          · have e : (p.1 == q.1) = false := by simpa using e
            rw [e]
            rcases List.mem_cons.mp h with h | h
            · rw [h] at e; simp at e
            · exact ih h
      exact key _ hp
    ini := fun k i h => mkB_ok (List.all_eq_true.mp c4 _ h)
    clg := fun x k hx => by
      have h1 := He.glo_ok X G (show (He.Fa.glo x).ok K = true from TD.fact c hx)
      have h2 := List.all_eq_true.mp hg _ hx
      have h3 : t.cls[k]? = some x := of_decide_eq_true h2
      rw [h1]
      show some (Value.ref (He.ga K x)) = some (.ref (He.ga K (t.cls.getD k ⟨#[]⟩)))
      rw [List.getD_eq_getElem?_getD, h3]; rfl
    cf := fun k m i h => by
      have h5 := List.all_eq_true.mp c5 _ h
      dsimp only at h5
      obtain ⟨mc, q1, q2, q3, q4⟩ := cfB_ok h5
      exact ⟨mc, q1, q2, q3, q4⟩
    mkf := fun k f h => by
      have h0 : (if t.vE = some k then none else if t.x0.contains k then some none else (t.xis.find? fun p => p.1.1 == k).map fun p => some p.1.2 : Option (Option Nat)) = some (some f) := h
      have hv : ¬ t.vE = some k := fun z => by rw [if_pos z] at h0; cases h0
      have h' := h0
      rw [if_neg hv] at h'
      split at h'
      · cases h'
      · obtain ⟨p, hp, e⟩ := Option.map_eq_some_iff.mp h'
        cases e
        have hm := List.mem_of_find?_eq_some hp
        have hk := List.find?_some hp
        simp only [beq_iff_eq] at hk
        subst hk
        have x1 := List.all_eq_true.mp hxi _ hm
        simp only [Bool.and_eq_true, decide_eq_true_eq] at x1
        obtain ⟨⟨x1, x2⟩, x3⟩ := x1
        have x4 := List.all_eq_true.mp hXX _ hm
        have hall : p.2 ∈ t.all := List.mem_append_right _ (List.mem_map_of_mem hm)
        obtain ⟨fd, FD, B⟩ := TD.fund c hdf hbn hall
        rw [x3] at B
        have hB := He.glo_ok X G (show (He.Fa.glo (TD.xbase p.2)).ok K = true from by
          obtain ⟨i, hi, e⟩ := List.mem_iff_getElem.mp (show He.Fa.glo (TD.xbase p.2) ∈ t.fa from List.mem_append_right _ (List.mem_append_right _ (List.mem_map_of_mem hm)))
          exact c.1.fact i (f := .glo (TD.xbase p.2)) (by rw [List.getElem?_eq_getElem hi, e]))
        exact ⟨_, if_neg hv, xiK_ok (f := atN t.tb.at_ p.1.2) x4 FD B (C8.fnScope_by x2) x1 hB⟩ }
theorem TD.fok {P : Program} {w : World} {base : Heap} (c : SaysB t.fa t.fn t.ex K) (hg : t.glOk = true) (hp : chkP t.gl t.tb t.fs = true) (hd : (t.all.all fun f => f.d.dfl.isEmpty && f.d.kwd.isEmpty) = true) (hb : BindAll t.all) (X : K.In h) (G : h.Ns mainGlobals mg) :
    ∀ i f, t.fs.reverse[i]? = some f → FOk P w (t.gm (hsOf w) K) mg base (run t.cl (t.fs.map FI.fn)) f i (t.fad K i) := by
  refine fn_all (by rfl) (TD.gf c hg hd hb X G) t.fs hp fun i f hf => ?_
  have hm : f ∈ t.all := List.mem_append_left _ (List.mem_reverse.mp (List.mem_of_getElem? hf))
  have he := List.all_eq_true.mp hd f hm
  obtain ⟨e1, e2⟩ := Bool.and_eq_true_iff.mp he
  have e1 := List.isEmpty_iff.mp e1
  have e2 := List.isEmpty_iff.mp e2
  obtain ⟨j, hj, e⟩ := List.mem_iff_getElem.mp (show f.d ∈ t.fn from List.mem_map_of_mem hm)
  obtain ⟨fd, FD⟩ := c.1.def_ j (d := f.d) (by rw [List.getElem?_eq_getElem hj, e])
  have FD : FunD K f.d.name f.d.qual f.d.params f.d.body f.d.scope [] [] (He.fAd K f.d.at_) fd := by
    unfold He.DefD.dvs He.DefD.kws at FD
    rw [e1, e2] at FD
    exact FD
  refine ⟨e1, e2, fd, ?_, FD.bindsN (BindAll.at hb hm)⟩
  unfold TD.fad
  rw [hf]
  exact FD
/-- the law's end -/
theorem TD.end {l : PySem.W.OpenLaw} {n : Nat} {d : DefRec} {f : FI} {r : List FI} {x : Str} (hf : t.fs = f :: r) (hx : f.ps = [x]) (hat : f.d.at_ = (d.name, none)) (hg : t.glOk = true) (hp : chkP t.gl t.tb t.fs = true) (hd : (t.all.all fun f => f.d.dfl.isEmpty && f.d.kwd.isEmpty) = true) (hb : BindAll t.all)
    (hm : (d.name, GK.fn r.length) ∈ t.gl)
    (law : ∀ ns : List Int, ns.length ≤ n → ∃ st, run t.cl (t.fs.map FI.fn) r.length [.scr ns] [] 0 = .ok (.bl true) st)
    (w : World) (mg : Str → Option Value) (fa : Addr) (h : Heap) (hs : ∃ K : PySem.W.Frag, K.In h ∧ SaysB t.fa t.fn t.ex K) (G : h.Ns mainGlobals mg) (hmg : mg d.name = some (.ref fa)) :
    ∃ (K : PySem.W.Frag) (fd : FuncData) (sp : Sp), K.In h ∧ (∀ (s : Shared) (u : Value), BindsTo s fd ⟨[u], []⟩ [(x, u)]) ∧
      (∀ (H : Hp) (a : Addr) (ns : List Int), ns.length ≤ n → Only H → SqL K H a (ns.map V.int) → sp [.ref a] H (fun v _ => v = .bl true) fun _ _ _ => False) ∧
      ∀ base : Heap, K.In base → base.Ns mainGlobals mg → FnOk l.prog w K mg base (CXB (t.gm (hsOf w) K) l.prog w) (f.lvl + 1) fa fd [x] sp := by
  obtain ⟨K, KX, c⟩ := hs
  have hrev : t.fs.reverse[r.length]? = some f := by rw [hf]; simp
  have gf := TD.gf (hs := hsOf w) c hg hd hb KX G
  have efa : t.fad K r.length = fa := by
    have := (gf.fn _ _ hm).symm.trans hmg
    cases this; rfl
  obtain ⟨j, hj, e⟩ := List.mem_iff_getElem.mp (show f.d ∈ t.fn from List.mem_map_of_mem (show f ∈ t.all from List.mem_append_left _ (by rw [hf]; exact List.mem_cons_self)))
  have hmem : f ∈ t.all := List.mem_append_left _ (by rw [hf]; exact List.mem_cons_self)
  have he := List.all_eq_true.mp hd f hmem
  obtain ⟨e1, e2⟩ := Bool.and_eq_true_iff.mp he
  have e1 := List.isEmpty_iff.mp e1
  have e2 := List.isEmpty_iff.mp e2
  obtain ⟨fd, FD⟩ := c.1.def_ j (d := f.d) (by rw [List.getElem?_eq_getElem hj, e])
  have FD : FunD K f.d.name f.d.qual f.d.params f.d.body f.d.scope [] [] (He.fAd K f.d.at_) fd := by
    unfold He.DefD.dvs He.DefD.kws at FD
    rw [e1, e2] at FD
    exact FD
  have hfad : He.fAd K f.d.at_ = fa := by
    rw [← efa]
    unfold TD.fad
    rw [hrev]
  rw [hfad] at FD
  refine ⟨K, fd, spOf (t.gm (hsOf w) K) (run t.cl (t.fs.map FI.fn)) [x].length r.length, KX, fun s u => ?_, fun H a ns hn _ hS => ?_, fun base _ _ => ?_⟩
  · have := FD.bindsA (ps := f.ps) (BindAll.at hb hmem) s [u] (by rw [hx]; rfl)
    rw [hx] at this
    exact this
  · have hgv : ∀ (wd : Wd), wd.φ = [] → wd.ex = [] → wd.st = [] → ∀ p ∈ (t.gm (hsOf w) K).gv, Rep (t.gm (hsOf w) K) wd p.1 p.2 := fun wd _ _ _ p hp => by
      rcases List.mem_append.mp hp with hp | hp
      · obtain ⟨d, hd1, hd2⟩ := List.mem_filterMap.mp hp
        cases d <;> first
          | (cases hd2; done)
          | (cases hd2; rfl)
      · exact TD.gvT_ok rfl (Bool.and_eq_true_iff.mp c.2).1 hp
    have := law_end (n := n) (f := f) (fs := r) (gl := t.gl) (mg := mg) (cl := t.cl) (fad := t.fad K) gf hgv (by rw [← hf]; exact law) (by rw [hx]; rfl) H a ns hn hS
    rw [← hf, hx] at this
    exact this
  · obtain ⟨⟨fd', F', B', K', osl', oc', od', lk'⟩, _⟩ := TD.fok (P := l.prog) (w := w) (base := base) c hg hp hd hb KX G r.length f hrev
    rw [efa] at F'
    have hfd : fd' = fd := by
      obtain ⟨oc, od, dV, kV, doc, pm, an, cdv, ct, osl, efd, lk, _⟩ := FD.ex
      rw [efa] at lk'
      have := lk'.symm.trans lk
      cases this; rfl
    rw [hfd, hx] at F'
    exact F'
end

/-- a law whose functions may let exceptions out -/
theorem walk_end {Gg : (List Key → Int) → PySem.W.Frag → Gm} {l : PySem.W.OpenLaw} {n k : Nat} {q : Program} {loose : List Str} {XP : (Str → Option Value) → Heap → Prop} {YP : World → Heap → Prop} {d : DefRec} {x : Str}
    (m1 : l.most = some n) (m2 : n ≤ sizeLine) (df : d.params.defaults = []) (rm : Room k callerA)
    (F : ∀ (w : World) (mg : Str → Option Value) (fa : Addr) (h : Heap), YP w h → h.Ns mainGlobals mg → mg d.name = some (.ref fa) →
      ∃ (K : PySem.W.Frag) (fd : FuncData) (sp : Sp), K.In h ∧ (∀ (s : Shared) (u : Value), BindsTo s fd ⟨[u], []⟩ [(x, u)]) ∧
        (∀ (H : Hp) (a : Addr) (ns : List Int), ns.length ≤ n → Only H → SqL K H a (ns.map V.int) → sp [.ref a] H (fun v _ => v = .bl true) fun _ _ _ => False) ∧
        ∀ base : Heap, K.In base → base.Ns mainGlobals mg → FnOk l.prog w K mg base (CXB (Gg (hsOf w) K) l.prog w) k fa fd [x] sp) : PySem.W.WalkO q loose XP YP l.row.toRowW d [] (fun f vs => PySem.call f vs) := by
  refine Att.attach_call m1 df ?_
  intro w s₀ s₁ mg mb fa o pm cd doc a vs ns G Y _ _ _ hmg hobj hints hlen hgens
  obtain ⟨K, fd, sp, hK, hbind, hsp, hfn⟩ := F w mg fa s₁.heap Y G.T.g hmg
  refine law_call hK G.T.g G.T.b G.T.builtins G.T.nolimit hgens hobj hints (Nat.le_trans hlen m2) rm hfn hbind (fun H ho hs => hsp H a ns hlen ho hs) ?_
  intro H e s' hx
  exact cxb_no hx
end Den
set_option maxHeartbeats 4000000
/-! DSim: the interpreter's equations, one a constructor; what simp may look into. -/
namespace Den
open PySem L2

theorem bind_cg {α β : Type} {r r' : Res α} {f : α → Sto → Res β} (h : r = r') : r.bind f = r'.bind f := by rw [h]
theorem sr_cg {α : Type} {r r' : Res α} {ρ : DEnv} {f : α → Sto → SR} (h : r = r') : r.sr ρ f = r'.sr ρ f := by rw [h]
theorem seq_cg {r r' : SR} {f : DEnv → Sto → SR} (h : r = r') : r.seq f = r'.seq f := by rw [h]
theorem bind_ok {α β : Type} {a : α} {st : Sto} {f : α → Sto → Res β} : (Res.ok a st).bind f = f a st := rfl
theorem bind_exc {α β : Type} {c : Nat} {fs : List (Nat × D)} {st : Sto} {f : α → Sto → Res β} : (Res.exc c fs st : Res α).bind f = .exc c fs st := rfl
theorem sr_ok {α : Type} {a : α} {st : Sto} {ρ : DEnv} {f : α → Sto → SR} : (Res.ok a st).sr ρ f = f a st := rfl
theorem sr_exc {α : Type} {c : Nat} {fs : List (Nat × D)} {st : Sto} {ρ : DEnv} {f : α → Sto → SR} : (Res.exc c fs st : Res α).sr ρ f = .exc c fs ρ st := rfl
theorem seq_nx {ρ : DEnv} {st : Sto} {f : DEnv → Sto → SR} : (SR.nx ρ st).seq f = f ρ st := rfl
theorem seq_rt {d : D} {st : Sto} {f : DEnv → Sto → SR} : (SR.rt d st).seq f = .rt d st := rfl
theorem seq_bk {ρ : DEnv} {st : Sto} {f : DEnv → Sto → SR} : (SR.bk ρ st).seq f = .bk ρ st := rfl
theorem seq_ct {ρ : DEnv} {st : Sto} {f : DEnv → Sto → SR} : (SR.ct ρ st).seq f = .ct ρ st := rfl
theorem seq_exc {c : Nat} {fs : List (Nat × D)} {ρ : DEnv} {st : Sto} {f : DEnv → Sto → SR} : (SR.exc c fs ρ st).seq f = .exc c fs ρ st := rfl
/-! tests -/
def tst (r : Res D) (f g : Sto → Res D) : Res D := r.bind fun x st => match x with
  | .bl true => f st
  | .bl false => g st
  | _ => .stk
def tsS (r : Res D) (ρ : DEnv) (f g : Sto → SR) : SR := r.sr ρ fun x st => match x with
  | .bl true => f st
  | .bl false => g st
  | _ => .stk
theorem tst_ok {b : Bool} {st : Sto} {f g : Sto → Res D} : tst (.ok (.bl b) st) f g = if b = true then f st else g st := by cases b <;> rfl
theorem tsS_ok {b : Bool} {st : Sto} {ρ : DEnv} {f g : Sto → SR} : tsS (.ok (.bl b) st) ρ f g = if b = true then f st else g st := by cases b <;> rfl
theorem tsS_exc {c : Nat} {fs : List (Nat × D)} {st : Sto} {ρ : DEnv} {f g : Sto → SR} : tsS (.exc c fs st) ρ f g = .exc c fs ρ st := rfl
theorem tst_cg {r r' : Res D} {f g : Sto → Res D} (h : r = r') : tst r f g = tst r' f g := by rw [h]
theorem tsS_cg {r r' : Res D} {ρ : DEnv} {f g : Sto → SR} (h : r = r') : tsS r ρ f g = tsS r' ρ f g := by rw [h]
section
variable {pg : Pg} {bs : Nat} {ρ : DEnv} {st : Sto}
theorem x_var {i : Nat} : evE pg bs (.var i) ρ st = match ρ[i]? with
    | some (.v d) => .ok d st
    | _ => .stk := rfl
theorem x_cst {d : D} : evE pg bs (.cst d) ρ st = .ok d st := rfl
theorem x_gl {k : Nat} : evE pg bs (.gl k) ρ st = match pg.gv k with
    | some d => .ok d st
    | none => .stk := rfl
theorem x_un {o : U} {a : E} : evE pg bs (.un o a) ρ st = (evE pg bs a ρ st).bind fun x st => opU o x st := rfl
theorem x_bin {o : B} {a b : E} : evE pg bs (.bin o a b) ρ st = (evE pg bs a ρ st).bind fun x st => (evE pg bs b ρ st).bind fun y st => opB o x y st := rfl
theorem x_cmp {o : C} {a b : E} : evE pg bs (.cmp o a b) ρ st = (evE pg bs a ρ st).bind fun x st => (evE pg bs b ρ st).bind fun y st => opC o x y st := rfl
theorem x_chn {o o' : C} {a b c : E} : evE pg bs (.chn o o' a b c) ρ st = (evE pg bs a ρ st).bind fun x st => (evE pg bs b ρ st).bind fun y st => tst (opC o x y st) (fun st => (evE pg bs c ρ st).bind fun w st => opC o' y w st) (fun st => .ok (.bl false) st) := rfl
theorem x_not {a : E} : evE pg bs (.not a) ρ st = (evE pg bs a ρ st).bind fun x st => match x with
    | .bl b => .ok (.bl (!b)) st
    | _ => .stk := rfl
theorem x_and {as : E} : evE pg bs (.and as) ρ st = evAnd pg bs as ρ st := rfl
theorem x_or {as : E} : evE pg bs (.or as) ρ st = evOr pg bs as ρ st := rfl
theorem x_and0 : evAnd pg bs .nil ρ st = .ok (.bl true) st := rfl
theorem x_andc {a as : E} : evAnd pg bs (.cons a as) ρ st = tst (evE pg bs a ρ st) (fun st => evAnd pg bs as ρ st) (fun st => .ok (.bl false) st) := rfl
theorem x_or0 : evOr pg bs .nil ρ st = .ok (.bl false) st := rfl
theorem x_orc {a as : E} : evOr pg bs (.cons a as) ρ st = tst (evE pg bs a ρ st) (fun st => .ok (.bl true) st) (fun st => evOr pg bs as ρ st) := by
  unfold tst
  show ((evE pg bs a ρ st).bind fun x st => match x with
    | .bl false => evOr pg bs as ρ st
    | .bl true => .ok (.bl true) st
    | _ => .stk) = _
  congr
  funext x st
  cases x <;> try rfl
  rename_i b
  cases b <;> rfl
theorem x_ife {c a b : E} : evE pg bs (.ife c a b) ρ st = tst (evE pg bs c ρ st) (fun st => evE pg bs a ρ st) (fun st => evE pg bs b ρ st) := rfl
theorem x_tup {as : E} : evE pg bs (.tup as) ρ st = (evA pg bs as ρ st).bind fun xs st => if xs.length ≤ LIM then .ok (.tup xs) st else .stk := rfl
theorem x_lst {m : Bool} {as : E} : evE pg bs (.lst m as) ρ st = (evA pg bs as ρ st).bind fun xs st => if xs.length ≤ LIM then (if m then .ok (.loc st.length) (st ++ [.mu (.lst xs)]) else .ok (.lst xs) st) else .stk := rfl
theorem x_idx {a b : E} : evE pg bs (.idx a b) ρ st = (evE pg bs a ρ st).bind fun x st => (evE pg bs b ρ st).bind fun y st => idxD x y st := rfl
theorem x_revl {a : E} : evE pg bs (.revl a) ρ st = (evE pg bs a ρ st).bind fun x st => match look st x with
    | some (.lst xs) => .ok (.lst xs.reverse) st
    | some (.scr ns) => .ok (.lst (ns.map D.int).reverse) st
    | _ => .stk := rfl
theorem x_slc {a lo hi : E} : evE pg bs (.slc a lo hi) ρ st = (evE pg bs a ρ st).bind fun x st => (evO pg bs lo ρ st).bind fun l st => (evO pg bs hi ρ st).bind fun h st => slcD x l h st := rfl
theorem x_call {f : Nat} {md : Mode} {as : E} : evE pg bs (.call f md as) ρ st = (evA pg bs as ρ st).bind fun xs st => callM pg f md xs st bs := rfl
theorem x_pr {p : P} {as : E} : evE pg bs (.pr p as) ρ st = (evA pg bs as ρ st).bind fun xs st => prim p xs st := rfl
theorem x_isi {a : E} {t : TC} : evE pg bs (.isi a t) ρ st = (evE pg bs a ρ st).bind fun x st => match isiD st x t with
    | some b => .ok (.bl b) st
    | none => .stk := rfl
theorem x_isx {i : Nat} {t : TC} : evE pg bs (.isx i t) ρ st = match ρ[i]? with
    | some (.x c _) => match pg.kit c t with
      | some r => .ok (.bl r) st
      | none => .stk
    | _ => .stk := rfl
theorem x_nil : evA pg bs .nil ρ st = .ok [] st := rfl
theorem x_cons {a as : E} : evA pg bs (.cons a as) ρ st = (evE pg bs a ρ st).bind fun x st => (evA pg bs as ρ st).bind fun xs st => .ok (x :: xs) st := rfl
theorem x_o0 : evO pg bs .nil ρ st = .ok none st := rfl
theorem x_o1 {a as : E} : evO pg bs (.cons a as) ρ st = (evE pg bs a ρ st).bind fun x st => match x with
    | .int i => .ok (some i) st
    | _ => .stk := rfl
theorem x_lc {m : Bool} {own : List Nat} {tg : T} {k : IK} {as cnd elt : E} : evE pg bs (.lc m own tg k as cnd elt) ρ st = (evA pg bs as ρ st).bind fun vs st => match evIt k vs st with
    | none => .stk
    | some (xs, lk) => if xs.length ≤ LIM then (lcD (lcB pg bs tg own cnd elt ρ) xs [] (lkSt st lk)).bind (lcF m lk) else .stk := rfl
/-! statements -/
theorem y_skip : evS pg bs .skip ρ st = .nx ρ st := rfl
theorem y_seq {a b : S} : evS pg bs (.seq a b) ρ st = (evS pg bs a ρ st).seq fun ρ st => evS pg bs b ρ st := rfl
theorem y_expr {e : E} : evS pg bs (.expr e) ρ st = (evE pg bs e ρ st).sr ρ fun _ st => .nx ρ st := rfl
theorem y_asg {t : T} {e : E} : evS pg bs (.asg t e) ρ st = (evE pg bs e ρ st).sr ρ fun d st => match asgT t d ρ st with
    | some ρ => .nx ρ st
    | none => .stk := rfl
theorem y_aug {i : Nat} {o : B} {e : E} : evS pg bs (.aug i o e) ρ st = match ρ[i]? with
    | some (.v (.int x)) => (evE pg bs e ρ st).sr ρ fun d st => match o, d with
      | .add, .int y => .nx (ρ.set i (.v (.int (x + y)))) st
      | _, _ => .stk
    | _ => .stk := rfl
theorem y_ret {e : E} : evS pg bs (.ret e) ρ st = (evE pg bs e ρ st).sr ρ fun d st => .rt d st := rfl
theorem y_retN : evS pg bs .retN ρ st = .rt .non st := rfl
theorem y_ife {c : E} {a b : S} : evS pg bs (.ife c a b) ρ st = tsS (evE pg bs c ρ st) ρ (fun st => evS pg bs a ρ st) (fun st => evS pg bs b ρ st) := rfl
theorem y_for {t : T} {k : IK} {as : E} {b : S} : evS pg bs (.for t k as b) ρ st = (evA pg bs as ρ st).sr ρ fun vs st => match evIt k vs st with
    | some (xs, lk) => (forD (forB pg bs t b) xs ρ (lkSt st lk)).un lk
    | none => .stk := rfl
theorem y_whl {n : Nat} {c : E} {b : S} : evS pg bs (.whl n c b) ρ st = whD (evE pg bs c) (evS pg bs b) n ρ st := rfl
theorem y_brk : evS pg bs .brk ρ st = .bk ρ st := rfl
theorem y_cnt : evS pg bs .cnt ρ st = .ct ρ st := rfl
theorem y_rais {c : Nat} : evS pg bs (.rais c .nil) ρ st = match pg.xf c with
    | some none => .exc c [] ρ st
    | _ => .stk := by
  show (match pg.xf c with
    | some none => SR.exc c [] ρ st
    | some (some f) => .stk
    | none => .stk) = _
  cases pg.xf c with
  | none => rfl
  | some o => cases o <;> rfl
def tryE (r : SR) (h : Nat → List (Nat × D) → DEnv → Sto → SR) (e : DEnv → Sto → SR) : SR := match r with
  | .nx ρ st => e ρ st
  | .exc c fs ρ st => h c fs ρ st
  | r => r
theorem y_try {b h e : S} : evS pg bs (.try b h e) ρ st = tryE (evS pg bs b ρ st) (evH pg bs h) (evS pg bs e) := rfl
theorem tryE_cg {r r' : SR} {h : Nat → List (Nat × D) → DEnv → Sto → SR} {e : DEnv → Sto → SR} (q : r = r') : tryE r h e = tryE r' h e := by rw [q]
theorem tryE_nx {h : Nat → List (Nat × D) → DEnv → Sto → SR} {e : DEnv → Sto → SR} : tryE (.nx ρ st) h e = e ρ st := rfl
theorem tryE_rt {d : D} {h : Nat → List (Nat × D) → DEnv → Sto → SR} {e : DEnv → Sto → SR} : tryE (.rt d st) h e = .rt d st := rfl
theorem tryE_exc {c : Nat} {fs : List (Nat × D)} {h : Nat → List (Nat × D) → DEnv → Sto → SR} {e : DEnv → Sto → SR} : tryE (.exc c fs ρ st) h e = h c fs ρ st := rfl
theorem h_exc {t : TC} {n : Option Nat} {b more : S} {c : Nat} {fs : List (Nat × D)} : evH pg bs (.exc t n b more) c fs ρ st = match pg.sub c t with
    | some true => (match n with
       | some i => (evS pg bs b (ρ.set i (.x c fs)) st).gone (some i)
       | none => (evS pg bs b ρ st).gone none)
    | some false => evH pg bs more c fs ρ st
    | none => .stk := rfl
theorem h_skip {c : Nat} {fs : List (Nat × D)} : evH pg bs .skip c fs ρ st = .exc c fs ρ st := rfl
theorem gone_nx {n : Option Nat} : (SR.nx ρ st).gone n = .nx (goneD ρ n) st := rfl
theorem gone_rt {d : D} {n : Option Nat} : (SR.rt d st).gone n = .rt d st := rfl
/-! operators -/
theorem o_add {i j : Int} : opB .add (.int i) (.int j) st = .ok (.int (i + j)) st := rfl
theorem o_sub {i j : Int} : opB .sub (.int i) (.int j) st = .ok (.int (i - j)) st := rfl
theorem o_mul {i j : Int} : opB .mul (.int i) (.int j) st = if mulOk i j = true then .ok (.int (i * j)) st else .stk := rfl
theorem o_fdiv {i j : Int} : opB .fdiv (.int i) (.int j) st = if divOk j = true then .ok (.int (i / j)) st else .stk := rfl
theorem o_mod {i j : Int} : opB .mod (.int i) (.int j) st = if 0 < j then .ok (.int (i % j)) st else .stk := rfl
theorem o_pow {i j : Int} : opB .pow (.int i) (.int j) st = if powOk i j = true then .ok (.int (i ^ j.toNat)) st else .stk := rfl
theorem o_neg {i : Int} : opU .neg (.int i) st = .ok (.int (-i)) st := rfl
theorem c_lt {i j : Int} : opC .lt (.int i) (.int j) st = .ok (.bl (decide (i < j))) st := rfl
theorem c_le {i j : Int} : opC .le (.int i) (.int j) st = .ok (.bl (decide (i ≤ j))) st := rfl
theorem c_gt {i j : Int} : opC .gt (.int i) (.int j) st = .ok (.bl (decide (j < i))) st := rfl
theorem c_ge {i j : Int} : opC .ge (.int i) (.int j) st = .ok (.bl (decide (j ≤ i))) st := rfl
theorem c_isN {d : D} : opC .isN d .non st = .ok (.bl (isNon d)) st := rfl
theorem c_notN {d : D} : opC .notN d .non st = .ok (.bl (!isNon d)) st := rfl
theorem eqv_int (i j : Int) : PyData.eqv (.int i) (.int j) = decide (i = j) := by first | rfl | simp [PyData.eqv]
theorem c_eqI {i j : Int} : opC .eq (.int i) (.int j) st = .ok (.bl (decide (i = j))) st := by
  have e : cmpD .eq st (.int i) (.int j) = some (PyData.eqv (.int i) (.int j)) := rfl
  unfold opC
  rw [e, eqv_int]
theorem c_neI {i j : Int} : opC .ne (.int i) (.int j) st = .ok (.bl (!decide (i = j))) st := by
  have e : cmpD .ne st (.int i) (.int j) = some (!PyData.eqv (.int i) (.int j)) := rfl
  unfold opC
  rw [e, eqv_int]
theorem c_eqS {s t : Str} (h : (SeqAt.shaped (.str s) && SeqAt.shaped (.str t)) = true) : opC .eq (.str s) (.str t) st = .ok (.bl (s == t)) st := by
  have e : cmpD .eq st (.str s) (.str t) = (if SeqAt.shaped (.str s) && SeqAt.shaped (.str t) then some (PyData.eqv (.str s) (.str t)) else none) := rfl
  unfold opC
  rw [e, if_pos h]
  rfl
theorem n_non : isNon .non = true := rfl
theorem n_int {i : Int} : isNon (.int i) = false := rfl
theorem n_bl {b : Bool} : isNon (.bl b) = false := rfl
theorem n_str {s : Str} : isNon (.str s) = false := rfl
theorem n_tup {xs : List D} : isNon (.tup xs) = false := rfl
theorem n_lst {xs : List D} : isNon (.lst xs) = false := rfl
theorem n_loc {i : Nat} : isNon (.loc i) = false := rfl
theorem c_eqB {a b : Bool} : opC .eq (.bl a) (.bl b) st = .ok (.bl (a == b)) st := rfl
theorem c_neB {a b : Bool} : opC .ne (.bl a) (.bl b) st = .ok (.bl (!(a == b))) st := rfl
theorem o_addL {xs ys : List D} : opB .add (.lst xs) (.lst ys) st = if xs.length + ys.length ≤ LIM then .ok (.lst (xs ++ ys)) st else .stk := rfl
theorem k_tup {xs : List D} {i : Int} : idxD (.tup xs) (.int i) st = match ixD xs i with
    | some d => .ok d st
    | none => .stk := rfl
theorem k_lst {xs : List D} {i : Int} : idxD (.lst xs) (.int i) st = match ixD xs i with
    | some d => .ok d st
    | none => .stk := rfl
theorem ix0 {a : D} {r : List D} : ixD (a :: r) 0 = some a := rfl
theorem ix1 {a b : D} {r : List D} : ixD (a :: b :: r) 1 = some b := rfl
theorem ix2 {a b c : D} {r : List D} : ixD (a :: b :: c :: r) 2 = some c := rfl
theorem ix3 {a b c d : D} {r : List D} : ixD (a :: b :: c :: d :: r) 3 = some d := rfl
theorem ix4 {a b c d e : D} {r : List D} : ixD (a :: b :: c :: d :: e :: r) 4 = some e := rfl
theorem itl {xs : List D} : evIt .seq [.lst xs] st = some (xs, []) := rfl
theorem itt {xs : List D} : evIt .tupl [.tup xs] st = some (xs, []) := rfl
theorem lk_nil : lkSt st [] = st := rfl
theorem un_nx : (SR.nx ρ st).un [] = .nx ρ st := rfl
theorem un_rt {d : D} : (SR.rt d st).un [] = .rt d st := rfl
theorem un_exc {c : Nat} {fs : List (Nat × D)} {l : Lk} : (SR.exc c fs ρ st).un l = .exc c fs ρ st := rfl
/-- a turn, then the others -/
def forK (r : SR) (k : DEnv → Sto → SR) : SR := match r with
  | .nx ρ st => k ρ st
  | .ct ρ st => k ρ st
  | .bk ρ st => .nx ρ st
  | r => r
theorem for_nil {body : D → DEnv → Sto → SR} : forD body [] ρ st = .nx ρ st := rfl
theorem for_cons {body : D → DEnv → Sto → SR} {x : D} {xs : List D} : forD body (x :: xs) ρ st = forK (body x ρ st) fun ρ st => forD body xs ρ st := rfl
theorem fk_nx {k : DEnv → Sto → SR} : forK (.nx ρ st) k = k ρ st := rfl
theorem fk_ct {k : DEnv → Sto → SR} : forK (.ct ρ st) k = k ρ st := rfl
theorem fk_bk {k : DEnv → Sto → SR} : forK (.bk ρ st) k = .nx ρ st := rfl
theorem fk_rt {d : D} {k : DEnv → Sto → SR} : forK (.rt d st) k = .rt d st := rfl
theorem fk_exc {c : Nat} {fs : List (Nat × D)} {k : DEnv → Sto → SR} : forK (.exc c fs ρ st) k = .exc c fs ρ st := rfl
theorem f_B {t : T} {s : S} {x : D} : forB pg bs t s x ρ st = match asgT t x ρ st with
    | some ρ => evS pg bs s ρ st
    | none => .stk := rfl
theorem in_int {i : Int} {xs : List D} {vs : List V} (h : flatDs xs = some vs) : opC .inn (.int i) (.tup xs) st = .ok (.bl (inV (.int i) vs)) st := by
  have e : cmpD .inn st (.int i) (.tup xs) = (match flatD (.int i), flatDs xs with
    | some v, some vs => some (inV v vs)
    | _, _ => none) := rfl
  unfold opC
  rw [e, h]
  rfl
theorem i_non_bool : isiD st .non (.ty .bool) = some false := rfl
theorem i_non_int : isiD st .non (.ty .int) = some false := rfl
theorem i_non_str : isiD st .non (.ty .str) = some false := rfl
theorem i_non_tuple : isiD st .non (.ty .tuple) = some false := rfl
theorem i_non_list : isiD st .non (.ty .list) = some false := rfl
theorem i_non_dict : isiD st .non (.ty .dict) = some false := rfl
theorem i_bl_bool {b : Bool} : isiD st (.bl b) (.ty .bool) = some true := rfl
theorem i_bl_int {b : Bool} : isiD st (.bl b) (.ty .int) = some true := rfl
theorem i_bl_str {b : Bool} : isiD st (.bl b) (.ty .str) = some false := rfl
theorem i_bl_tuple {b : Bool} : isiD st (.bl b) (.ty .tuple) = some false := rfl
theorem i_bl_list {b : Bool} : isiD st (.bl b) (.ty .list) = some false := rfl
theorem i_bl_dict {b : Bool} : isiD st (.bl b) (.ty .dict) = some false := rfl
theorem i_int_bool {i : Int} : isiD st (.int i) (.ty .bool) = some false := rfl
theorem i_int_int {i : Int} : isiD st (.int i) (.ty .int) = some true := rfl
theorem i_int_str {i : Int} : isiD st (.int i) (.ty .str) = some false := rfl
theorem i_int_tuple {i : Int} : isiD st (.int i) (.ty .tuple) = some false := rfl
theorem i_int_list {i : Int} : isiD st (.int i) (.ty .list) = some false := rfl
theorem i_int_dict {i : Int} : isiD st (.int i) (.ty .dict) = some false := rfl
theorem i_str_bool {s : Str} : isiD st (.str s) (.ty .bool) = some false := rfl
theorem i_str_int {s : Str} : isiD st (.str s) (.ty .int) = some false := rfl
theorem i_str_str {s : Str} : isiD st (.str s) (.ty .str) = some true := rfl
theorem i_str_tuple {s : Str} : isiD st (.str s) (.ty .tuple) = some false := rfl
theorem i_str_list {s : Str} : isiD st (.str s) (.ty .list) = some false := rfl
theorem i_str_dict {s : Str} : isiD st (.str s) (.ty .dict) = some false := rfl
theorem i_tup_bool {xs : List D} : isiD st (.tup xs) (.ty .bool) = some false := rfl
theorem i_tup_int {xs : List D} : isiD st (.tup xs) (.ty .int) = some false := rfl
theorem i_tup_str {xs : List D} : isiD st (.tup xs) (.ty .str) = some false := rfl
theorem i_tup_tuple {xs : List D} : isiD st (.tup xs) (.ty .tuple) = some true := rfl
theorem i_tup_list {xs : List D} : isiD st (.tup xs) (.ty .list) = some false := rfl
theorem i_tup_dict {xs : List D} : isiD st (.tup xs) (.ty .dict) = some false := rfl
theorem i_lst_bool {xs : List D} : isiD st (.lst xs) (.ty .bool) = some false := rfl
theorem i_lst_int {xs : List D} : isiD st (.lst xs) (.ty .int) = some false := rfl
theorem i_lst_str {xs : List D} : isiD st (.lst xs) (.ty .str) = some false := rfl
theorem i_lst_tuple {xs : List D} : isiD st (.lst xs) (.ty .tuple) = some false := rfl
theorem i_lst_list {xs : List D} : isiD st (.lst xs) (.ty .list) = some true := rfl
theorem i_lst_dict {xs : List D} : isiD st (.lst xs) (.ty .dict) = some false := rfl
theorem r_ite {p : Prop} [Decidable p] : (if p then Res.ok (D.bl true) st else Res.ok (D.bl false) st) = Res.ok (D.bl (decide p)) st := by
  by_cases h : p
  · rw [if_pos h, decide_eq_true h]
  · rw [if_neg h, decide_eq_false h]
theorem r_iteN {p : Prop} [Decidable p] : (if p then Res.ok (D.bl false) st else Res.ok (D.bl true) st) = Res.ok (D.bl (!decide p)) st := by
  by_cases h : p
  · rw [if_pos h, decide_eq_true h]; rfl
  · rw [if_neg h, decide_eq_false h]; rfl
/-- a comprehension's turn, then the others -/
def lcK (r : Res (Option D)) (acc : List D) (k : List D → Sto → Res (List D)) : Res (List D) := match r with
  | .ok (some y) st => k (acc ++ [y]) st
  | .ok none st => k acc st
  | _ => .stk
theorem lc_nil {body : D → Sto → Res (Option D)} {acc : List D} : lcD body [] acc st = .ok acc st := rfl
theorem lc_cons {body : D → Sto → Res (Option D)} {x : D} {xs acc : List D} : lcD body (x :: xs) acc st = lcK (body x st) acc fun acc st => lcD body xs acc st := rfl
theorem lk_some {y : D} {acc : List D} {k : List D → Sto → Res (List D)} : lcK (.ok (some y) st) acc k = k (acc ++ [y]) st := rfl
theorem lk_none {acc : List D} {k : List D → Sto → Res (List D)} : lcK (.ok none st) acc k = k acc st := rfl
def tsO (r : Res D) (f g : Sto → Res (Option D)) : Res (Option D) := r.bind fun x st => match x with
  | .bl true => f st
  | .bl false => g st
  | _ => .stk
theorem tsO_ok {b : Bool} {f g : Sto → Res (Option D)} : tsO (.ok (.bl b) st) f g = if b = true then f st else g st := by cases b <;> rfl
theorem lc_B {tg : T} {own : List Nat} {cnd elt : E} {x : D} : lcB pg bs tg own cnd elt ρ x st = match asgT tg x (wipeD ρ own) st with
    | none => .stk
    | some ρ' => tsO (evE pg bs cnd ρ' st) (fun st => (evE pg bs elt ρ' st).bind fun y st => .ok (some y) st) (fun st => .ok none st) := rfl
theorem lc_Ff {ys : List D} : lcF false [] ys st = .ok (.lst ys) st := rfl
theorem lc_Ft {ys : List D} : lcF true [] ys st = .ok (.loc st.length) (st ++ [.mu (.lst ys)]) := rfl
theorem wp_nil : wipeD ρ [] = ρ := rfl
theorem wp_cons {i : Nat} {r : List Nat} : wipeD ρ (i :: r) = (wipeD ρ r).set i .no := rfl
theorem c_isB {a b : Bool} : opC .isB (.bl a) (.bl b) st = .ok (.bl (decide (a = b))) st := rfl
theorem c_notB {a b : Bool} : opC .notB (.bl a) (.bl b) st = .ok (.bl (!decide (a = b))) st := rfl
end
end Den
set_option maxHeartbeats 4000000
/-! DLib: loops, calls, numbers: what the laws' proofs lean on. -/
namespace Den
open PySem L2

theorem closed0 {d : D} {n : Nat} (h : closed 0 d = true) : closed n d = true := closed_mono (Nat.zero_le n) d h
section
variable {n : Nat} {f : Nat → Option D} (hf : ∀ i, i < n → f i = some (.loc i))
include hf
mutual
theorem sub_closed : ∀ d : D, closed n d = true → subD f d = some d
  | .non, _ => rfl
  | .bl _, _ => rfl
  | .int _, _ => rfl
  | .str _, _ => rfl
  | .scr _, _ => rfl
  | .loc i, h => hf i (of_decide_eq_true h)
  | .tup xs, h => by show (subL f xs).map D.tup = _; rw [subL_closed xs h]; rfl
  | .lst xs, h => by show (subL f xs).map D.lst = _; rw [subL_closed xs h]; rfl
  | .dK xs, h => by show (subK f xs).map D.dK = _; rw [subK_closed xs h]; rfl
  | .dT xs, h => by show (subT f xs).map D.dT = _; rw [subT_closed xs h]; rfl
  | .ins c xs, h => by show (subF f xs).map (D.ins c) = _; rw [subF_closed xs h]; rfl
theorem subL_closed : ∀ d : List D, closedL n d = true → subL f d = some d
  | [], _ => rfl
  | x :: xs, h => by
    show (subD f x).bind (fun y => (subL f xs).map fun ys => y :: ys) = _
    rw [sub_closed x (Bool.and_eq_true_iff.mp h).1, subL_closed xs (Bool.and_eq_true_iff.mp h).2]; rfl
theorem subK_closed : ∀ d : List (Key × D), closedK n d = true → subK f d = some d
  | [], _ => rfl
  | (k, x) :: xs, h => by
    show (subD f x).bind (fun y => (subK f xs).map fun ys => (k, y) :: ys) = _
    rw [sub_closed x (Bool.and_eq_true_iff.mp h).1, subK_closed xs (Bool.and_eq_true_iff.mp h).2]; rfl
theorem subT_closed : ∀ d : List (List Key × D), closedT n d = true → subT f d = some d
  | [], _ => rfl
  | (k, x) :: xs, h => by
    show (subD f x).bind (fun y => (subT f xs).map fun ys => (k, y) :: ys) = _
    rw [sub_closed x (Bool.and_eq_true_iff.mp h).1, subT_closed xs (Bool.and_eq_true_iff.mp h).2]; rfl
theorem subF_closed : ∀ d : List (Nat × D), closedF n d = true → subF f d = some d
  | [], _ => rfl
  | (k, x) :: xs, h => by
    show (subD f x).bind (fun y => (subF f xs).map fun ys => (k, y) :: ys) = _
    rw [sub_closed x (Bool.and_eq_true_iff.mp h).1, subF_closed xs (Bool.and_eq_true_iff.mp h).2]; rfl
end
end
theorem fz_lt (st : Sto) (n k : Nat) {i : Nat} (h : i < n) : fzI st n (k + 1) i = some (.loc i) := by unfold fzI; rw [if_pos h]
theorem deep_cl {st : Sto} {n : Nat} {d : D} (h : closed n d = true) : deep st n d = some d := sub_closed (fun _ hi => fz_lt st n 7 hi) d h
theorem deepF_cl {st : Sto} {n : Nat} {fs : List (Nat × D)} (h : closedF n fs = true) : deepF st n fs = some fs := subF_closed (fun _ hi => fz_lt st n 7 hi) fs h
/-- behind a call: the value, the store ahead of it -/
theorem seal_ok {st st' : Sto} {n : Nat} {d d' : D} (h : deep st' n d = some d') (ht : st'.take n = st) : sealP n (.ok d st') = .ok d' st := by
  subst ht
  show (match deep st' n d with
    | some d' => Res.ok d' (st'.take n)
    | none => .stk) = _
  rw [h]
theorem seal_exc {st st' : Sto} {n c : Nat} {fs fs' : List (Nat × D)} (h : deepF st' n fs = some fs') (ht : st'.take n = st) : sealP n (.exc c fs st') = .exc c fs' st := by
  subst ht
  show (match deepF st' n fs with
    | some d' => Res.exc c d' (st'.take n)
    | none => .stk) = _
  rw [h]
theorem call_ok' {pg : Pg} {f : Nat} {as : List D} {st : Sto} {bs : Nat} {d : D} (h : pg.fns f as st st.length = .ok d st) (hc : closed 0 d = true) : callM pg f .pure as st bs = .ok d st := by
  show sealP st.length (pg.fns f as st st.length) = _
  rw [h]
  exact seal_ok (deep_cl (closed0 hc)) List.take_length
theorem call_exc' {pg : Pg} {f : Nat} {as : List D} {st : Sto} {bs c : Nat} (h : pg.fns f as st st.length = .exc c [] st) : callM pg f .pure as st bs = .exc c [] st := by
  show sealP st.length (pg.fns f as st st.length) = _
  rw [h]
  exact seal_exc rfl List.take_length
/-- a loop that leaves the store as it is and comes through -/
theorem forD_nx {body : D → DEnv → Sto → SR} {st : Sto} (Inv : DEnv → Prop) : ∀ {xs : List D} {ρ : DEnv}, Inv ρ → (∀ x ∈ xs, ∀ ρ, Inv ρ → ∃ ρ', (body x ρ st = .nx ρ' st ∨ body x ρ st = .ct ρ' st) ∧ Inv ρ') → ∃ ρ', forD body xs ρ st = .nx ρ' st ∧ Inv ρ'
  | [], ρ, h, _ => ⟨ρ, rfl, h⟩
  | x :: xs, ρ, h, hs => by
    obtain ⟨ρ1, e, h1⟩ := hs x List.mem_cons_self ρ h
    obtain ⟨ρ2, e2, h2⟩ := forD_nx Inv (xs := xs) h1 fun y hy => hs y (List.mem_cons_of_mem _ hy)
    refine ⟨ρ2, ?_, h2⟩
    unfold forD
    rcases e with e | e <;> (rw [e]; exact e2)
theorem un_nil {ρ : DEnv} {st : Sto} : (SR.nx ρ st).un [] = .nx ρ st := rfl
theorem log2_lt {n k : Nat} (h : n < 2 ^ k) (hk : 0 < k) : n.log2 < k := by
  by_cases h0 : n = 0
  · subst h0; rw [show Nat.log2 0 = 0 by decide]; exact hk
  · exact (Nat.log2_lt h0).mpr h
theorem mulB {i j : Int} (hi : i.natAbs < 2 ^ 400000) (hj : j.natAbs < 2 ^ 400000) : mulOk i j = true := by
  have h1 := log2_lt hi (by decide)
  have h2 := log2_lt hj (by decide)
  exact decide_eq_true (by omega)
theorem divB {j : Int} (h : 0 < j) (hj : j.natAbs < 2 ^ 8000) : divOk j = true := by
  have h1 := log2_lt hj (by decide)
  unfold divOk
  rw [decide_eq_true h, decide_eq_true (by omega)]; rfl
theorem range_mem {x : D} {n : Nat} (h : x ∈ rangeD 0 n 1) : ∃ i : Nat, i < n ∧ x = .int i := by
  unfold rangeD at h
  obtain ⟨i, hi, e⟩ := List.mem_map.mp h
  exact ⟨i, List.mem_range.mp hi, by rw [← e]; simp⟩
theorem p_len_lst {xs : List D} {st : Sto} : prim .len [.lst xs] st = .ok (.int (xs.length : Nat)) st := rfl
theorem p_len_scr {ns : List Int} {st : Sto} : prim .len [.scr ns] st = .ok (.int (ns.length : Nat)) st := rfl
theorem p_len_tup {xs : List D} {st : Sto} : prim .len [.tup xs] st = .ok (.int (xs.length : Nat)) st := rfl
theorem p_abs {i : Int} {st : Sto} : prim .abs [.int i] st = .ok (.int (if i < 0 then -i else i)) st := rfl
theorem p_max2 {i j : Int} {st : Sto} : prim .max2 [.int i, .int j] st = .ok (.int (if j > i then j else i)) st := rfl
theorem p_min2 {i j : Int} {st : Sto} : prim .min2 [.int i, .int j] st = .ok (.int (if j < i then j else i)) st := rfl
theorem smallN {n : Nat} (h : n < 1000000) : smallI (n : Int) = true := by
  have h2 : (2 : Nat) ^ 62 = 4611686018427387904 := by decide
  exact decide_eq_true (by rw [h2]; omega)
theorem it_rng {j : Int} {st : Sto} (hs : smallI j = true) : evIt .rng1 [.int j] st = some (rangeD 0 j.toNat 1, []) := by
  simp only [evIt, one?, Option.bind_some, hs, if_true]
theorem it_rng1 {n : Nat} {st : Sto} (h : n < 1000000) : evIt .rng1 [.int n] st = some (rangeD 0 n 1, []) := (it_rng (smallN h)).trans (by rw [Int.toNat_natCast])
/-- an item of a list of ints, from the front or the back -/
theorem ix_int (ns : List Int) (i : Int) (st : Sto) (h1 : -(ns.length : Int) ≤ i) (h2 : i < ns.length) : ∃ m, m ∈ ns ∧ idxD (.lst (ns.map D.int)) (.int i) st = .ok (.int m) st := by
  have key : ∀ j : Nat, (hj : j < ns.length) → (ns.map D.int)[j]? = some (.int ns[j]) := fun j hj => by
    rw [List.getElem?_map, List.getElem?_eq_getElem hj]; rfl
  have fin : ∀ m, m ∈ ns → idxC (.lst (ns.map D.int)) (.int i) = some (.int m) → ∃ m, m ∈ ns ∧ idxD (.lst (ns.map D.int)) (.int i) st = .ok (.int m) st := fun m hm e => by
    refine ⟨m, hm, ?_⟩
    show (match idxC (.lst (ns.map D.int)) (.int i) with
      | some d => Res.ok d st
      | none => .stk) = _
    rw [e]
  by_cases h : 0 ≤ i
  · have hj : i.toNat < ns.length := by omega
    refine fin ns[i.toNat] (List.getElem_mem hj) ?_
    show ixD _ i = _
    unfold ixD
    rw [if_pos h, key _ hj]
  · have hj : (i + ns.length).toNat < ns.length := by omega
    refine fin ns[(i + ns.length).toNat] (List.getElem_mem hj) ?_
    show ixD _ i = _
    unfold ixD
    rw [List.length_map, if_neg h, if_pos h1, key _ hj]
/-- a number or None -/
def ov : Option Int → D
  | none => .non
  | some i => .int i
theorem ov_cl (o : Option Int) : closed 0 (ov o) = true := by cases o <;> rfl
theorem ov2_cl (a b : Option Int) : closed 0 (.tup [ov a, ov b]) = true := by cases a <;> cases b <;> rfl
theorem ov_none : ov none = .non := rfl
theorem ov_some {i : Int} : ov (some i) = .int i := rfl
theorem ix_scr (ns : List Int) (i : Int) (st : Sto) (h1 : 0 ≤ i) (h2 : i < ns.length) : idxD (.scr ns) (.int i) st = .ok (.int (ns.getD i.toNat 0)) st := by
  have hj : i.toNat < ns.length := by omega
  have e : idxC (.scr ns) (.int i) = some (.int (ns.getD i.toNat 0)) := by
    show (ixD ns i).map D.int = _
    unfold ixD
    rw [if_pos h1, List.getElem?_eq_getElem hj, List.getD_eq_getElem?_getD, List.getElem?_eq_getElem hj]; rfl
  show (match idxC (.scr ns) (.int i) with
    | some d => Res.ok d st
    | none => .stk) = _
  rw [e]
theorem rangeC_mem {x : D} {lo c : Int} {n : Nat} (h : x ∈ rangeD lo n c) : ∃ i : Nat, i < n ∧ x = .int (lo + (i : Nat) * c) := by
  unfold rangeD at h
  obtain ⟨i, hi, e⟩ := List.mem_map.mp h
  exact ⟨i, List.mem_range.mp hi, e.symm⟩
theorem it_rng3 {i j c : Int} {st : Sto} (h : rng3Ok i j c = true) : evIt .rng3 [.int i, .int j, .int c] st = some (rangeD i (Builtin.Range.rangeSize i j c).toNat c, []) := by
  simp only [evIt, three?, Option.bind_some, h, if_true]
theorem rng4 : ∀ m : Nat, m < 62 → rng3Ok 0 (m : Int) 4 = true := by decide +kernel
/-- two ends, in order -/
def wf : Option Int → Option Int → Prop
  | some a, some b => a ≤ b
  | _, _ => True
end Den
set_option maxHeartbeats 4000000
/-! DEq: ==, in on plain data: kinds of values with their own equality. -/
namespace Den
open PySem L2

/-- values of one kind: how they stand, that == is their equality -/
structure Enc {α : Type} [DecidableEq α] (g : α → D) (n : Nat) where
  q : α → PyData
  to : ∀ a, toP (g a) = some (q a)
  lay : ∀ a, (q a).canLay0 = true
  dep : ∀ a, (q a).depth ≤ n
  eq : ∀ a b, PyData.eqv (q a) (q b) = decide (a = b)
theorem look_plain {st : Sto} {d : D} {p : PyData} (h : toP d = some p) : look st d = some d := by
  cases d <;> first | rfl | cases h
section
variable {α β : Type} [DecidableEq α] [DecidableEq β] {g : α → D} {h : β → D} {n m : Nat}
theorem Enc.toPs (e : Enc g n) : ∀ l : List α, Den.toPs (l.map g) = some (l.map e.q)
  | [] => rfl
  | a :: l => by
    show ((toP (g a)).bind fun p => (Den.toPs (l.map g)).map fun ps => p :: ps) = _
    rw [e.to a, Enc.toPs e l]; rfl
theorem Enc.layL (e : Enc g n) : ∀ l : List α, PyData.canLayAll0 (l.map e.q) = true
  | [] => by simp [PyData.canLayAll0]
  | a :: l => by
    show PyData.canLayAll0 (e.q a :: l.map e.q) = true
    simp only [PyData.canLayAll0, e.lay a, Enc.layL e l, Bool.and_self]
theorem Enc.depL (e : Enc g n) : ∀ l : List α, PyData.depthAll (l.map e.q) ≤ n
  | [] => by simp [PyData.depthAll]
  | a :: l => by
    show PyData.depthAll (e.q a :: l.map e.q) ≤ n
    simp only [PyData.depthAll]
    exact Nat.max_le.mpr ⟨e.dep a, Enc.depL e l⟩
theorem Enc.eqL (e : Enc g n) : ∀ l r : List α, PyData.eqvAll (l.map e.q) (r.map e.q) = decide (l = r)
  | [], [] => by simp [PyData.eqvAll]
  | [], b :: r => by simp [PyData.eqvAll]
  | a :: l, [] => by simp [PyData.eqvAll]
  | a :: l, b :: r => by
    show PyData.eqvAll (e.q a :: l.map e.q) (e.q b :: r.map e.q) = _
    simp only [PyData.eqvAll, e.eq a b, Enc.eqL e l r]
    by_cases h1 : a = b <;> by_cases h2 : l = r <;> simp [h1, h2]
theorem Enc.shaped (e : Enc g n) (hn : n ≤ 64) (a : α) : SeqAt.shaped (e.q a) = true := by
  unfold SeqAt.shaped
  rw [e.lay a, decide_eq_true (Nat.le_trans (e.dep a) hn)]; rfl
def Enc.list (e : Enc g n) : Enc (fun l : List α => D.lst (l.map g)) (n + 1) where
  q := fun l => .list (l.map e.q)
  to := fun l => by
    show (Den.toPs (l.map g)).map PyData.list = _
    rw [e.toPs l]; rfl
  lay := fun l => by simp only [PyData.canLay0]; exact e.layL l
  dep := fun l => by simp only [PyData.depth]; exact Nat.succ_le_succ (e.depL l)
  eq := fun l r => by simp only [PyData.eqv]; exact e.eqL l r
def Enc.pair (e : Enc g n) (f : Enc h m) : Enc (fun p : α × β => D.tup [g p.1, h p.2]) (max n m + 1) where
  q := fun p => .tuple [e.q p.1, f.q p.2]
  to := fun p => by
    show ((toP (g p.1)).bind fun x => ((toP (h p.2)).bind fun y => some [y]).map fun ys => x :: ys).map PyData.tuple = _
    rw [e.to, f.to]; rfl
  lay := fun p => by simp only [PyData.canLay0, PyData.canLayAll0, e.lay, f.lay, Bool.and_self]
  dep := fun p => by
    simp only [PyData.depth, PyData.depthAll]
    have := e.dep p.1
    have := f.dep p.2
    omega
  eq := fun p r => by
    simp only [PyData.eqv, PyData.eqvAll, e.eq, f.eq, Bool.and_true]
    obtain ⟨a, b⟩ := p
    obtain ⟨c, d⟩ := r
    by_cases h1 : a = c <;> by_cases h2 : b = d <;> simp [h1, h2]
def Enc.int : Enc D.int 0 where
  q := .int
  to := fun _ => rfl
  lay := fun _ => by simp [PyData.canLay0]
  dep := fun _ => by simp [PyData.depth]
  eq := fun a b => by simp only [PyData.eqv, Bool.beq_eq_decide_eq]
def Enc.ov : Enc Den.ov 0 where
  q := fun o => match o with
    | none => .none
    | some i => .int i
  to := fun o => by cases o <;> rfl
  lay := fun o => by cases o <;> simp [PyData.canLay0]
  dep := fun o => by cases o <;> simp [PyData.depth]
  eq := fun a b => by cases a <;> cases b <;> simp [PyData.eqv, Bool.beq_eq_decide_eq]
/-- texts of signs that there are -/
abbrev TxD : Type := {s : Str // (PyData.str s).canLay0 = true}
def Enc.str : Enc (fun s : TxD => D.str s.1) 0 where
  q := fun s => .str s.1
  to := fun _ => rfl
  lay := fun s => s.2
  dep := fun _ => by simp [PyData.depth]
  eq := fun a b => by
    simp only [PyData.eqv, Bool.beq_eq_decide_eq]
    exact decide_eq_decide.mpr Subtype.ext_iff.symm
def Enc.bl : Enc D.bl 0 where
  q := .bool
  to := fun _ => rfl
  lay := fun _ => by simp [PyData.canLay0]
  dep := fun _ => by simp [PyData.depth]
  eq := fun a b => by simp only [PyData.eqv, Bool.beq_eq_decide_eq]
theorem Enc.c_eq (e : Enc g n) (hn : n ≤ 64) (a b : α) (st : Sto) : opC .eq (g a) (g b) st = .ok (.bl (decide (a = b))) st := by
  have h : eqD st (g a) (g b) = some (decide (a = b)) := by
    unfold eqD toPS
    rw [look_plain (e.to a), look_plain (e.to b)]
    simp only [Option.bind_some, e.to, e.shaped hn, Bool.and_self, if_true, e.eq]
  show (match eqD st (g a) (g b) with
    | some e => Res.ok (D.bl e) st
    | none => .stk) = _
  rw [h]
theorem Enc.c_ne (e : Enc g n) (hn : n ≤ 64) (a b : α) (st : Sto) : opC .ne (g a) (g b) st = .ok (.bl (!decide (a = b))) st := by
  have h : eqD st (g a) (g b) = some (decide (a = b)) := by
    unfold eqD toPS
    rw [look_plain (e.to a), look_plain (e.to b)]
    simp only [Option.bind_some, e.to, e.shaped hn, Bool.and_self, if_true, e.eq]
  show (match (eqD st (g a) (g b)).map fun e => !e with
    | some e => Res.ok (D.bl e) st
    | none => .stk) = _
  rw [h]; rfl
/-- .. of objects that hold such values -/
theorem Enc.c_eqL (e : Enc g n) (hn : n ≤ 64) (a b : α) {x y : D} {st : Sto} (h1 : look st x = some (g a)) (h2 : look st y = some (g b)) : opC .eq x y st = .ok (.bl (decide (a = b))) st := by
  have h : eqD st x y = some (decide (a = b)) := by
    unfold eqD toPS
    rw [h1, h2]
    simp only [Option.bind_some, e.to, e.shaped hn, Bool.and_self, if_true, e.eq]
  show (match eqD st x y with
    | some e => Res.ok (D.bl e) st
    | none => .stk) = _
  rw [h]
theorem Enc.c_neL (e : Enc g n) (hn : n ≤ 64) (a b : α) {x y : D} {st : Sto} (h1 : look st x = some (g a)) (h2 : look st y = some (g b)) : opC .ne x y st = .ok (.bl (!decide (a = b))) st := by
  have h : eqD st x y = some (decide (a = b)) := by
    unfold eqD toPS
    rw [h1, h2]
    simp only [Option.bind_some, e.to, e.shaped hn, Bool.and_self, if_true, e.eq]
  show (match (eqD st x y).map fun e => !e with
    | some e => Res.ok (D.bl e) st
    | none => .stk) = _
  rw [h]; rfl
theorem Enc.inD (e : Enc g n) (hn : n + 1 ≤ 64) (a : α) (l : List α) (st : Sto) [Decidable (a ∈ l)] : Den.inD st (g a) (.lst (l.map g)) = some (decide (a ∈ l)) := by
  have ha : toPS st (g a) = some (e.q a) := by
    unfold toPS
    rw [look_plain (e.to a), Option.bind_some, e.to]
  have hl : SeqAt.shaped (.list (l.map e.q)) = true := (e.list).shaped hn l
  show (match toPS st (g a), Den.toPs (l.map g) with
    | some p, some ps => inL p ps
    | _, _ => none) = _
  rw [ha, e.toPs l]
  show (if SeqAt.shaped (e.q a) && SeqAt.shaped (.list (l.map e.q)) then some ((l.map e.q).any fun z => PyData.eqv z (e.q a)) else none) = _
  rw [e.shaped (by omega) a, hl]
  simp only [Bool.and_self, if_true, List.any_map]
  congr 1
  rw [Bool.eq_iff_iff, List.any_eq_true, decide_eq_true_eq]
  constructor
  · rintro ⟨x, hx, hq⟩
    have : decide (x = a) = true := by rw [← e.eq]; exact hq
    rw [← of_decide_eq_true this]; exact hx
  · intro hm
    exact ⟨a, hm, by show PyData.eqv (e.q a) (e.q a) = true; rw [e.eq, decide_eq_true rfl]⟩
theorem Enc.c_in (e : Enc g n) (hn : n + 1 ≤ 64) (a : α) (l : List α) (st : Sto) [Decidable (a ∈ l)] : opC .inn (g a) (.lst (l.map g)) st = .ok (.bl (decide (a ∈ l))) st := by
  show (match Den.inD st (g a) (.lst (l.map g)) with
    | some e => Res.ok (D.bl e) st
    | none => .stk) = _
  rw [e.inD hn]
theorem Enc.c_nin (e : Enc g n) (hn : n + 1 ≤ 64) (a : α) (l : List α) (st : Sto) [Decidable (a ∈ l)] : opC .nin (g a) (.lst (l.map g)) st = .ok (.bl (!decide (a ∈ l))) st := by
  show (match (Den.inD st (g a) (.lst (l.map g))).map fun e => !e with
    | some e => Res.ok (D.bl e) st
    | none => .stk) = _
  rw [e.inD hn]; rfl
/-- a comprehension over values of a kind -/
theorem lcD_of {γ : Type} {body : D → Sto → Res (Option D)} {st : Sto} (k : γ → D) (f : γ → Option D) : ∀ (l : List γ) (acc : List D), (∀ a ∈ l, body (k a) st = .ok (f a) st) → lcD body (l.map k) acc st = .ok (acc ++ l.filterMap f) st
  | [], acc, _ => by simp [lcD]
  | a :: l, acc, hb => by
    show (match body (k a) st with
      | .ok (some y) st => lcD body (l.map k) (acc ++ [y]) st
      | .ok none st => lcD body (l.map k) acc st
      | _ => .stk) = _
    rw [hb a List.mem_cons_self]
    have ih := fun acc => lcD_of (body := body) (st := st) k f l acc fun x hx => hb x (List.mem_cons_of_mem _ hx)
    rw [List.filterMap_cons]
    cases f a with
    | none => exact ih acc
    | some y =>
      show lcD body (l.map k) (acc ++ [y]) st = _
      rw [ih, List.append_assoc]; rfl
theorem allInts_map : ∀ l : List Int, allInts (l.map D.int) = some l
  | [] => rfl
  | a :: l => by
    show (allInts (l.map D.int)).map (fun r => a :: r) = _
    rw [allInts_map l]; rfl
end
end Den
set_option maxHeartbeats 4000000
/-! DAut: what the walk's simplifier leans on: calls as sealed results, frames' own objects, objects' attributes. -/
namespace Den
open PySem L2

section
variable {st l : Sto} {d : D} {i n k : Nat}
theorem sl_cl (h : closed 0 d = true) : sealP st.length (.ok d st) = .ok d st := seal_ok (deep_cl (closed0 h)) List.take_length
theorem sl_x0 {c : Nat} : sealP st.length (.exc c [] st) = .exc c [] st := seal_exc rfl List.take_length
theorem tk_app : (st ++ l).take st.length = st := by simp
theorem sl_x1 {c : Nat} : sealP st.length (.exc c [] (st ++ l)) = .exc c [] st := seal_exc rfl tk_app
theorem sl_x2 {c f : Nat} {x : D} (h : closed 0 x = true) : sealP st.length (.exc c [(f, x)] st) = .exc c [(f, x)] st := seal_exc (deepF_cl (by have q := closed0 (n := st.length) h; simp [closedF, q])) List.take_length
theorem sl_a (h : closed 0 d = true) : sealP st.length (.ok d (st ++ l)) = .ok d st := seal_ok (deep_cl (closed0 h)) tk_app
theorem fz_app : fzI (st ++ l) st.length (k + 1) (st.length + i) = match l[i]? with
    | some (.mu c) => subD (fzI (st ++ l) st.length k) c
    | _ => none := by
  have e : (st ++ l)[st.length + i]? = l[i]? := by rw [List.getElem?_append_right (by omega)]; congr 1; omega
  conv => lhs; unfold fzI
  rw [if_neg (by omega), e]
  all_goals (rcases l[i]? with _ | (_ | _ | _) <;> rfl)
theorem sub_cl {f : Nat → Option D} (h : closed 0 d = true) : subD f d = some d := sub_closed (n := 0) (fun _ z => absurd z (Nat.not_lt_zero _)) d h
/-- the result is an object of the frame -/
theorem sl_loc {c : D} (h : l[i]? = some (.mu c)) (hc : closed 0 c = true) : sealP st.length (.ok (.loc (st.length + i)) (st ++ l)) = .ok c st := by
  refine seal_ok ?_ tk_app
  show fzI (st ++ l) st.length 8 (st.length + i) = some c
  rw [fz_app, h]
  exact sub_cl hc
theorem sl_loc0 {c : D} (h : l[0]? = some (.mu c)) (hc : closed 0 c = true) : sealP st.length (.ok (.loc st.length) (st ++ l)) = .ok c st := sl_loc (i := 0) h hc
/-! a frame's own objects -/
theorem g_app : (st ++ l)[st.length + i]? = l[i]? := by rw [List.getElem?_append_right (by omega)]; congr 1; omega
theorem g_app0 : (st ++ l)[st.length]? = l[0]? := by rw [List.getElem?_append_right (by omega)]; congr 1; omega
theorem s_app {c : Cell} : (st ++ l).set (st.length + i) c = st ++ l.set i c := by
  rw [List.set_append_right _ _ (by omega)]; congr 2; omega
theorem s_app0 {c : Cell} : (st ++ l).set st.length c = st ++ l.set 0 c := by
  rw [List.set_append_right _ _ (by omega)]; congr 2; omega
theorem len_app : (st ++ l).length = st.length + l.length := List.length_append
theorem lk_app : look (st ++ l) (.loc (st.length + i)) = (match l[i]? with
    | some (Cell.mu d) => some d
    | some (Cell.lk d) => some d
    | _ => none) := by
  unfold look
  dsimp only
  rw [g_app]
  all_goals (rcases l[i]? with _ | (_ | _ | _) <;> rfl)
theorem lk_app0 : look (st ++ l) (.loc st.length) = (match l[0]? with
    | some (Cell.mu d) => some d
    | some (Cell.lk d) => some d
    | _ => none) := lk_app (i := 0)
theorem lko_app : lockOf (st ++ l) (.loc (st.length + i)) = match l[i]? with
    | some (.mu d) => [(st.length + i, d)]
    | _ => [] := by
  unfold lockOf
  dsimp only
  rw [g_app]
  all_goals (rcases l[i]? with _ | (_ | _ | _) <;> rfl)
theorem lko_app0 : lockOf (st ++ l) (.loc st.length) = (match l[0]? with
    | some (Cell.mu d) => [(st.length, d)]
    | _ => []) := lko_app (i := 0)
/-- what a frame may store into its own objects -/
theorem fit_own {bs i : Nat} {d : D} (h : bs ≤ i) : fits bs i d = true := by unfold fits; rw [decide_eq_true h]; rfl
theorem fit_o : fits st.length (st.length + i) d = true := fit_own (Nat.le_add_right _ _)
theorem fit_o0 : fits st.length st.length d = true := fit_own (Nat.le_refl _)
theorem fit_c (h : closed 0 d = true) : fits n i d = true := by unfold fits; rw [closed0 h, Bool.or_true]
/-! closed values -/
theorem cl_non : closed n .non = true := (rfl)
theorem cl_bl {b : Bool} : closed n (.bl b) = true := (rfl)
theorem cl_int {i : Int} : closed n (.int i) = true := (rfl)
theorem cl_str {s : Str} : closed n (.str s) = true := (rfl)
theorem cl_scr {s : List Int} : closed n (.scr s) = true := (rfl)
theorem cl_tup {xs : List D} : closed n (.tup xs) = closedL n xs := (rfl)
theorem cl_lst {xs : List D} : closed n (.lst xs) = closedL n xs := (rfl)
theorem cl_ins {c : Nat} {fs : List (Nat × D)} : closed n (.ins c fs) = closedF n fs := (rfl)
theorem cl_nil : closedL n [] = true := (rfl)
theorem cl_cons {x : D} {xs : List D} : closedL n (x :: xs) = (closed n x && closedL n xs) := (rfl)
theorem cl_app {xs ys : List D} : closedL n (xs ++ ys) = (closedL n xs && closedL n ys) := closedL_append
theorem cl_map {α : Type} {g : α → D} {xs : List α} (h : ∀ a, closed n (g a) = true) : closedL n (xs.map g) = true := closedL_mem.mpr fun x hx => by
  obtain ⟨a, _, rfl⟩ := List.mem_map.mp hx; exact h a
theorem cl_fnil : closedF n [] = true := (rfl)
theorem cl_fcons {k : Nat} {x : D} {xs : List (Nat × D)} : closedF n ((k, x) :: xs) = (closed n x && closedF n xs) := (rfl)
/-! methods on a frame's own lists -/
theorem m_append {bs : Nat} {xs : List D} {x : D} {st : Sto} (h : st[i]? = some (.mu (.lst xs))) (hl : xs.length < LIM) (hf : fits bs i x = true) : bmeth .append (.loc i) [x] st bs = .ok .non (st.set i (.mu (.lst (xs ++ [x])))) := by
  show (match st[i]? with
    | some (.mu (.lst xs)) => if xs.length < LIM && fits bs i x then Res.ok D.non (st.set i (.mu (.lst (xs ++ [x])))) else .stk
    | _ => .stk) = _
  rw [h]
  show (if xs.length < LIM && fits bs i x then Res.ok D.non (st.set i (.mu (.lst (xs ++ [x])))) else .stk) = _
  rw [decide_eq_true hl, hf]; rfl
/-! the same in words for the simplifier -/
def bmC (m : M) (o : Option D) (mu : Bool) : Bool := match o with
  | some (.lst _) => lstM m
  | some (.dK _) => dicM m && (!dicW m || mu)
  | some (.dT _) => dicM m && (!dicW m || mu)
  | some (.str _) => strM m
  | _ => false
theorem bmT_eq {m : M} {o : D} : bmT m st o = bmC m (look st o) (isMu st o) := rfl
theorem bmC_l {m : M} {mu : Bool} {xs : List D} : bmC m (some (.lst xs)) mu = lstM m := (rfl)
theorem bmC_k {m : M} {mu : Bool} {xs : List (Key × D)} : bmC m (some (.dK xs)) mu = (dicM m && (!dicW m || mu)) := (rfl)
theorem bmC_t {m : M} {mu : Bool} {xs : List (List Key × D)} : bmC m (some (.dT xs)) mu = (dicM m && (!dicW m || mu)) := (rfl)
theorem bmC_s {m : M} {mu : Bool} {s : Str} : bmC m (some (.str s)) mu = strM m := (rfl)
def imC : Option Cell → Bool
  | some (.mu _) => true
  | _ => false
theorem im_loc {i : Nat} : isMu st (.loc i) = imC st[i]? := rfl
theorem im_mu {d : D} : imC (some (.mu d)) = true := rfl
def lmD (m : M) (c : Option Cell) (i : Nat) (as : List D) (st : Sto) (bs : Nat) : Res D := match c with
  | some (.mu (.lst xs)) => (match m, as with
    | .append, [x] => if xs.length < LIM ∧ fits bs i x = true then .ok .non (st.set i (.mu (.lst (xs ++ [x])))) else .stk
    | .clear, [] => .ok .non (st.set i (.mu (.lst [])))
    | .reverse, [] => .ok .non (st.set i (.mu (.lst xs.reverse)))
    | .pop, [] => (match xs[xs.length - 1]? with
      | some y => .ok y (st.set i (.mu (.lst xs.dropLast)))
      | none => .stk)
    | _, _ => .stk)
  | _ => .stk
theorem lm_append {i bs : Nat} {x : D} : bmeth .append (.loc i) [x] st bs = lmD .append st[i]? i [x] st bs := by
  dsimp only [bmeth]
  unfold lmD
  cases st[i]? with
  | none => rfl
  | some c =>
    cases c with
    | dead => rfl
    | lk _ => rfl
    | mu d => cases d <;> simp [Bool.and_eq_true]
theorem lm_clear {i bs : Nat} : bmeth .clear (.loc i) [] st bs = lmD .clear st[i]? i [] st bs := by
  dsimp only [bmeth]
  unfold lmD
  rcases st[i]? with _ | (_ | d | _) <;> try rfl
theorem lm_reverse {i bs : Nat} : bmeth .reverse (.loc i) [] st bs = lmD .reverse st[i]? i [] st bs := by
  dsimp only [bmeth]
  unfold lmD
  rcases st[i]? with _ | (_ | d | _) <;> try rfl
theorem lm_append_o {i bs : Nat} {x : D} {xs : List D} : lmD .append (some (.mu (.lst xs))) i [x] st bs = if xs.length < LIM ∧ fits bs i x = true then .ok .non (st.set i (.mu (.lst (xs ++ [x])))) else .stk := rfl
theorem lm_clear_o {i bs : Nat} {xs : List D} : lmD .clear (some (.mu (.lst xs))) i [] st bs = .ok .non (st.set i (.mu (.lst []))) := rfl
theorem lm_reverse_o {i bs : Nat} {xs : List D} : lmD .reverse (some (.mu (.lst xs))) i [] st bs = .ok .non (st.set i (.mu (.lst xs.reverse))) := rfl
/-- an item's store into a list of the store -/
def siD (c : Option Cell) (st : Sto) (bs i : Nat) (k v : D) : Option Sto := match c with
  | some (.mu (.lst xs)) => match k with
    | .int j => if fits bs i v = true then
        (if 0 ≤ j then (if j < xs.length then some (st.set i (.mu (.lst (xs.set j.toNat v)))) else none)
         else (if -(xs.length : Int) ≤ j then some (st.set i (.mu (.lst (xs.set (j + xs.length).toNat v)))) else none)) else none
    | _ => none
  | some (.mu d) => if fits bs i v = true then (dputD d k v).map fun d' => st.set i (.mu d') else none
  | _ => none
theorem si_eq {bs i : Nat} {k v : D} : setiD st bs (.loc i) k v = siD st[i]? st bs i k v := by
  dsimp only [setiD]
  unfold siD
  rcases st[i]? with _ | (_ | d | _) <;> try rfl
theorem si_l {bs i : Nat} {j : Int} {v : D} {xs : List D} : siD (some (.mu (.lst xs))) st bs i (.int j) v = if fits bs i v = true then
        (if 0 ≤ j then (if j < xs.length then some (st.set i (.mu (.lst (xs.set j.toNat v)))) else none)
         else (if -(xs.length : Int) ≤ j then some (st.set i (.mu (.lst (xs.set (j + xs.length).toNat v)))) else none)) else none := rfl
theorem si_k {bs i : Nat} {k v : D} {kvs : List (Key × D)} : siD (some (.mu (.dK kvs))) st bs i k v = if fits bs i v = true then (dputD (.dK kvs) k v).map fun d' => st.set i (.mu d') else none := rfl
theorem si_t {bs i : Nat} {k v : D} {kvs : List (List Key × D)} : siD (some (.mu (.dT kvs))) st bs i k v = if fits bs i v = true then (dputD (.dT kvs) k v).map fun d' => st.set i (.mu d') else none := rfl
theorem x_bm {pg : Pg} {bs : Nat} {ρ : DEnv} {m : M} {a as : E} : evE pg bs (.bm m a as) ρ st = (evE pg bs a ρ st).bind fun x st => if bmT m st x = true then (evA pg bs as ρ st).bind fun xs st => bmeth m x xs st bs else .stk := by
  show ((evE pg bs a ρ st).bind fun x st => if bmT m st x then (evA pg bs as ρ st).bind fun xs st => bmeth m x xs st bs else .stk) = _
  rfl
theorem x_fld {pg : Pg} {bs : Nat} {ρ : DEnv} {a : E} {f : Nat} : evE pg bs (.fld a f) ρ st = (evE pg bs a ρ st).bind fun x st => match fldD pg st x f with
    | some d => .ok d st
    | none => .stk := rfl
theorem x_own {pg : Pg} {bs : Nat} {ρ : DEnv} {a : E} : evE pg bs (.own a) ρ st = ownD (evE pg bs a ρ st) := rfl
theorem own_ok {xs : List D} : ownD (.ok (.lst xs) st) = .ok (.loc st.length) (st ++ [.mu (.lst xs)]) := rfl
theorem y_setf {pg : Pg} {bs : Nat} {ρ : DEnv} {a e : E} {f : Nat} : evS pg bs (.setf a f e) ρ st = (evE pg bs e ρ st).sr ρ fun v st => (evE pg bs a ρ st).sr ρ fun o st => match setfD pg st bs o f v with
    | some st => .nx ρ st
    | none => .stk := rfl
theorem y_seti {pg : Pg} {bs : Nat} {ρ : DEnv} {a i e : E} : evS pg bs (.seti a i e) ρ st = (evE pg bs e ρ st).sr ρ fun v st => (evE pg bs a ρ st).sr ρ fun o st => (evE pg bs i ρ st).sr ρ fun k st => match setiD st bs o k v with
    | some st => .nx ρ st
    | none => .stk := rfl
theorem y_kill {pg : Pg} {bs : Nat} {ρ : DEnv} {l : List Nat} : evS pg bs (.kill l) ρ st = .nx (wipeD ρ l) st := rfl
theorem y_frz {pg : Pg} {bs : Nat} {ρ : DEnv} {i : Nat} : evS pg bs (.frz i) ρ st = match ρ[i]? with
    | some (.v (.loc j)) => match st[j]? with
      | some (.mu d) => .nx (ρ.set i (.v d)) (st.set j .dead)
      | _ => .stk
    | some (.v _) => .nx ρ st
    | _ => .stk := rfl
end
theorem lim_of {n : Nat} (h : n ≤ 100000) : n ≤ LIM := Nat.le_trans h (by decide)
theorem lim_lt {n : Nat} (h : n ≤ 100000) : n < LIM := Nat.lt_of_le_of_lt h (by decide)
theorem ten100 : (10 : Int) ^ 100 < 2 ^ 1000 := by decide +kernel
/-- numbers that are not great -/
theorem abs_lt {j : Int} {B : Nat} (h1 : -(B : Int) ≤ j) (h2 : j ≤ B) : j.natAbs ≤ B := by omega
theorem mul_sm {i j : Int} (h1 : -(10 : Int) ^ 250 ≤ i) (h2 : i ≤ 10 ^ 250) (h3 : -(10 : Int) ^ 250 ≤ j) (h4 : j ≤ 10 ^ 250) : mulOk i j = true := by
  have p : (10 : Nat) ^ 250 < 2 ^ 1000 := by decide +kernel
  have q : ((10 : Nat) ^ 250 : Nat) = ((10 : Int) ^ 250) := by norm_cast
  have b1 : i.natAbs < 2 ^ 1000 := Nat.lt_of_le_of_lt (abs_lt (B := 10 ^ 250) (by rw [q]; exact h1) (by rw [q]; exact h2)) p
  have b2 : j.natAbs < 2 ^ 1000 := Nat.lt_of_le_of_lt (abs_lt (B := 10 ^ 250) (by rw [q]; exact h3) (by rw [q]; exact h4)) p
  have e : (2 : Nat) ^ 1000 ≤ 2 ^ 400000 := Nat.pow_le_pow_right (by decide) (by decide)
  exact mulB (Nat.lt_of_lt_of_le b1 e) (Nat.lt_of_lt_of_le b2 e)
theorem div_sm {j : Int} (h1 : 0 < j) (h2 : j ≤ 10 ^ 250) : divOk j = true := by
  have p : (10 : Nat) ^ 250 < 2 ^ 1000 := by decide +kernel
  have q : ((10 : Nat) ^ 250 : Nat) = ((10 : Int) ^ 250) := by norm_cast
  have b1 : j.natAbs < 2 ^ 1000 := Nat.lt_of_le_of_lt (abs_lt (B := 10 ^ 250) (by rw [q]; omega) (by rw [q]; exact h2)) p
  exact divB h1 (Nat.lt_of_lt_of_le b1 (Nat.pow_le_pow_right (by decide) (by decide)))
end Den
set_option maxHeartbeats 4000000
/-! DK: the interpreter's equations; what is still to be done stands as a word of its own, so that nothing is looked at ahead of its time. -/
namespace Den
open PySem L2
section
variable {pg : Pg} {bs : Nat} {ρ : DEnv} {st : Sto}
def kUn (o : U) (r : Res D) : Res D := r.bind fun x st => opU o x st
theorem kUn_o0 {o : U} {x : D} {st : Sto} : kUn o (.ok x st) = opU o x st := rfl
theorem kUn_o1 {o : U} {c : Nat} {fs : List (Nat × D)} {st : Sto} : kUn o (.exc c fs st) = .exc c fs st := rfl
theorem kUn_if {o : U} {pp : Prop} [Decidable pp] {u1 u2 : Res D} : kUn o (if pp then u1 else u2) = if pp then kUn o u1 else kUn o u2 := by by_cases h : pp <;> simp only [h, if_true, if_false]
theorem z_un {o : U} {a : E} : evE pg bs (.un o a) ρ st = kUn o (evE pg bs a ρ st) := rfl
def kBin2 (o : B) (y0 : D) (r : Res D) : Res D := r.bind fun x st => opB o y0 x st
theorem kBin2_o0 {o : B} {y0 : D} {x : D} {st : Sto} : kBin2 o y0 (.ok x st) = opB o y0 x st := rfl
theorem kBin2_o1 {o : B} {y0 : D} {c : Nat} {fs : List (Nat × D)} {st : Sto} : kBin2 o y0 (.exc c fs st) = .exc c fs st := rfl
theorem kBin2_if {o : B} {y0 : D} {pp : Prop} [Decidable pp] {u1 u2 : Res D} : kBin2 o y0 (if pp then u1 else u2) = if pp then kBin2 o y0 u1 else kBin2 o y0 u2 := by by_cases h : pp <;> simp only [h, if_true, if_false]
def kBin1 (pg : Pg) (bs : Nat) (o : B) (b : E) (ρ : DEnv) (r : Res D) : Res D := r.bind fun x st => kBin2 o x (evE pg bs b ρ st)
theorem kBin1_o0 {pg : Pg} {bs : Nat} {o : B} {b : E} {ρ : DEnv} {x : D} {st : Sto} : kBin1 pg bs o b ρ (.ok x st) = kBin2 o x (evE pg bs b ρ st) := rfl
theorem kBin1_o1 {pg : Pg} {bs : Nat} {o : B} {b : E} {ρ : DEnv} {c : Nat} {fs : List (Nat × D)} {st : Sto} : kBin1 pg bs o b ρ (.exc c fs st) = .exc c fs st := rfl
theorem kBin1_if {pg : Pg} {bs : Nat} {o : B} {b : E} {ρ : DEnv} {pp : Prop} [Decidable pp] {u1 u2 : Res D} : kBin1 pg bs o b ρ (if pp then u1 else u2) = if pp then kBin1 pg bs o b ρ u1 else kBin1 pg bs o b ρ u2 := by by_cases h : pp <;> simp only [h, if_true, if_false]
theorem z_bin {o : B} {a b : E} : evE pg bs (.bin o a b) ρ st = kBin1 pg bs o b ρ (evE pg bs a ρ st) := rfl
def kCmp2 (o : C) (y0 : D) (r : Res D) : Res D := r.bind fun x st => opC o y0 x st
theorem kCmp2_o0 {o : C} {y0 : D} {x : D} {st : Sto} : kCmp2 o y0 (.ok x st) = opC o y0 x st := rfl
theorem kCmp2_o1 {o : C} {y0 : D} {c : Nat} {fs : List (Nat × D)} {st : Sto} : kCmp2 o y0 (.exc c fs st) = .exc c fs st := rfl
theorem kCmp2_if {o : C} {y0 : D} {pp : Prop} [Decidable pp] {u1 u2 : Res D} : kCmp2 o y0 (if pp then u1 else u2) = if pp then kCmp2 o y0 u1 else kCmp2 o y0 u2 := by by_cases h : pp <;> simp only [h, if_true, if_false]
def kCmp1 (pg : Pg) (bs : Nat) (o : C) (b : E) (ρ : DEnv) (r : Res D) : Res D := r.bind fun x st => kCmp2 o x (evE pg bs b ρ st)
theorem kCmp1_o0 {pg : Pg} {bs : Nat} {o : C} {b : E} {ρ : DEnv} {x : D} {st : Sto} : kCmp1 pg bs o b ρ (.ok x st) = kCmp2 o x (evE pg bs b ρ st) := rfl
theorem kCmp1_o1 {pg : Pg} {bs : Nat} {o : C} {b : E} {ρ : DEnv} {c : Nat} {fs : List (Nat × D)} {st : Sto} : kCmp1 pg bs o b ρ (.exc c fs st) = .exc c fs st := rfl
theorem kCmp1_if {pg : Pg} {bs : Nat} {o : C} {b : E} {ρ : DEnv} {pp : Prop} [Decidable pp] {u1 u2 : Res D} : kCmp1 pg bs o b ρ (if pp then u1 else u2) = if pp then kCmp1 pg bs o b ρ u1 else kCmp1 pg bs o b ρ u2 := by by_cases h : pp <;> simp only [h, if_true, if_false]
theorem z_cmp {o : C} {a b : E} : evE pg bs (.cmp o a b) ρ st = kCmp1 pg bs o b ρ (evE pg bs a ρ st) := rfl
def kChn3 (pg : Pg) (bs : Nat) (o : C) (y0 : D) (c1 : E) (ρ : DEnv) (r : Res D) : Res D := r.bind fun x st => match x with
    | .bl true => kCmp2 o y0 (evE pg bs c1 ρ st)
    | .bl false => .ok (.bl false) st
    | _ => .stk
theorem kChn3_b {pg : Pg} {bs : Nat} {o : C} {y0 : D} {c1 : E} {ρ : DEnv} {q : Bool} {st : Sto} : kChn3 pg bs o y0 c1 ρ (.ok (.bl q) st) = if q = true then kCmp2 o y0 (evE pg bs c1 ρ st) else .ok (.bl false) st := by cases q <;> rfl
theorem kChn3_x {pg : Pg} {bs : Nat} {o : C} {y0 : D} {c1 : E} {ρ : DEnv} {c : Nat} {fs : List (Nat × D)} {st : Sto} : kChn3 pg bs o y0 c1 ρ (.exc c fs st) = .exc c fs st := rfl
theorem kChn3_if {pg : Pg} {bs : Nat} {o : C} {y0 : D} {c1 : E} {ρ : DEnv} {pp : Prop} [Decidable pp] {u1 u2 : Res D} : kChn3 pg bs o y0 c1 ρ (if pp then u1 else u2) = if pp then kChn3 pg bs o y0 c1 ρ u1 else kChn3 pg bs o y0 c1 ρ u2 := by by_cases h : pp <;> simp only [h, if_true, if_false]
def kChn2 (pg : Pg) (bs : Nat) (o : C) (o1 : C) (y0 : D) (c1 : E) (ρ : DEnv) (r : Res D) : Res D := r.bind fun x st => kChn3 pg bs o1 x c1 ρ (opC o y0 x st)
theorem kChn2_o0 {pg : Pg} {bs : Nat} {o : C} {o1 : C} {y0 : D} {c1 : E} {ρ : DEnv} {x : D} {st : Sto} : kChn2 pg bs o o1 y0 c1 ρ (.ok x st) = kChn3 pg bs o1 x c1 ρ (opC o y0 x st) := rfl
theorem kChn2_o1 {pg : Pg} {bs : Nat} {o : C} {o1 : C} {y0 : D} {c1 : E} {ρ : DEnv} {c : Nat} {fs : List (Nat × D)} {st : Sto} : kChn2 pg bs o o1 y0 c1 ρ (.exc c fs st) = .exc c fs st := rfl
theorem kChn2_if {pg : Pg} {bs : Nat} {o : C} {o1 : C} {y0 : D} {c1 : E} {ρ : DEnv} {pp : Prop} [Decidable pp] {u1 u2 : Res D} : kChn2 pg bs o o1 y0 c1 ρ (if pp then u1 else u2) = if pp then kChn2 pg bs o o1 y0 c1 ρ u1 else kChn2 pg bs o o1 y0 c1 ρ u2 := by by_cases h : pp <;> simp only [h, if_true, if_false]
def kChn1 (pg : Pg) (bs : Nat) (o : C) (o1 : C) (b : E) (c1 : E) (ρ : DEnv) (r : Res D) : Res D := r.bind fun x st => kChn2 pg bs o o1 x c1 ρ (evE pg bs b ρ st)
theorem kChn1_o0 {pg : Pg} {bs : Nat} {o : C} {o1 : C} {b : E} {c1 : E} {ρ : DEnv} {x : D} {st : Sto} : kChn1 pg bs o o1 b c1 ρ (.ok x st) = kChn2 pg bs o o1 x c1 ρ (evE pg bs b ρ st) := rfl
theorem kChn1_o1 {pg : Pg} {bs : Nat} {o : C} {o1 : C} {b : E} {c1 : E} {ρ : DEnv} {c : Nat} {fs : List (Nat × D)} {st : Sto} : kChn1 pg bs o o1 b c1 ρ (.exc c fs st) = .exc c fs st := rfl
theorem kChn1_if {pg : Pg} {bs : Nat} {o : C} {o1 : C} {b : E} {c1 : E} {ρ : DEnv} {pp : Prop} [Decidable pp] {u1 u2 : Res D} : kChn1 pg bs o o1 b c1 ρ (if pp then u1 else u2) = if pp then kChn1 pg bs o o1 b c1 ρ u1 else kChn1 pg bs o o1 b c1 ρ u2 := by by_cases h : pp <;> simp only [h, if_true, if_false]
theorem z_chn {o o1 : C} {a b c : E} : evE pg bs (.chn o o1 a b c) ρ st = kChn1 pg bs o o1 b c ρ (evE pg bs a ρ st) := rfl
def kNot  (r : Res D) : Res D := r.bind fun x st => match x with
    | .bl b => .ok (.bl (!b)) st
    | _ => .stk
theorem kNot_o0  {p : Bool} {st : Sto} : kNot  (.ok (.bl p) st) = .ok (.bl (!p)) st := rfl
theorem kNot_o1  {c : Nat} {fs : List (Nat × D)} {st : Sto} : kNot  (.exc c fs st) = .exc c fs st := rfl
theorem kNot_if  {pp : Prop} [Decidable pp] {u1 u2 : Res D} : kNot  (if pp then u1 else u2) = if pp then kNot  u1 else kNot  u2 := by by_cases h : pp <;> simp only [h, if_true, if_false]
theorem z_not {a : E} : evE pg bs (.not a) ρ st = kNot (evE pg bs a ρ st) := rfl
def kAnd (pg : Pg) (bs : Nat) (as : E) (ρ : DEnv) (r : Res D) : Res D := r.bind fun x st => match x with
    | .bl true => evAnd pg bs as ρ st
    | .bl false => .ok (.bl false) st
    | _ => .stk
theorem kAnd_b {pg : Pg} {bs : Nat} {as : E} {ρ : DEnv} {q : Bool} {st : Sto} : kAnd pg bs as ρ (.ok (.bl q) st) = if q = true then evAnd pg bs as ρ st else .ok (.bl false) st := by cases q <;> rfl
theorem kAnd_x {pg : Pg} {bs : Nat} {as : E} {ρ : DEnv} {c : Nat} {fs : List (Nat × D)} {st : Sto} : kAnd pg bs as ρ (.exc c fs st) = .exc c fs st := rfl
theorem kAnd_if {pg : Pg} {bs : Nat} {as : E} {ρ : DEnv} {pp : Prop} [Decidable pp] {u1 u2 : Res D} : kAnd pg bs as ρ (if pp then u1 else u2) = if pp then kAnd pg bs as ρ u1 else kAnd pg bs as ρ u2 := by by_cases h : pp <;> simp only [h, if_true, if_false]
theorem z_andc {a as : E} : evAnd pg bs (.cons a as) ρ st = kAnd pg bs as ρ (evE pg bs a ρ st) := rfl
def kOr (pg : Pg) (bs : Nat) (as : E) (ρ : DEnv) (r : Res D) : Res D := r.bind fun x st => match x with
    | .bl true => .ok (.bl true) st
    | .bl false => evOr pg bs as ρ st
    | _ => .stk
theorem kOr_b {pg : Pg} {bs : Nat} {as : E} {ρ : DEnv} {q : Bool} {st : Sto} : kOr pg bs as ρ (.ok (.bl q) st) = if q = true then .ok (.bl true) st else evOr pg bs as ρ st := by cases q <;> rfl
theorem kOr_x {pg : Pg} {bs : Nat} {as : E} {ρ : DEnv} {c : Nat} {fs : List (Nat × D)} {st : Sto} : kOr pg bs as ρ (.exc c fs st) = .exc c fs st := rfl
theorem kOr_if {pg : Pg} {bs : Nat} {as : E} {ρ : DEnv} {pp : Prop} [Decidable pp] {u1 u2 : Res D} : kOr pg bs as ρ (if pp then u1 else u2) = if pp then kOr pg bs as ρ u1 else kOr pg bs as ρ u2 := by by_cases h : pp <;> simp only [h, if_true, if_false]
theorem z_orc {a as : E} : evOr pg bs (.cons a as) ρ st = kOr pg bs as ρ (evE pg bs a ρ st) := x_orc
def kIfe (pg : Pg) (bs : Nat) (a : E) (b : E) (ρ : DEnv) (r : Res D) : Res D := r.bind fun x st => match x with
    | .bl true => evE pg bs a ρ st
    | .bl false => evE pg bs b ρ st
    | _ => .stk
theorem kIfe_b {pg : Pg} {bs : Nat} {a : E} {b : E} {ρ : DEnv} {q : Bool} {st : Sto} : kIfe pg bs a b ρ (.ok (.bl q) st) = if q = true then evE pg bs a ρ st else evE pg bs b ρ st := by cases q <;> rfl
theorem kIfe_x {pg : Pg} {bs : Nat} {a : E} {b : E} {ρ : DEnv} {c : Nat} {fs : List (Nat × D)} {st : Sto} : kIfe pg bs a b ρ (.exc c fs st) = .exc c fs st := rfl
theorem kIfe_if {pg : Pg} {bs : Nat} {a : E} {b : E} {ρ : DEnv} {pp : Prop} [Decidable pp] {u1 u2 : Res D} : kIfe pg bs a b ρ (if pp then u1 else u2) = if pp then kIfe pg bs a b ρ u1 else kIfe pg bs a b ρ u2 := by by_cases h : pp <;> simp only [h, if_true, if_false]
theorem z_ife {c a b : E} : evE pg bs (.ife c a b) ρ st = kIfe pg bs a b ρ (evE pg bs c ρ st) := rfl
def kTup  (r : Res (List D)) : Res D := r.bind fun xs st => if xs.length ≤ LIM then .ok (.tup xs) st else .stk
theorem kTup_o0  {xs : List D} {st : Sto} : kTup  (.ok xs st) = if xs.length ≤ LIM then .ok (.tup xs) st else .stk := rfl
theorem kTup_o1  {c : Nat} {fs : List (Nat × D)} {st : Sto} : kTup  (.exc c fs st) = .exc c fs st := rfl
theorem kTup_if  {pp : Prop} [Decidable pp] {u1 u2 : Res (List D)} : kTup  (if pp then u1 else u2) = if pp then kTup  u1 else kTup  u2 := by by_cases h : pp <;> simp only [h, if_true, if_false]
theorem z_tup {as : E} : evE pg bs (.tup as) ρ st = kTup (evA pg bs as ρ st) := rfl
def kLst (m : Bool) (r : Res (List D)) : Res D := r.bind fun xs st => if xs.length ≤ LIM then (if m then .ok (.loc st.length) (st ++ [.mu (.lst xs)]) else .ok (.lst xs) st) else .stk
theorem kLst_o0 {m : Bool} {xs : List D} {st : Sto} : kLst m (.ok xs st) = if xs.length ≤ LIM then (if m then .ok (.loc st.length) (st ++ [.mu (.lst xs)]) else .ok (.lst xs) st) else .stk := rfl
theorem kLst_o1 {m : Bool} {c : Nat} {fs : List (Nat × D)} {st : Sto} : kLst m (.exc c fs st) = .exc c fs st := rfl
theorem kLst_if {m : Bool} {pp : Prop} [Decidable pp] {u1 u2 : Res (List D)} : kLst m (if pp then u1 else u2) = if pp then kLst m u1 else kLst m u2 := by by_cases h : pp <;> simp only [h, if_true, if_false]
theorem z_lst {m : Bool} {as : E} : evE pg bs (.lst m as) ρ st = kLst m (evA pg bs as ρ st) := rfl
def kIdx2 (y0 : D) (r : Res D) : Res D := r.bind fun x st => idxD y0 x st
theorem kIdx2_o0 {y0 : D} {x : D} {st : Sto} : kIdx2 y0 (.ok x st) = idxD y0 x st := rfl
theorem kIdx2_o1 {y0 : D} {c : Nat} {fs : List (Nat × D)} {st : Sto} : kIdx2 y0 (.exc c fs st) = .exc c fs st := rfl
theorem kIdx2_if {y0 : D} {pp : Prop} [Decidable pp] {u1 u2 : Res D} : kIdx2 y0 (if pp then u1 else u2) = if pp then kIdx2 y0 u1 else kIdx2 y0 u2 := by by_cases h : pp <;> simp only [h, if_true, if_false]
def kIdx1 (pg : Pg) (bs : Nat) (b : E) (ρ : DEnv) (r : Res D) : Res D := r.bind fun x st => kIdx2 x (evE pg bs b ρ st)
theorem kIdx1_o0 {pg : Pg} {bs : Nat} {b : E} {ρ : DEnv} {x : D} {st : Sto} : kIdx1 pg bs b ρ (.ok x st) = kIdx2 x (evE pg bs b ρ st) := rfl
theorem kIdx1_o1 {pg : Pg} {bs : Nat} {b : E} {ρ : DEnv} {c : Nat} {fs : List (Nat × D)} {st : Sto} : kIdx1 pg bs b ρ (.exc c fs st) = .exc c fs st := rfl
theorem kIdx1_if {pg : Pg} {bs : Nat} {b : E} {ρ : DEnv} {pp : Prop} [Decidable pp] {u1 u2 : Res D} : kIdx1 pg bs b ρ (if pp then u1 else u2) = if pp then kIdx1 pg bs b ρ u1 else kIdx1 pg bs b ρ u2 := by by_cases h : pp <;> simp only [h, if_true, if_false]
theorem z_idx {a b : E} : evE pg bs (.idx a b) ρ st = kIdx1 pg bs b ρ (evE pg bs a ρ st) := rfl
def kSlc3 (y0 : D) (l0 : Option Int) (r : Res (Option Int)) : Res D := r.bind fun x st => slcD y0 l0 x st
theorem kSlc3_o0 {y0 : D} {l0 : Option Int} {x : Option Int} {st : Sto} : kSlc3 y0 l0 (.ok x st) = slcD y0 l0 x st := rfl
theorem kSlc3_o1 {y0 : D} {l0 : Option Int} {c : Nat} {fs : List (Nat × D)} {st : Sto} : kSlc3 y0 l0 (.exc c fs st) = .exc c fs st := rfl
theorem kSlc3_if {y0 : D} {l0 : Option Int} {pp : Prop} [Decidable pp] {u1 u2 : Res (Option Int)} : kSlc3 y0 l0 (if pp then u1 else u2) = if pp then kSlc3 y0 l0 u1 else kSlc3 y0 l0 u2 := by by_cases h : pp <;> simp only [h, if_true, if_false]
def kSlc2 (pg : Pg) (bs : Nat) (y0 : D) (hi : E) (ρ : DEnv) (r : Res (Option Int)) : Res D := r.bind fun x st => kSlc3 y0 x (evO pg bs hi ρ st)
theorem kSlc2_o0 {pg : Pg} {bs : Nat} {y0 : D} {hi : E} {ρ : DEnv} {x : Option Int} {st : Sto} : kSlc2 pg bs y0 hi ρ (.ok x st) = kSlc3 y0 x (evO pg bs hi ρ st) := rfl
theorem kSlc2_o1 {pg : Pg} {bs : Nat} {y0 : D} {hi : E} {ρ : DEnv} {c : Nat} {fs : List (Nat × D)} {st : Sto} : kSlc2 pg bs y0 hi ρ (.exc c fs st) = .exc c fs st := rfl
theorem kSlc2_if {pg : Pg} {bs : Nat} {y0 : D} {hi : E} {ρ : DEnv} {pp : Prop} [Decidable pp] {u1 u2 : Res (Option Int)} : kSlc2 pg bs y0 hi ρ (if pp then u1 else u2) = if pp then kSlc2 pg bs y0 hi ρ u1 else kSlc2 pg bs y0 hi ρ u2 := by by_cases h : pp <;> simp only [h, if_true, if_false]
def kSlc1 (pg : Pg) (bs : Nat) (lo : E) (hi : E) (ρ : DEnv) (r : Res D) : Res D := r.bind fun x st => kSlc2 pg bs x hi ρ (evO pg bs lo ρ st)
theorem kSlc1_o0 {pg : Pg} {bs : Nat} {lo : E} {hi : E} {ρ : DEnv} {x : D} {st : Sto} : kSlc1 pg bs lo hi ρ (.ok x st) = kSlc2 pg bs x hi ρ (evO pg bs lo ρ st) := rfl
theorem kSlc1_o1 {pg : Pg} {bs : Nat} {lo : E} {hi : E} {ρ : DEnv} {c : Nat} {fs : List (Nat × D)} {st : Sto} : kSlc1 pg bs lo hi ρ (.exc c fs st) = .exc c fs st := rfl
theorem kSlc1_if {pg : Pg} {bs : Nat} {lo : E} {hi : E} {ρ : DEnv} {pp : Prop} [Decidable pp] {u1 u2 : Res D} : kSlc1 pg bs lo hi ρ (if pp then u1 else u2) = if pp then kSlc1 pg bs lo hi ρ u1 else kSlc1 pg bs lo hi ρ u2 := by by_cases h : pp <;> simp only [h, if_true, if_false]
theorem z_slc {a lo hi : E} : evE pg bs (.slc a lo hi) ρ st = kSlc1 pg bs lo hi ρ (evE pg bs a ρ st) := rfl
def kFld (pg : Pg) (f : Nat) (r : Res D) : Res D := r.bind fun x st => match fldD pg st x f with
    | some d => .ok d st
    | none => .stk
theorem kFld_o0 {pg : Pg} {f : Nat} {x : D} {st : Sto} : kFld pg f (.ok x st) = (match fldD pg st x f with
    | some d => .ok d st
    | none => .stk) := rfl
theorem kFld_o1 {pg : Pg} {f : Nat} {c : Nat} {fs : List (Nat × D)} {st : Sto} : kFld pg f (.exc c fs st) = .exc c fs st := rfl
theorem kFld_if {pg : Pg} {f : Nat} {pp : Prop} [Decidable pp] {u1 u2 : Res D} : kFld pg f (if pp then u1 else u2) = if pp then kFld pg f u1 else kFld pg f u2 := by by_cases h : pp <;> simp only [h, if_true, if_false]
theorem z_fld {a : E} {f : Nat} : evE pg bs (.fld a f) ρ st = kFld pg f (evE pg bs a ρ st) := rfl
def kCall (pg : Pg) (bs : Nat) (f : Nat) (md : Mode) (r : Res (List D)) : Res D := r.bind fun xs st => callM pg f md xs st bs
theorem kCall_o0 {pg : Pg} {bs : Nat} {f : Nat} {md : Mode} {xs : List D} {st : Sto} : kCall pg bs f md (.ok xs st) = callM pg f md xs st bs := rfl
theorem kCall_o1 {pg : Pg} {bs : Nat} {f : Nat} {md : Mode} {c : Nat} {fs : List (Nat × D)} {st : Sto} : kCall pg bs f md (.exc c fs st) = .exc c fs st := rfl
theorem kCall_if {pg : Pg} {bs : Nat} {f : Nat} {md : Mode} {pp : Prop} [Decidable pp] {u1 u2 : Res (List D)} : kCall pg bs f md (if pp then u1 else u2) = if pp then kCall pg bs f md u1 else kCall pg bs f md u2 := by by_cases h : pp <;> simp only [h, if_true, if_false]
theorem z_call {f : Nat} {md : Mode} {as : E} : evE pg bs (.call f md as) ρ st = kCall pg bs f md (evA pg bs as ρ st) := rfl
def kMeth2 (pg : Pg) (bs : Nat) (f : Nat) (md : Mode) (y0 : D) (r : Res (List D)) : Res D := r.bind fun xs st => callM pg f md (y0 :: xs) st bs
theorem kMeth2_o0 {pg : Pg} {bs : Nat} {f : Nat} {md : Mode} {y0 : D} {xs : List D} {st : Sto} : kMeth2 pg bs f md y0 (.ok xs st) = callM pg f md (y0 :: xs) st bs := rfl
theorem kMeth2_o1 {pg : Pg} {bs : Nat} {f : Nat} {md : Mode} {y0 : D} {c : Nat} {fs : List (Nat × D)} {st : Sto} : kMeth2 pg bs f md y0 (.exc c fs st) = .exc c fs st := rfl
theorem kMeth2_if {pg : Pg} {bs : Nat} {f : Nat} {md : Mode} {y0 : D} {pp : Prop} [Decidable pp] {u1 u2 : Res (List D)} : kMeth2 pg bs f md y0 (if pp then u1 else u2) = if pp then kMeth2 pg bs f md y0 u1 else kMeth2 pg bs f md y0 u2 := by by_cases h : pp <;> simp only [h, if_true, if_false]
def kMeth1 (pg : Pg) (bs : Nat) (m : Nat) (md : Mode) (as : E) (ρ : DEnv) (r : Res D) : Res D := r.bind fun x st => match clsOf st x m with
    | some c => match pg.mt c m with
      | some f => kMeth2 pg bs f md x (evA pg bs as ρ st)
      | none => .stk
    | none => .stk
theorem kMeth1_o0 {pg : Pg} {bs : Nat} {m : Nat} {md : Mode} {as : E} {ρ : DEnv} {x : D} {st : Sto} : kMeth1 pg bs m md as ρ (.ok x st) = (match clsOf st x m with
    | some c => match pg.mt c m with
      | some f => kMeth2 pg bs f md x (evA pg bs as ρ st)
      | none => .stk
    | none => .stk) := rfl
theorem kMeth1_o1 {pg : Pg} {bs : Nat} {m : Nat} {md : Mode} {as : E} {ρ : DEnv} {c : Nat} {fs : List (Nat × D)} {st : Sto} : kMeth1 pg bs m md as ρ (.exc c fs st) = .exc c fs st := rfl
theorem kMeth1_if {pg : Pg} {bs : Nat} {m : Nat} {md : Mode} {as : E} {ρ : DEnv} {pp : Prop} [Decidable pp] {u1 u2 : Res D} : kMeth1 pg bs m md as ρ (if pp then u1 else u2) = if pp then kMeth1 pg bs m md as ρ u1 else kMeth1 pg bs m md as ρ u2 := by by_cases h : pp <;> simp only [h, if_true, if_false]
theorem z_meth {a as : E} {m : Nat} {md : Mode} : evE pg bs (.meth a m md as) ρ st = kMeth1 pg bs m md as ρ (evE pg bs a ρ st) := rfl
def mkD (pg : Pg) (bs c0 : Nat) (md : Mode) (xs : List D) (st : Sto) : Res D := (match pg.ini c0 with
    | some f =>
      let n := st.length
      let r := (pg.fns f (.loc n :: xs) (st ++ [.mu (.ins c0 [])]) (match md with | .keep => bs | _ => n)).bind fun d st => match d with
        | .non => Res.ok (D.loc n) st
        | _ => .stk
      match md with
      | .pure => sealP n r
      | .fresh => sealF n r
      | .keep => r
    | none => .stk)
def kMake (pg : Pg) (bs : Nat) (c0 : Nat) (md : Mode) (r : Res (List D)) : Res D := r.bind fun xs st => mkD pg bs c0 md xs st
theorem kMake_o0 {pg : Pg} {bs : Nat} {c0 : Nat} {md : Mode} {xs : List D} {st : Sto} : kMake pg bs c0 md (.ok xs st) = mkD pg bs c0 md xs st := rfl
theorem kMake_o1 {pg : Pg} {bs : Nat} {c0 : Nat} {md : Mode} {c : Nat} {fs : List (Nat × D)} {st : Sto} : kMake pg bs c0 md (.exc c fs st) = .exc c fs st := rfl
theorem kMake_if {pg : Pg} {bs : Nat} {c0 : Nat} {md : Mode} {pp : Prop} [Decidable pp] {u1 u2 : Res (List D)} : kMake pg bs c0 md (if pp then u1 else u2) = if pp then kMake pg bs c0 md u1 else kMake pg bs c0 md u2 := by by_cases h : pp <;> simp only [h, if_true, if_false]
theorem z_make {c : Nat} {md : Mode} {as : E} : evE pg bs (.make c md as) ρ st = kMake pg bs c md (evA pg bs as ρ st) := rfl
def kPr (p : P) (r : Res (List D)) : Res D := r.bind fun xs st => prim p xs st
theorem kPr_o0 {p : P} {xs : List D} {st : Sto} : kPr p (.ok xs st) = prim p xs st := rfl
theorem kPr_o1 {p : P} {c : Nat} {fs : List (Nat × D)} {st : Sto} : kPr p (.exc c fs st) = .exc c fs st := rfl
theorem kPr_if {p : P} {pp : Prop} [Decidable pp] {u1 u2 : Res (List D)} : kPr p (if pp then u1 else u2) = if pp then kPr p u1 else kPr p u2 := by by_cases h : pp <;> simp only [h, if_true, if_false]
theorem z_pr {p : P} {as : E} : evE pg bs (.pr p as) ρ st = kPr p (evA pg bs as ρ st) := rfl
def kIso (pg : Pg) (c0 : Nat) (r : Res D) : Res D := r.bind fun x st => match isoD pg st x c0 with
    | some b => .ok (.bl b) st
    | none => .stk
theorem kIso_o0 {pg : Pg} {c0 : Nat} {x : D} {st : Sto} : kIso pg c0 (.ok x st) = (match isoD pg st x c0 with
    | some b => .ok (.bl b) st
    | none => .stk) := rfl
theorem kIso_o1 {pg : Pg} {c0 : Nat} {c : Nat} {fs : List (Nat × D)} {st : Sto} : kIso pg c0 (.exc c fs st) = .exc c fs st := rfl
theorem kIso_if {pg : Pg} {c0 : Nat} {pp : Prop} [Decidable pp] {u1 u2 : Res D} : kIso pg c0 (if pp then u1 else u2) = if pp then kIso pg c0 u1 else kIso pg c0 u2 := by by_cases h : pp <;> simp only [h, if_true, if_false]
theorem z_iso {a : E} {c : Nat} : evE pg bs (.iso a c) ρ st = kIso pg c (evE pg bs a ρ st) := rfl
def kDsp (m : Bool) (t : Bool) (r : Res (List D)) : Res D := r.bind fun xs st => dspD m t xs st
theorem kDsp_o0 {m : Bool} {t : Bool} {xs : List D} {st : Sto} : kDsp m t (.ok xs st) = dspD m t xs st := rfl
theorem kDsp_o1 {m : Bool} {t : Bool} {c : Nat} {fs : List (Nat × D)} {st : Sto} : kDsp m t (.exc c fs st) = .exc c fs st := rfl
theorem kDsp_if {m : Bool} {t : Bool} {pp : Prop} [Decidable pp] {u1 u2 : Res (List D)} : kDsp m t (if pp then u1 else u2) = if pp then kDsp m t u1 else kDsp m t u2 := by by_cases h : pp <;> simp only [h, if_true, if_false]
theorem z_ddsp {m t : Bool} {as : E} : evE pg bs (.ddsp m t as) ρ st = kDsp m t (evA pg bs as ρ st) := rfl
def kIx2 (pg : Pg) (y0 : D) (r : Res D) : Res D := r.bind fun x st => idxxD pg.vE y0 x st
theorem kIx2_o0 {pg : Pg} {y0 : D} {x : D} {st : Sto} : kIx2 pg y0 (.ok x st) = idxxD pg.vE y0 x st := rfl
theorem kIx2_o1 {pg : Pg} {y0 : D} {c : Nat} {fs : List (Nat × D)} {st : Sto} : kIx2 pg y0 (.exc c fs st) = .exc c fs st := rfl
theorem kIx2_if {pg : Pg} {y0 : D} {pp : Prop} [Decidable pp] {u1 u2 : Res D} : kIx2 pg y0 (if pp then u1 else u2) = if pp then kIx2 pg y0 u1 else kIx2 pg y0 u2 := by by_cases h : pp <;> simp only [h, if_true, if_false]
def kIx1 (pg : Pg) (bs : Nat) (d : E) (ρ : DEnv) (r : Res D) : Res D := r.bind fun x st => if bmT .index st x = true then kIx2 pg x (evE pg bs d ρ st) else .stk
theorem kIx1_o0 {pg : Pg} {bs : Nat} {d : E} {ρ : DEnv} {x : D} {st : Sto} : kIx1 pg bs d ρ (.ok x st) = if bmT .index st x = true then kIx2 pg x (evE pg bs d ρ st) else .stk := rfl
theorem kIx1_o1 {pg : Pg} {bs : Nat} {d : E} {ρ : DEnv} {c : Nat} {fs : List (Nat × D)} {st : Sto} : kIx1 pg bs d ρ (.exc c fs st) = .exc c fs st := rfl
theorem kIx1_if {pg : Pg} {bs : Nat} {d : E} {ρ : DEnv} {pp : Prop} [Decidable pp] {u1 u2 : Res D} : kIx1 pg bs d ρ (if pp then u1 else u2) = if pp then kIx1 pg bs d ρ u1 else kIx1 pg bs d ρ u2 := by by_cases h : pp <;> simp only [h, if_true, if_false]
theorem z_idxx {a d : E} : evE pg bs (.idxx a d) ρ st = kIx1 pg bs d ρ (evE pg bs a ρ st) := rfl
def kMx2 (mx : Bool) (y0 : D) (r : Res D) : Res D := r.bind fun x st => mxD mx y0 x st
theorem kMx2_o0 {mx : Bool} {y0 : D} {x : D} {st : Sto} : kMx2 mx y0 (.ok x st) = mxD mx y0 x st := rfl
theorem kMx2_o1 {mx : Bool} {y0 : D} {c : Nat} {fs : List (Nat × D)} {st : Sto} : kMx2 mx y0 (.exc c fs st) = .exc c fs st := rfl
theorem kMx2_if {mx : Bool} {y0 : D} {pp : Prop} [Decidable pp] {u1 u2 : Res D} : kMx2 mx y0 (if pp then u1 else u2) = if pp then kMx2 mx y0 u1 else kMx2 mx y0 u2 := by by_cases h : pp <;> simp only [h, if_true, if_false]
def kMx1 (pg : Pg) (bs : Nat) (mx : Bool) (d : E) (ρ : DEnv) (r : Res D) : Res D := r.bind fun x st => kMx2 mx x (evE pg bs d ρ st)
theorem kMx1_o0 {pg : Pg} {bs : Nat} {mx : Bool} {d : E} {ρ : DEnv} {x : D} {st : Sto} : kMx1 pg bs mx d ρ (.ok x st) = kMx2 mx x (evE pg bs d ρ st) := rfl
theorem kMx1_o1 {pg : Pg} {bs : Nat} {mx : Bool} {d : E} {ρ : DEnv} {c : Nat} {fs : List (Nat × D)} {st : Sto} : kMx1 pg bs mx d ρ (.exc c fs st) = .exc c fs st := rfl
theorem kMx1_if {pg : Pg} {bs : Nat} {mx : Bool} {d : E} {ρ : DEnv} {pp : Prop} [Decidable pp] {u1 u2 : Res D} : kMx1 pg bs mx d ρ (if pp then u1 else u2) = if pp then kMx1 pg bs mx d ρ u1 else kMx1 pg bs mx d ρ u2 := by by_cases h : pp <;> simp only [h, if_true, if_false]
theorem z_mxd {mx : Bool} {a d : E} : evE pg bs (.mxd mx a d) ρ st = kMx1 pg bs mx d ρ (evE pg bs a ρ st) := rfl
def kBm2 (bs : Nat) (m : M) (y0 : D) (r : Res (List D)) : Res D := r.bind fun xs st => bmeth m y0 xs st bs
theorem kBm2_o0 {bs : Nat} {m : M} {y0 : D} {xs : List D} {st : Sto} : kBm2 bs m y0 (.ok xs st) = bmeth m y0 xs st bs := rfl
theorem kBm2_o1 {bs : Nat} {m : M} {y0 : D} {c : Nat} {fs : List (Nat × D)} {st : Sto} : kBm2 bs m y0 (.exc c fs st) = .exc c fs st := rfl
theorem kBm2_if {bs : Nat} {m : M} {y0 : D} {pp : Prop} [Decidable pp] {u1 u2 : Res (List D)} : kBm2 bs m y0 (if pp then u1 else u2) = if pp then kBm2 bs m y0 u1 else kBm2 bs m y0 u2 := by by_cases h : pp <;> simp only [h, if_true, if_false]
def kBm1 (pg : Pg) (bs : Nat) (m : M) (as : E) (ρ : DEnv) (r : Res D) : Res D := r.bind fun x st => if bmT m st x = true then kBm2 bs m x (evA pg bs as ρ st) else .stk
theorem kBm1_o0 {pg : Pg} {bs : Nat} {m : M} {as : E} {ρ : DEnv} {x : D} {st : Sto} : kBm1 pg bs m as ρ (.ok x st) = if bmT m st x = true then kBm2 bs m x (evA pg bs as ρ st) else .stk := rfl
theorem kBm1_o1 {pg : Pg} {bs : Nat} {m : M} {as : E} {ρ : DEnv} {c : Nat} {fs : List (Nat × D)} {st : Sto} : kBm1 pg bs m as ρ (.exc c fs st) = .exc c fs st := rfl
theorem kBm1_if {pg : Pg} {bs : Nat} {m : M} {as : E} {ρ : DEnv} {pp : Prop} [Decidable pp] {u1 u2 : Res D} : kBm1 pg bs m as ρ (if pp then u1 else u2) = if pp then kBm1 pg bs m as ρ u1 else kBm1 pg bs m as ρ u2 := by by_cases h : pp <;> simp only [h, if_true, if_false]
theorem z_bm {m : M} {a as : E} : evE pg bs (.bm m a as) ρ st = kBm1 pg bs m as ρ (evE pg bs a ρ st) := rfl
def kIsi (t : TC) (r : Res D) : Res D := r.bind fun x st => match isiD st x t with
    | some b => .ok (.bl b) st
    | none => .stk
theorem kIsi_o0 {t : TC} {x : D} {st : Sto} : kIsi t (.ok x st) = (match isiD st x t with
    | some b => .ok (.bl b) st
    | none => .stk) := rfl
theorem kIsi_o1 {t : TC} {c : Nat} {fs : List (Nat × D)} {st : Sto} : kIsi t (.exc c fs st) = .exc c fs st := rfl
theorem kIsi_if {t : TC} {pp : Prop} [Decidable pp] {u1 u2 : Res D} : kIsi t (if pp then u1 else u2) = if pp then kIsi t u1 else kIsi t u2 := by by_cases h : pp <;> simp only [h, if_true, if_false]
theorem z_isi {a : E} {t : TC} : evE pg bs (.isi a t) ρ st = kIsi t (evE pg bs a ρ st) := rfl
def kA2 (y0 : D) (r : Res (List D)) : Res (List D) := r.bind fun xs st => .ok (y0 :: xs) st
theorem kA2_o0 {y0 : D} {xs : List D} {st : Sto} : kA2 y0 (.ok xs st) = .ok (y0 :: xs) st := rfl
theorem kA2_o1 {y0 : D} {c : Nat} {fs : List (Nat × D)} {st : Sto} : kA2 y0 (.exc c fs st) = .exc c fs st := rfl
theorem kA2_if {y0 : D} {pp : Prop} [Decidable pp] {u1 u2 : Res (List D)} : kA2 y0 (if pp then u1 else u2) = if pp then kA2 y0 u1 else kA2 y0 u2 := by by_cases h : pp <;> simp only [h, if_true, if_false]
def kA1 (pg : Pg) (bs : Nat) (as : E) (ρ : DEnv) (r : Res D) : Res (List D) := r.bind fun x st => kA2 x (evA pg bs as ρ st)
theorem kA1_o0 {pg : Pg} {bs : Nat} {as : E} {ρ : DEnv} {x : D} {st : Sto} : kA1 pg bs as ρ (.ok x st) = kA2 x (evA pg bs as ρ st) := rfl
theorem kA1_o1 {pg : Pg} {bs : Nat} {as : E} {ρ : DEnv} {c : Nat} {fs : List (Nat × D)} {st : Sto} : kA1 pg bs as ρ (.exc c fs st) = .exc c fs st := rfl
theorem kA1_if {pg : Pg} {bs : Nat} {as : E} {ρ : DEnv} {pp : Prop} [Decidable pp] {u1 u2 : Res D} : kA1 pg bs as ρ (if pp then u1 else u2) = if pp then kA1 pg bs as ρ u1 else kA1 pg bs as ρ u2 := by by_cases h : pp <;> simp only [h, if_true, if_false]
theorem z_cons {a as : E} : evA pg bs (.cons a as) ρ st = kA1 pg bs as ρ (evE pg bs a ρ st) := rfl
def kO  (r : Res D) : Res (Option Int) := r.bind fun x st => match x with
    | .int i => .ok (some i) st
    | _ => .stk
theorem kO_o0  {i : Int} {st : Sto} : kO  (.ok (.int i) st) = .ok (some i) st := rfl
theorem kO_o1  {c : Nat} {fs : List (Nat × D)} {st : Sto} : kO  (.exc c fs st) = .exc c fs st := rfl
theorem kO_if  {pp : Prop} [Decidable pp] {u1 u2 : Res D} : kO  (if pp then u1 else u2) = if pp then kO  u1 else kO  u2 := by by_cases h : pp <;> simp only [h, if_true, if_false]
theorem z_o1 {a as : E} : evO pg bs (.cons a as) ρ st = kO (evE pg bs a ρ st) := rfl
def getV (o : Option Sl) (st : Sto) : Res D := match o with
  | some (.v d) => .ok d st
  | _ => .stk
theorem getV_o {d : D} : getV (some (.v d)) st = .ok d st := rfl
theorem z_var {i : Nat} : evE pg bs (.var i) ρ st = getV ρ[i]? st := rfl
def getG (o : Option D) (st : Sto) : Res D := match o with
  | some d => .ok d st
  | none => .stk
theorem getG_o {d : D} : getG (some d) st = .ok d st := rfl
theorem z_gl {k : Nat} : evE pg bs (.gl k) ρ st = getG (pg.gv k) st := rfl
def blO (o : Option Bool) (st : Sto) : Res D := match o with
  | some r => .ok (.bl r) st
  | none => .stk
def isxV (pg : Pg) (t : TC) (o : Option Sl) (st : Sto) : Res D := match o with
  | some (.x c _) => blO (pg.kit c t) st
  | _ => .stk
theorem isxV_o {t : TC} {c : Nat} {fs : List (Nat × D)} : isxV pg t (some (.x c fs)) st = blO (pg.kit c t) st := rfl
theorem blO_o {r : Bool} : blO (some r) st = .ok (.bl r) st := rfl
theorem z_isx {i : Nat} {t : TC} : evE pg bs (.isx i t) ρ st = isxV pg t ρ[i]? st := by
  rw [x_isx]; unfold isxV blO
  cases ρ[i]? with
  | none => rfl
  | some s => cases s <;> rfl
def xfO (o : Option (Option Nat)) (c : Nat) (ρ : DEnv) (st : Sto) : SR := match o with
  | some none => .exc c [] ρ st
  | _ => .stk
theorem w_rais {c : Nat} : evS pg bs (.rais c .nil) ρ st = xfO (pg.xf c) c ρ st := y_rais
theorem xfO_o {c : Nat} : xfO (some none) c ρ st = .exc c [] ρ st := rfl
def kRais (f c : Nat) (ρ : DEnv) (r : Res (List D)) : SR := r.sr ρ fun xs st => match one? xs with
  | some x => .exc c [(f, x)] ρ st
  | none => .stk
def xfA (o : Option (Option Nat)) (pg : Pg) (bs : Nat) (c : Nat) (as : E) (ρ : DEnv) (st : Sto) : SR := match o with
  | some (some f) => kRais f c ρ (evA pg bs as ρ st)
  | _ => .stk
theorem w_raisA {c : Nat} {a as : E} : evS pg bs (.rais c (.cons a as)) ρ st = xfA (pg.xf c) pg bs c (.cons a as) ρ st := by
  show (match pg.xf c with
    | some none => SR.stk
    | some (some f) => kRais f c ρ (evA pg bs (.cons a as) ρ st)
    | none => .stk) = _
  cases pg.xf c with
  | none => rfl
  | some o => cases o <;> rfl
def fxO (o : Option (Option Nat)) (f : Nat) (fs : List (Nat × D)) (st : Sto) : Res D := match (if o = some (some f) then fs.lookup f else none) with
  | some d => .ok d st
  | none => .stk
def fxV (pg : Pg) (f : Nat) (o : Option Sl) (st : Sto) : Res D := match o with
  | some (.x c fs) => fxO (pg.xf c) f fs st
  | _ => .stk
theorem z_fldx {i f : Nat} : evE pg bs (.fldx i f) ρ st = fxV pg f ρ[i]? st := by
  dsimp only [evE]
  unfold fxV fxO
  cases ρ[i]? with
  | none => rfl
  | some s => cases s <;> rfl
theorem kRais_o {f c : Nat} {x : D} : kRais f c ρ (.ok [x] st) = .exc c [(f, x)] ρ st := rfl
theorem kRais_x {f c c2 : Nat} {fs : List (Nat × D)} : kRais f c ρ (.exc c2 fs st) = .exc c2 fs ρ st := rfl
theorem kRais_if {f c : Nat} {pp : Prop} [Decidable pp] {u1 u2 : Res (List D)} : kRais f c ρ (if pp then u1 else u2) = if pp then kRais f c ρ u1 else kRais f c ρ u2 := by by_cases h : pp <;> simp only [h, if_true, if_false]
theorem xfA_o {f c : Nat} {as : E} : xfA (some (some f)) pg bs c as ρ st = kRais f c ρ (evA pg bs as ρ st) := rfl
theorem fxV_o {f c : Nat} {fs : List (Nat × D)} : fxV pg f (some (.x c fs)) st = fxO (pg.xf c) f fs st := rfl
theorem fxO_o {f : Nat} {d : D} {r : List (Nat × D)} : fxO (some (some f)) f ((f, d) :: r) st = .ok d st := by
  unfold fxO
  rw [if_pos rfl, List.lookup_cons, beq_self_eq_true]
def hO (o : Option Bool) (pg : Pg) (bs : Nat) (n : Option Nat) (b more : S) (c : Nat) (fs : List (Nat × D)) (ρ : DEnv) (st : Sto) : SR := match o with
  | some true => (match n with
     | some i => (evS pg bs b (ρ.set i (.x c fs)) st).gone (some i)
     | none => (evS pg bs b ρ st).gone none)
  | some false => evH pg bs more c fs ρ st
  | none => .stk
theorem w_exc {t : TC} {n : Option Nat} {b more : S} {c : Nat} {fs : List (Nat × D)} : evH pg bs (.exc t n b more) c fs ρ st = hO (pg.sub c t) pg bs n b more c fs ρ st := rfl
theorem hO_t {i : Nat} {b more : S} {c : Nat} {fs : List (Nat × D)} : hO (some true) pg bs (some i) b more c fs ρ st = (evS pg bs b (ρ.set i (.x c fs)) st).gone (some i) := rfl
theorem hO_n {b more : S} {c : Nat} {fs : List (Nat × D)} : hO (some true) pg bs none b more c fs ρ st = (evS pg bs b ρ st).gone none := rfl
theorem hO_f {n : Option Nat} {b more : S} {c : Nat} {fs : List (Nat × D)} : hO (some false) pg bs n b more c fs ρ st = evH pg bs more c fs ρ st := rfl
def hR (o : Option Bool) (q : Bool) (pg : Pg) (bs : Nat) (b more : S) (c : Nat) (fs : List (Nat × D)) (ρ : DEnv) (st : Sto) : SR := match o, q with
  | some true, true => (evS pg bs b ρ st).goneR
  | some true, false => .stk
  | some false, _ => evH pg bs more c fs ρ st
  | none, _ => .stk
theorem w_excR {t : TC} {b more : S} {c : Nat} {fs : List (Nat × D)} : evH pg bs (.excR t b more) c fs ρ st = hR (pg.sub c t) (pg.cln c) pg bs b more c fs ρ st := by
  show (match pg.sub c t with
    | some true => if pg.cln c = true then (evS pg bs b ρ st).goneR else .stk
    | some false => evH pg bs more c fs ρ st
    | none => .stk) = _
  cases pg.sub c t with
  | none => rfl
  | some r =>
    cases r with
    | false => rfl
    | true => cases pg.cln c <;> rfl
theorem hR_t {b more : S} {c : Nat} {fs : List (Nat × D)} : hR (some true) true pg bs b more c fs ρ st = (evS pg bs b ρ st).goneR := rfl
theorem hR_f {b more : S} {c : Nat} {q : Bool} {fs : List (Nat × D)} : hR (some false) q pg bs b more c fs ρ st = evH pg bs more c fs ρ st := by cases q <;> rfl
theorem gR_x {c : Nat} {fs : List (Nat × D)} : (SR.exc c fs ρ st).goneR = .exc c fs (goneD ρ none) st := rfl
theorem gR_nx : (SR.nx ρ st).goneR = .nx (goneD ρ none) st := rfl
theorem gR_rt {d : D} : (SR.rt d st).goneR = .rt d st := rfl
theorem gR_bk : (SR.bk ρ st).goneR = .bk (goneD ρ none) st := rfl
theorem gR_ct : (SR.ct ρ st).goneR = .ct (goneD ρ none) st := rfl
theorem gR_if {p : Prop} [Decidable p] {a b : SR} : (if p then a else b).goneR = if p then a.goneR else b.goneR := by by_cases h : p <;> simp only [h, if_true, if_false]
theorem gone_x {c : Nat} {fs : List (Nat × D)} {n : Option Nat} : (SR.exc c fs ρ st).gone n = .stk := rfl
theorem goneD_s {i : Nat} : goneD ρ (some i) = (ρ.map fun o => match o with
    | .x _ _ => Sl.no
    | o => o).set i .no := rfl
theorem gn_nil : goneD [] none = [] := rfl
theorem gn_v {d : D} {r : DEnv} : goneD (.v d :: r) none = .v d :: goneD r none := rfl
theorem gn_n {r : DEnv} : goneD (.no :: r) none = .no :: goneD r none := rfl
theorem gn_x {c : Nat} {fs : List (Nat × D)} {r : DEnv} : goneD (.x c fs :: r) none = .no :: goneD r none := rfl
theorem gn_s {i : Nat} : goneD ρ (some i) = (goneD ρ none).set i .no := rfl
theorem c_eqT {a b : Str} (h1 : SeqAt.shaped (.str a) = true) (h2 : SeqAt.shaped (.str b) = true) : opC .eq (.str a) (.str b) st = .ok (.bl (a == b)) st := c_eqS (by rw [h1, h2]; rfl)
theorem c_neT {a b : Str} (h1 : SeqAt.shaped (.str a) = true) (h2 : SeqAt.shaped (.str b) = true) : opC .ne (.str a) (.str b) st = .ok (.bl (!(a == b))) st := by
  have e : cmpD .ne st (.str a) (.str b) = (if SeqAt.shaped (.str a) && SeqAt.shaped (.str b) then some (PyData.eqv (.str a) (.str b)) else none).map fun e => !e := rfl
  unfold opC
  rw [e, h1, h2]
  rfl
def kLc (pg : Pg) (bs : Nat) (m : Bool) (own : List Nat) (tg : T) (k : IK) (cnd : E) (elt : E) (ρ : DEnv) (r : Res (List D)) : Res D := r.bind fun xs st => (match evIt k xs st with
    | none => .stk
    | some (ys, lk) => if ys.length ≤ LIM then (lcD (lcB pg bs tg own cnd elt ρ) ys [] (lkSt st lk)).bind (lcF m lk) else .stk)
theorem kLc_o0 {pg : Pg} {bs : Nat} {m : Bool} {own : List Nat} {tg : T} {k : IK} {cnd : E} {elt : E} {ρ : DEnv} {xs : List D} {st : Sto} : kLc pg bs m own tg k cnd elt ρ (.ok xs st) = (match evIt k xs st with
    | none => .stk
    | some (ys, lk) => if ys.length ≤ LIM then (lcD (lcB pg bs tg own cnd elt ρ) ys [] (lkSt st lk)).bind (lcF m lk) else .stk) := rfl
theorem kLc_o1 {pg : Pg} {bs : Nat} {m : Bool} {own : List Nat} {tg : T} {k : IK} {cnd : E} {elt : E} {ρ : DEnv} {c : Nat} {fs : List (Nat × D)} {st : Sto} : kLc pg bs m own tg k cnd elt ρ (.exc c fs st) = .exc c fs st := rfl
theorem kLc_if {pg : Pg} {bs : Nat} {m : Bool} {own : List Nat} {tg : T} {k : IK} {cnd : E} {elt : E} {ρ : DEnv} {pp : Prop} [Decidable pp] {u1 u2 : Res (List D)} : kLc pg bs m own tg k cnd elt ρ (if pp then u1 else u2) = if pp then kLc pg bs m own tg k cnd elt ρ u1 else kLc pg bs m own tg k cnd elt ρ u2 := by by_cases h : pp <;> simp only [h, if_true, if_false]
theorem z_lc {m : Bool} {own : List Nat} {tg : T} {k : IK} {as cnd elt : E} : evE pg bs (.lc m own tg k as cnd elt) ρ st = kLc pg bs m own tg k cnd elt ρ (evA pg bs as ρ st) := x_lc
def kLcE (acc : List D) (body : D → Sto → Res (Option D)) (xs : List D) (r : Res (Option D)) : Res (List D) := match r with
  | .ok (some y) st => lcD body xs (acc ++ [y]) st
  | .ok none st => lcD body xs acc st
  | _ => .stk
theorem kLcE_s {acc : List D} {body : D → Sto → Res (Option D)} {xs : List D} {y : D} : kLcE acc body xs (.ok (some y) st) = lcD body xs (acc ++ [y]) st := rfl
theorem kLcE_n {acc : List D} {body : D → Sto → Res (Option D)} {xs : List D} : kLcE acc body xs (.ok none st) = lcD body xs acc st := rfl
theorem kLcE_if {acc : List D} {body : D → Sto → Res (Option D)} {xs : List D} {p : Prop} [Decidable p] {a b : Res (Option D)} : kLcE acc body xs (if p then a else b) = if p then kLcE acc body xs a else kLcE acc body xs b := by by_cases h : p <;> simp only [h, if_true, if_false]
theorem z_lcc {body : D → Sto → Res (Option D)} {x : D} {xs acc : List D} : lcD body (x :: xs) acc st = kLcE acc body xs (body x st) := rfl
def kLcS (r : Res D) : Res (Option D) := r.bind fun y st => .ok (some y) st
theorem kLcS_o {y : D} : kLcS (.ok y st) = .ok (some y) st := rfl
def kLcT (pg : Pg) (bs : Nat) (elt : E) (ρ : DEnv) (r : Res D) : Res (Option D) := r.bind fun x st => match x with
    | .bl true => kLcS (evE pg bs elt ρ st)
    | .bl false => .ok none st
    | _ => .stk
theorem kLcT_b {pg : Pg} {bs : Nat} {elt : E} {ρ : DEnv} {q : Bool} {st : Sto} : kLcT pg bs elt ρ (.ok (.bl q) st) = if q = true then kLcS (evE pg bs elt ρ st) else .ok none st := by cases q <;> rfl
theorem kLcT_x {pg : Pg} {bs : Nat} {elt : E} {ρ : DEnv} {c : Nat} {fs : List (Nat × D)} {st : Sto} : kLcT pg bs elt ρ (.exc c fs st) = .exc c fs st := rfl
theorem kLcT_if {pg : Pg} {bs : Nat} {elt : E} {ρ : DEnv} {pp : Prop} [Decidable pp] {u1 u2 : Res D} : kLcT pg bs elt ρ (if pp then u1 else u2) = if pp then kLcT pg bs elt ρ u1 else kLcT pg bs elt ρ u2 := by by_cases h : pp <;> simp only [h, if_true, if_false]
theorem z_lcB {tg : T} {own : List Nat} {cnd elt : E} {x : D} : lcB pg bs tg own cnd elt ρ x st = match asgT tg x (wipeD ρ own) st with
    | none => .stk
    | some ρ' => kLcT pg bs elt ρ' (evE pg bs cnd ρ' st) := rfl
def kSeq (pg : Pg) (bs : Nat) (b : S) (r : SR) : SR := r.seq fun ρ st => evS pg bs b ρ st
theorem kSeq_o0 {pg : Pg} {bs : Nat} {b : S} {ρ : DEnv} {st : Sto} : kSeq pg bs b (.nx ρ st) = evS pg bs b ρ st := rfl
theorem kSeq_o1 {pg : Pg} {bs : Nat} {b : S} {d : D} {st : Sto} : kSeq pg bs b (.rt d st) = .rt d st := rfl
theorem kSeq_o2 {pg : Pg} {bs : Nat} {b : S} {ρ : DEnv} {st : Sto} : kSeq pg bs b (.bk ρ st) = .bk ρ st := rfl
theorem kSeq_o3 {pg : Pg} {bs : Nat} {b : S} {ρ : DEnv} {st : Sto} : kSeq pg bs b (.ct ρ st) = .ct ρ st := rfl
theorem kSeq_o4 {pg : Pg} {bs : Nat} {b : S} {c : Nat} {fs : List (Nat × D)} {ρ : DEnv} {st : Sto} : kSeq pg bs b (.exc c fs ρ st) = .exc c fs ρ st := rfl
theorem kSeq_if {pg : Pg} {bs : Nat} {b : S} {pp : Prop} [Decidable pp] {u1 u2 : SR} : kSeq pg bs b (if pp then u1 else u2) = if pp then kSeq pg bs b u1 else kSeq pg bs b u2 := by by_cases h : pp <;> simp only [h, if_true, if_false]
theorem w_seq {a b : S} : evS pg bs (.seq a b) ρ st = kSeq pg bs b (evS pg bs a ρ st) := rfl
def kExpr (ρ : DEnv) (r : Res D) : SR := r.sr ρ fun _ st => .nx ρ st
theorem kExpr_o0 {ρ : DEnv} {x : D} {st : Sto} : kExpr ρ (.ok x st) = .nx ρ st := rfl
theorem kExpr_o1 {ρ : DEnv} {c : Nat} {fs : List (Nat × D)} {st : Sto} : kExpr ρ (.exc c fs st) = .exc c fs ρ st := rfl
theorem kExpr_if {ρ : DEnv} {pp : Prop} [Decidable pp] {u1 u2 : Res D} : kExpr ρ (if pp then u1 else u2) = if pp then kExpr ρ u1 else kExpr ρ u2 := by by_cases h : pp <;> simp only [h, if_true, if_false]
theorem w_expr {e : E} : evS pg bs (.expr e) ρ st = kExpr ρ (evE pg bs e ρ st) := rfl
def nxO (o : Option DEnv) (st : Sto) : SR := match o with
  | some ρ => .nx ρ st
  | none => .stk
theorem nxO_o : nxO (some ρ) st = .nx ρ st := rfl
def kAsg (t : T) (ρ : DEnv) (r : Res D) : SR := r.sr ρ fun d st => nxO (asgT t d ρ st) st
theorem kAsg_o0 {t : T} {ρ : DEnv} {x : D} {st : Sto} : kAsg t ρ (.ok x st) = nxO (asgT t x ρ st) st := rfl
theorem kAsg_o1 {t : T} {ρ : DEnv} {c : Nat} {fs : List (Nat × D)} {st : Sto} : kAsg t ρ (.exc c fs st) = .exc c fs ρ st := rfl
theorem kAsg_if {t : T} {ρ : DEnv} {pp : Prop} [Decidable pp] {u1 u2 : Res D} : kAsg t ρ (if pp then u1 else u2) = if pp then kAsg t ρ u1 else kAsg t ρ u2 := by by_cases h : pp <;> simp only [h, if_true, if_false]
theorem w_asg {t : T} {e : E} : evS pg bs (.asg t e) ρ st = kAsg t ρ (evE pg bs e ρ st) := by
  rw [y_asg]; unfold kAsg; congr
def stO (o : Option Sto) (ρ : DEnv) : SR := match o with
  | some st => .nx ρ st
  | none => .stk
theorem stO_o : stO (some st) ρ = .nx ρ st := rfl
def kSetf2 (pg : Pg) (bs : Nat) (f : Nat) (y0 : D) (ρ : DEnv) (r : Res D) : SR := r.sr ρ fun o st => stO (setfD pg st bs o f y0) ρ
theorem kSetf2_o0 {pg : Pg} {bs : Nat} {f : Nat} {y0 : D} {ρ : DEnv} {x : D} {st : Sto} : kSetf2 pg bs f y0 ρ (.ok x st) = stO (setfD pg st bs x f y0) ρ := rfl
theorem kSetf2_o1 {pg : Pg} {bs : Nat} {f : Nat} {y0 : D} {ρ : DEnv} {c : Nat} {fs : List (Nat × D)} {st : Sto} : kSetf2 pg bs f y0 ρ (.exc c fs st) = .exc c fs ρ st := rfl
theorem kSetf2_if {pg : Pg} {bs : Nat} {f : Nat} {y0 : D} {ρ : DEnv} {pp : Prop} [Decidable pp] {u1 u2 : Res D} : kSetf2 pg bs f y0 ρ (if pp then u1 else u2) = if pp then kSetf2 pg bs f y0 ρ u1 else kSetf2 pg bs f y0 ρ u2 := by by_cases h : pp <;> simp only [h, if_true, if_false]
def kSetf1 (pg : Pg) (bs : Nat) (a : E) (f : Nat) (ρ : DEnv) (r : Res D) : SR := r.sr ρ fun v st => kSetf2 pg bs f v ρ (evE pg bs a ρ st)
theorem kSetf1_o0 {pg : Pg} {bs : Nat} {a : E} {f : Nat} {ρ : DEnv} {x : D} {st : Sto} : kSetf1 pg bs a f ρ (.ok x st) = kSetf2 pg bs f x ρ (evE pg bs a ρ st) := rfl
theorem kSetf1_o1 {pg : Pg} {bs : Nat} {a : E} {f : Nat} {ρ : DEnv} {c : Nat} {fs : List (Nat × D)} {st : Sto} : kSetf1 pg bs a f ρ (.exc c fs st) = .exc c fs ρ st := rfl
theorem kSetf1_if {pg : Pg} {bs : Nat} {a : E} {f : Nat} {ρ : DEnv} {pp : Prop} [Decidable pp] {u1 u2 : Res D} : kSetf1 pg bs a f ρ (if pp then u1 else u2) = if pp then kSetf1 pg bs a f ρ u1 else kSetf1 pg bs a f ρ u2 := by by_cases h : pp <;> simp only [h, if_true, if_false]
theorem w_setf {a e : E} {f : Nat} : evS pg bs (.setf a f e) ρ st = kSetf1 pg bs a f ρ (evE pg bs e ρ st) := by
  rw [y_setf]; unfold kSetf1 kSetf2; congr
def kSeti3 (bs : Nat) (y0 : D) (y1 : D) (ρ : DEnv) (r : Res D) : SR := r.sr ρ fun k st => stO (setiD st bs y1 k y0) ρ
theorem kSeti3_o0 {bs : Nat} {y0 : D} {y1 : D} {ρ : DEnv} {x : D} {st : Sto} : kSeti3 bs y0 y1 ρ (.ok x st) = stO (setiD st bs y1 x y0) ρ := rfl
theorem kSeti3_o1 {bs : Nat} {y0 : D} {y1 : D} {ρ : DEnv} {c : Nat} {fs : List (Nat × D)} {st : Sto} : kSeti3 bs y0 y1 ρ (.exc c fs st) = .exc c fs ρ st := rfl
theorem kSeti3_if {bs : Nat} {y0 : D} {y1 : D} {ρ : DEnv} {pp : Prop} [Decidable pp] {u1 u2 : Res D} : kSeti3 bs y0 y1 ρ (if pp then u1 else u2) = if pp then kSeti3 bs y0 y1 ρ u1 else kSeti3 bs y0 y1 ρ u2 := by by_cases h : pp <;> simp only [h, if_true, if_false]
def kSeti2 (pg : Pg) (bs : Nat) (i : E) (y0 : D) (ρ : DEnv) (r : Res D) : SR := r.sr ρ fun o st => kSeti3 bs y0 o ρ (evE pg bs i ρ st)
theorem kSeti2_o0 {pg : Pg} {bs : Nat} {i : E} {y0 : D} {ρ : DEnv} {x : D} {st : Sto} : kSeti2 pg bs i y0 ρ (.ok x st) = kSeti3 bs y0 x ρ (evE pg bs i ρ st) := rfl
theorem kSeti2_o1 {pg : Pg} {bs : Nat} {i : E} {y0 : D} {ρ : DEnv} {c : Nat} {fs : List (Nat × D)} {st : Sto} : kSeti2 pg bs i y0 ρ (.exc c fs st) = .exc c fs ρ st := rfl
theorem kSeti2_if {pg : Pg} {bs : Nat} {i : E} {y0 : D} {ρ : DEnv} {pp : Prop} [Decidable pp] {u1 u2 : Res D} : kSeti2 pg bs i y0 ρ (if pp then u1 else u2) = if pp then kSeti2 pg bs i y0 ρ u1 else kSeti2 pg bs i y0 ρ u2 := by by_cases h : pp <;> simp only [h, if_true, if_false]
def kSeti1 (pg : Pg) (bs : Nat) (a : E) (i : E) (ρ : DEnv) (r : Res D) : SR := r.sr ρ fun v st => kSeti2 pg bs i v ρ (evE pg bs a ρ st)
theorem kSeti1_o0 {pg : Pg} {bs : Nat} {a : E} {i : E} {ρ : DEnv} {x : D} {st : Sto} : kSeti1 pg bs a i ρ (.ok x st) = kSeti2 pg bs i x ρ (evE pg bs a ρ st) := rfl
theorem kSeti1_o1 {pg : Pg} {bs : Nat} {a : E} {i : E} {ρ : DEnv} {c : Nat} {fs : List (Nat × D)} {st : Sto} : kSeti1 pg bs a i ρ (.exc c fs st) = .exc c fs ρ st := rfl
theorem kSeti1_if {pg : Pg} {bs : Nat} {a : E} {i : E} {ρ : DEnv} {pp : Prop} [Decidable pp] {u1 u2 : Res D} : kSeti1 pg bs a i ρ (if pp then u1 else u2) = if pp then kSeti1 pg bs a i ρ u1 else kSeti1 pg bs a i ρ u2 := by by_cases h : pp <;> simp only [h, if_true, if_false]
theorem w_seti {a i e : E} : evS pg bs (.seti a i e) ρ st = kSeti1 pg bs a i ρ (evE pg bs e ρ st) := by
  rw [y_seti]; unfold kSeti1 kSeti2 kSeti3; congr
def agF (o : B) (u v x k : D) (ρ : DEnv) (st : Sto) (bs : Nat) : SR := match o, u, v with
  | .add, .int m, .int n => stO (setiD st bs x k (.int (m + n))) ρ
  | _, _, _ => .stk
theorem agF_o {m n : Int} {x k : D} : agF .add (.int m) (.int n) x k ρ st bs = stO (setiD st bs x k (.int (m + n))) ρ := rfl
def kAgi4 (bs : Nat) (o : B) (u0 : D) (y0 : D) (y1 : D) (ρ : DEnv) (r : Res D) : SR := r.sr ρ fun v st => agF o u0 v y0 y1 ρ st bs
theorem kAgi4_o0 {bs : Nat} {o : B} {u0 : D} {y0 : D} {y1 : D} {ρ : DEnv} {x : D} {st : Sto} : kAgi4 bs o u0 y0 y1 ρ (.ok x st) = agF o u0 x y0 y1 ρ st bs := rfl
theorem kAgi4_o1 {bs : Nat} {o : B} {u0 : D} {y0 : D} {y1 : D} {ρ : DEnv} {c : Nat} {fs : List (Nat × D)} {st : Sto} : kAgi4 bs o u0 y0 y1 ρ (.exc c fs st) = .exc c fs ρ st := rfl
theorem kAgi4_if {bs : Nat} {o : B} {u0 : D} {y0 : D} {y1 : D} {ρ : DEnv} {pp : Prop} [Decidable pp] {u1 u2 : Res D} : kAgi4 bs o u0 y0 y1 ρ (if pp then u1 else u2) = if pp then kAgi4 bs o u0 y0 y1 ρ u1 else kAgi4 bs o u0 y0 y1 ρ u2 := by by_cases h : pp <;> simp only [h, if_true, if_false]
def kAgi3 (pg : Pg) (bs : Nat) (o : B) (e : E) (y0 : D) (y1 : D) (ρ : DEnv) (r : Res D) : SR := r.sr ρ fun u st => kAgi4 bs o u y0 y1 ρ (evE pg bs e ρ st)
theorem kAgi3_o0 {pg : Pg} {bs : Nat} {o : B} {e : E} {y0 : D} {y1 : D} {ρ : DEnv} {x : D} {st : Sto} : kAgi3 pg bs o e y0 y1 ρ (.ok x st) = kAgi4 bs o x y0 y1 ρ (evE pg bs e ρ st) := rfl
theorem kAgi3_o1 {pg : Pg} {bs : Nat} {o : B} {e : E} {y0 : D} {y1 : D} {ρ : DEnv} {c : Nat} {fs : List (Nat × D)} {st : Sto} : kAgi3 pg bs o e y0 y1 ρ (.exc c fs st) = .exc c fs ρ st := rfl
theorem kAgi3_if {pg : Pg} {bs : Nat} {o : B} {e : E} {y0 : D} {y1 : D} {ρ : DEnv} {pp : Prop} [Decidable pp] {u1 u2 : Res D} : kAgi3 pg bs o e y0 y1 ρ (if pp then u1 else u2) = if pp then kAgi3 pg bs o e y0 y1 ρ u1 else kAgi3 pg bs o e y0 y1 ρ u2 := by by_cases h : pp <;> simp only [h, if_true, if_false]
def kAgi2 (pg : Pg) (bs : Nat) (o : B) (e : E) (y0 : D) (ρ : DEnv) (r : Res D) : SR := r.sr ρ fun k st => kAgi3 pg bs o e y0 k ρ (idxL y0 k st)
theorem kAgi2_o0 {pg : Pg} {bs : Nat} {o : B} {e : E} {y0 : D} {ρ : DEnv} {x : D} {st : Sto} : kAgi2 pg bs o e y0 ρ (.ok x st) = kAgi3 pg bs o e y0 x ρ (idxL y0 x st) := rfl
theorem kAgi2_o1 {pg : Pg} {bs : Nat} {o : B} {e : E} {y0 : D} {ρ : DEnv} {c : Nat} {fs : List (Nat × D)} {st : Sto} : kAgi2 pg bs o e y0 ρ (.exc c fs st) = .exc c fs ρ st := rfl
theorem kAgi2_if {pg : Pg} {bs : Nat} {o : B} {e : E} {y0 : D} {ρ : DEnv} {pp : Prop} [Decidable pp] {u1 u2 : Res D} : kAgi2 pg bs o e y0 ρ (if pp then u1 else u2) = if pp then kAgi2 pg bs o e y0 ρ u1 else kAgi2 pg bs o e y0 ρ u2 := by by_cases h : pp <;> simp only [h, if_true, if_false]
def kAgi1 (pg : Pg) (bs : Nat) (i : E) (o : B) (e : E) (ρ : DEnv) (r : Res D) : SR := r.sr ρ fun x st => kAgi2 pg bs o e x ρ (evE pg bs i ρ st)
theorem kAgi1_o0 {pg : Pg} {bs : Nat} {i : E} {o : B} {e : E} {ρ : DEnv} {x : D} {st : Sto} : kAgi1 pg bs i o e ρ (.ok x st) = kAgi2 pg bs o e x ρ (evE pg bs i ρ st) := rfl
theorem kAgi1_o1 {pg : Pg} {bs : Nat} {i : E} {o : B} {e : E} {ρ : DEnv} {c : Nat} {fs : List (Nat × D)} {st : Sto} : kAgi1 pg bs i o e ρ (.exc c fs st) = .exc c fs ρ st := rfl
theorem kAgi1_if {pg : Pg} {bs : Nat} {i : E} {o : B} {e : E} {ρ : DEnv} {pp : Prop} [Decidable pp] {u1 u2 : Res D} : kAgi1 pg bs i o e ρ (if pp then u1 else u2) = if pp then kAgi1 pg bs i o e ρ u1 else kAgi1 pg bs i o e ρ u2 := by by_cases h : pp <;> simp only [h, if_true, if_false]
theorem y_augi {a i e : E} {o : B} : evS pg bs (.augi a i o e) ρ st = (evE pg bs a ρ st).sr ρ fun x st => (evE pg bs i ρ st).sr ρ fun k st => (idxL x k st).sr ρ fun u st => (evE pg bs e ρ st).sr ρ fun v st =>
    match o, u, v with
    | .add, .int m, .int n => match setiD st bs x k (.int (m + n)) with
      | some st => .nx ρ st
      | none => .stk
    | _, _, _ => .stk := rfl
theorem w_augi {a i e : E} {o : B} : evS pg bs (.augi a i o e) ρ st = kAgi1 pg bs i o e ρ (evE pg bs a ρ st) := by
  rw [y_augi]; unfold kAgi1 kAgi2 kAgi3 kAgi4 agF stO; congr
theorem ixL_loc {i : Nat} {k : D} : idxL (.loc i) k st = idxD (.loc i) k st := rfl
def augP (o : B) (x d : D) (i : Nat) (ρ : DEnv) (st : Sto) : SR := match o, x, d with
  | .add, .int x, .int y => .nx (ρ.set i (.v (.int (x + y)))) st
  | _, _, _ => .stk
theorem augP_o {x y : Int} {i : Nat} : augP .add (.int x) (.int y) i ρ st = .nx (ρ.set i (.v (.int (x + y)))) st := rfl
def kAug (o : B) (y0 : D) (i : Nat) (ρ : DEnv) (r : Res D) : SR := r.sr ρ fun d st => augP o y0 d i ρ st
theorem kAug_o0 {o : B} {y0 : D} {i : Nat} {ρ : DEnv} {x : D} {st : Sto} : kAug o y0 i ρ (.ok x st) = augP o y0 x i ρ st := rfl
theorem kAug_o1 {o : B} {y0 : D} {i : Nat} {ρ : DEnv} {c : Nat} {fs : List (Nat × D)} {st : Sto} : kAug o y0 i ρ (.exc c fs st) = .exc c fs ρ st := rfl
theorem kAug_if {o : B} {y0 : D} {i : Nat} {ρ : DEnv} {pp : Prop} [Decidable pp] {u1 u2 : Res D} : kAug o y0 i ρ (if pp then u1 else u2) = if pp then kAug o y0 i ρ u1 else kAug o y0 i ρ u2 := by by_cases h : pp <;> simp only [h, if_true, if_false]
def augV (v : Option Sl) (pg : Pg) (bs : Nat) (i : Nat) (o : B) (e : E) (ρ : DEnv) (st : Sto) : SR := match v with
  | some (.v (.int x)) => kAug o (.int x) i ρ (evE pg bs e ρ st)
  | _ => .stk
theorem augV_o {x : Int} {i : Nat} {o : B} {e : E} : augV (some (.v (.int x))) pg bs i o e ρ st = kAug o (.int x) i ρ (evE pg bs e ρ st) := rfl
theorem w_aug {i : Nat} {o : B} {e : E} : evS pg bs (.aug i o e) ρ st = augV ρ[i]? pg bs i o e ρ st := by
  rw [y_aug]
  unfold augV
  cases ρ[i]? with
  | none => rfl
  | some s =>
    cases s with
    | no => rfl
    | x _ _ => rfl
    | v d =>
      cases d <;> try rfl
      unfold kAug
      dsimp only
      congr
      funext d st
      cases o <;> cases d <;> rfl
def kRet (ρ : DEnv) (r : Res D) : SR := r.sr ρ fun d st => .rt d st
theorem kRet_o0 {ρ : DEnv} {x : D} {st : Sto} : kRet ρ (.ok x st) = .rt x st := rfl
theorem kRet_o1 {ρ : DEnv} {c : Nat} {fs : List (Nat × D)} {st : Sto} : kRet ρ (.exc c fs st) = .exc c fs ρ st := rfl
theorem kRet_if {ρ : DEnv} {pp : Prop} [Decidable pp] {u1 u2 : Res D} : kRet ρ (if pp then u1 else u2) = if pp then kRet ρ u1 else kRet ρ u2 := by by_cases h : pp <;> simp only [h, if_true, if_false]
theorem w_ret {e : E} : evS pg bs (.ret e) ρ st = kRet ρ (evE pg bs e ρ st) := rfl
def kIfS (pg : Pg) (bs : Nat) (a b : S) (ρ : DEnv) (r : Res D) : SR := r.sr ρ fun x st => match x with
    | .bl true => evS pg bs a ρ st
    | .bl false => evS pg bs b ρ st
    | _ => .stk
theorem kIfS_b {a b : S} {p : Bool} : kIfS pg bs a b ρ (.ok (.bl p) st) = if p = true then evS pg bs a ρ st else evS pg bs b ρ st := by cases p <;> rfl
theorem kIfS_x {a b : S} {c : Nat} {fs : List (Nat × D)} : kIfS pg bs a b ρ (.exc c fs st) = .exc c fs ρ st := rfl
theorem kIfS_if {a b : S} {p : Prop} [Decidable p] {r s : Res D} : kIfS pg bs a b ρ (if p then r else s) = if p then kIfS pg bs a b ρ r else kIfS pg bs a b ρ s := by by_cases h : p <;> simp only [h, if_true, if_false]
theorem w_ife {c : E} {a b : S} : evS pg bs (.ife c a b) ρ st = kIfS pg bs a b ρ (evE pg bs c ρ st) := rfl
def kFor (pg : Pg) (bs : Nat) (t : T) (k : IK) (b : S) (ρ : DEnv) (r : Res (List D)) : SR := r.sr ρ fun xs st => (match evIt k xs st with
    | some (ys, lk) => (forD (forB pg bs t b) ys ρ (lkSt st lk)).un lk
    | none => .stk)
theorem kFor_o0 {pg : Pg} {bs : Nat} {t : T} {k : IK} {b : S} {ρ : DEnv} {xs : List D} {st : Sto} : kFor pg bs t k b ρ (.ok xs st) = (match evIt k xs st with
    | some (ys, lk) => (forD (forB pg bs t b) ys ρ (lkSt st lk)).un lk
    | none => .stk) := rfl
theorem kFor_o1 {pg : Pg} {bs : Nat} {t : T} {k : IK} {b : S} {ρ : DEnv} {c : Nat} {fs : List (Nat × D)} {st : Sto} : kFor pg bs t k b ρ (.exc c fs st) = .exc c fs ρ st := rfl
theorem kFor_if {pg : Pg} {bs : Nat} {t : T} {k : IK} {b : S} {ρ : DEnv} {pp : Prop} [Decidable pp] {u1 u2 : Res (List D)} : kFor pg bs t k b ρ (if pp then u1 else u2) = if pp then kFor pg bs t k b ρ u1 else kFor pg bs t k b ρ u2 := by by_cases h : pp <;> simp only [h, if_true, if_false]
theorem w_for {t : T} {k : IK} {as : E} {b : S} : evS pg bs (.for t k as b) ρ st = kFor pg bs t k b ρ (evA pg bs as ρ st) := rfl
def kFork (body : D → DEnv → Sto → SR) (xs : List D) (r : SR) : SR := match r with
  | .nx ρ st => forD body xs ρ st
  | .ct ρ st => forD body xs ρ st
  | .bk ρ st => .nx ρ st
  | r => r
theorem kFork_0 {body : D → DEnv → Sto → SR} {xs : List D} : kFork body xs (.nx ρ st) = forD body xs ρ st := rfl
theorem kFork_1 {body : D → DEnv → Sto → SR} {xs : List D} : kFork body xs (.ct ρ st) = forD body xs ρ st := rfl
theorem kFork_2 {body : D → DEnv → Sto → SR} {xs : List D} : kFork body xs (.bk ρ st) = .nx ρ st := rfl
theorem kFork_3 {body : D → DEnv → Sto → SR} {xs : List D} {d : D} : kFork body xs (.rt d st) = .rt d st := rfl
theorem kFork_4 {body : D → DEnv → Sto → SR} {xs : List D} {c : Nat} {fs : List (Nat × D)} : kFork body xs (.exc c fs ρ st) = .exc c fs ρ st := rfl
theorem kFork_if {body : D → DEnv → Sto → SR} {xs : List D} {p : Prop} [Decidable p] {a b : SR} : kFork body xs (if p then a else b) = if p then kFork body xs a else kFork body xs b := by by_cases h : p <;> simp only [h, if_true, if_false]
theorem w_forc {body : D → DEnv → Sto → SR} {x : D} {xs : List D} : forD body (x :: xs) ρ st = kFork body xs (body x ρ st) := rfl
theorem w_forB {t : T} {s : S} {x : D} : forB pg bs t s x ρ st = match asgT t x ρ st with
    | some ρ => evS pg bs s ρ st
    | none => .stk := rfl
theorem un_if {p : Prop} [Decidable p] {a b : SR} {l : Lk} : (if p then a else b).un l = if p then a.un l else b.un l := by by_cases h : p <;> simp only [h, if_true, if_false]
theorem gone_if {p : Prop} [Decidable p] {a b : SR} {n : Option Nat} : (if p then a else b).gone n = if p then a.gone n else b.gone n := by by_cases h : p <;> simp only [h, if_true, if_false]
theorem tryE_if {p : Prop} [Decidable p] {a b : SR} {h : Nat → List (Nat × D) → DEnv → Sto → SR} {e : DEnv → Sto → SR} : tryE (if p then a else b) h e = if p then tryE a h e else tryE b h e := by by_cases h : p <;> simp only [h, if_true, if_false]
def endF (r : SR) : Res D := match r with
  | .nx _ st => .ok .non st
  | .rt d st => .ok d st
  | .exc c fs _ st => .exc c fs st
  | _ => .stk
theorem endF_n : endF (.nx ρ st) = .ok .non st := rfl
theorem endF_r {d : D} : endF (.rt d st) = .ok d st := rfl
theorem endF_x {c : Nat} {fs : List (Nat × D)} : endF (.exc c fs ρ st) = .exc c fs st := rfl
theorem endF_if {p : Prop} [Decidable p] {a b : SR} : endF (if p then a else b) = if p then endF a else endF b := by by_cases h : p <;> simp only [h, if_true, if_false]
theorem w_run {f : Fn} {as : List D} : runF pg f as st bs = if as.length = f.np then endF (evS pg bs f.body (as.map Sl.v ++ List.replicate (f.nn - f.np) .no) st) else .stk := by
  unfold runF endF
  by_cases h : as.length = f.np
  · simp only [if_pos h]
    all_goals (cases evS pg bs f.body (as.map Sl.v ++ List.replicate (f.nn - f.np) .no) st <;> rfl)
  · simp only [if_neg h]
theorem seal_if {n : Nat} {p : Prop} [Decidable p] {a b : Res D} : sealP n (if p then a else b) = if p then sealP n a else sealP n b := by by_cases h : p <;> simp only [h, if_true, if_false]
end
end Den
set_option maxHeartbeats 4000000
/-! DLp: loops by their turns. -/
namespace Den
open PySem L2
theorem ix5 {a b c d e f : D} {r : List D} : ixD (a :: b :: c :: d :: e :: f :: r) 5 = some f := rfl
theorem ix6 {a b c d e f g : D} {r : List D} : ixD (a :: b :: c :: d :: e :: f :: g :: r) 6 = some g := rfl
theorem ix7 {a b c d e f g h : D} {r : List D} : ixD (a :: b :: c :: d :: e :: f :: g :: h :: r) 7 = some h := rfl
theorem ix8 {a b c d e f g h i : D} {r : List D} : ixD (a :: b :: c :: d :: e :: f :: g :: h :: i :: r) 8 = some i := rfl
theorem ix9 {a b c d e f g h i j : D} {r : List D} : ixD (a :: b :: c :: d :: e :: f :: g :: h :: i :: j :: r) 9 = some j := rfl
theorem ix10 {a b c d e f g h i j k : D} {r : List D} : ixD (a :: b :: c :: d :: e :: f :: g :: h :: i :: j :: k :: r) 10 = some k := rfl
theorem ix11 {a b c d e f g h i j k l : D} {r : List D} : ixD (a :: b :: c :: d :: e :: f :: g :: h :: i :: j :: k :: l :: r) 11 = some l := rfl
theorem it_enum_l {xs : List D} {st : Sto} : evIt .enum [.lst xs] st = some (enumD 0 xs, []) := rfl
theorem it_seq_l {xs : List D} {st : Sto} : evIt .seq [.lst xs] st = some (xs, []) := rfl
theorem it_seq_s {ns : List Int} {st : Sto} : evIt .seq [.scr ns] st = some (ns.map .int, []) := rfl
def nonL (n : Nat) (r : Res D) : Res D := r.bind fun d st => match d with
  | .non => .ok (.loc n) st
  | _ => .stk
theorem nonL_o {n : Nat} {st : Sto} : nonL n (.ok .non st) = .ok (.loc n) st := rfl
theorem nonL_x {n c : Nat} {fs : List (Nat × D)} {st : Sto} : nonL n (.exc c fs st) = .exc c fs st := rfl
/-! attributes of an object of the store -/
def fldC (pg : Pg) (o : Option D) (f : Nat) : Option D := match o with
  | some (.ins c fs) => if pg.fa c f = true then fs.lookup f else none
  | _ => none
theorem fd_eq {pg : Pg} {st : Sto} {d : D} {f : Nat} : fldD pg st d f = fldC pg (look st d) f := by
  unfold fldD fldC
  cases look st d with
  | none => rfl
  | some d => cases d <;> rfl
theorem fd_i {pg : Pg} {c f : Nat} {fs : List (Nat × D)} : fldC pg (some (.ins c fs)) f = if pg.fa c f = true then fs.lookup f else none := rfl
def clsC (o : Option D) (m : Nat) : Option Nat := match o with
  | some (.ins c fs) => if (fs.lookup m).isNone = true then some c else none
  | _ => none
theorem cs_eq {st : Sto} {d : D} {m : Nat} : clsOf st d m = clsC (look st d) m := by
  unfold clsOf clsC
  cases look st d with
  | none => rfl
  | some d => cases d <;> rfl
theorem cs_i {c m : Nat} {fs : List (Nat × D)} : clsC (some (.ins c fs)) m = if (fs.lookup m).isNone = true then some c else none := rfl
def setfC (pg : Pg) (o : Option Cell) (st : Sto) (bs i f : Nat) (v : D) : Option Sto := match o with
  | some (.mu (.ins c fs)) => if (pg.fa c f = true ∧ fits bs i v = true) ∧ fs.length < 1000 then some (st.set i (.mu (.ins c (putD f v fs)))) else none
  | _ => none
theorem sf_eq {pg : Pg} {st : Sto} {bs i f : Nat} {v : D} : setfD pg st bs (.loc i) f v = setfC pg st[i]? st bs i f v := by
  dsimp only [setfD]
  unfold setfC
  cases st[i]? with
  | none => rfl
  | some c =>
    cases c with
    | dead => rfl
    | lk _ => rfl
    | mu d => cases d <;> simp [Bool.and_eq_true]
theorem sf_i {pg : Pg} {st : Sto} {bs i f c : Nat} {v : D} {fs : List (Nat × D)} : setfC pg (some (.mu (.ins c fs))) st bs i f v = if (pg.fa c f = true ∧ fits bs i v = true) ∧ fs.length < 1000 then some (st.set i (.mu (.ins c (putD f v fs)))) else none := rfl
theorem pu_nil {f : Nat} {v : D} : putD f v [] = [(f, v)] := rfl
theorem pu_cons {f g : Nat} {v u : D} {r : List (Nat × D)} : putD f v ((g, u) :: r) = if g = f then (g, v) :: r else (g, u) :: putD f v r := rfl
/-- an instance that stays an object -/
def mkK (o : Option Nat) (pg : Pg) (bs c : Nat) (xs : List D) (st : Sto) : Res D := match o with
  | some f => nonL st.length (pg.fns f (.loc st.length :: xs) (st ++ [.mu (.ins c [])]) bs)
  | none => .stk
theorem mk_keep {pg : Pg} {bs c : Nat} {xs : List D} {st : Sto} : mkD pg bs c .keep xs st = mkK (pg.ini c) pg bs c xs st := by
  unfold mkD mkK nonL
  cases pg.ini c <;> rfl
theorem mkK_o {pg : Pg} {bs c f : Nat} {xs : List D} {st : Sto} : mkK (some f) pg bs c xs st = nonL st.length (pg.fns f (.loc st.length :: xs) (st ++ [.mu (.ins c [])]) bs) := rfl
theorem fit_cl {bs i : Nat} {d : D} : fits bs i d = (decide (bs ≤ i) || closed i d) := rfl
/-- numbers from 0 on, each below its size -/
def Lt2 : List Int → List Int → Prop
  | [], [] => True
  | q :: qs, s :: ss => (0 ≤ q ∧ q < s) ∧ Lt2 qs ss
  | _, _ => False
theorem slc_scr (ns : List Int) (a b : Option Int) (st : Sto) : slcD (.scr ns) a b st = .ok (.lst ((cutD ns a b).map .int)) st := rfl
theorem mx_0 {mx : Bool} {y : D} {st : Sto} : mxD mx (.lst []) y st = .ok y st := rfl
theorem mx_1 {mx : Bool} {y : D} {a : Int} {st : Sto} : mxD mx (.lst [.int a]) y st = .ok (.int a) st := by cases mx <;> rfl
theorem mx_2t {y : D} {a b : Int} {st : Sto} : mxD true (.lst [.int a, .int b]) y st = .ok (.int (if b > a then b else a)) st := rfl
theorem mx_2f {y : D} {a b : Int} {st : Sto} : mxD false (.lst [.int a, .int b]) y st = .ok (.int (if b < a then b else a)) st := rfl
/-- a loop whose turns leave all as it was -/
theorem forD_same {body : D → DEnv → Sto → SR} {ρ : DEnv} {st : Sto} : ∀ {xs : List D}, (∀ x ∈ xs, body x ρ st = .nx ρ st) → forD body xs ρ st = .nx ρ st
  | [], _ => rfl
  | x :: xs, h => by
    show kFork body xs (body x ρ st) = _
    rw [h x List.mem_cons_self]
    exact forD_same fun y hy => h y (List.mem_cons_of_mem _ hy)
/-- a loop over a list: a state is folded -/
theorem forD_fold {α σ : Type} {body : D → DEnv → Sto → SR} (k : α → D) (e : σ → DEnv) (s : σ → Sto) (step : σ → α → σ) : ∀ (xs : List α) (z : σ), (∀ (pre : List α) (x : α) (post : List α), xs = pre ++ x :: post → body (k x) (e (pre.foldl step z)) (s (pre.foldl step z)) = .nx (e ((pre ++ [x]).foldl step z)) (s ((pre ++ [x]).foldl step z))) → forD body (xs.map k) (e z) (s z) = .nx (e (xs.foldl step z)) (s (xs.foldl step z))
  | [], z, _ => rfl
  | x :: xs, z, h => by
    show kFork body (xs.map k) (body (k x) (e z) (s z)) = _
    have h0 := h [] x xs rfl
    simp only [List.foldl_nil, List.nil_append, List.foldl_cons] at h0
    rw [h0]
    show forD body (xs.map k) (e (step z x)) (s (step z x)) = _
    rw [forD_fold k e s step xs (step z x) fun pre y post hq => by
      have := h (x :: pre) y post (by rw [hq]; rfl)
      simpa using this]
    rfl
theorem rangeD_map (lo : Int) (n : Nat) (c : Int) : rangeD lo n c = (List.range n).map fun i => .int (lo + (i : Nat) * c) := rfl
theorem rng3_m (j c : Int) (hj : 0 ≤ j ∧ j < 1000) (hc : 0 < c ∧ c < 1000) : rng3Ok 0 j c = true := by
  unfold rng3Ok
  have h1 : decide (c.natAbs - 1 < 1000000) = true := decide_eq_true (by omega)
  have h2 : decide (c.natAbs = 0) = false := decide_eq_false (by omega)
  have h3 : decide ((0 : Int).natAbs < 2 ^ 40) = true := by decide
  have h4 : decide (j.natAbs < 2 ^ 40) = true := decide_eq_true (Nat.lt_of_lt_of_le (show j.natAbs < 1000 by omega) (by decide))
  rw [h1, h2, h3, h4]; rfl
/-! a call by a frame that has objects of its own: they stay -/
theorem tk_apk {st l : Sto} {k : Nat} : (st ++ l).take (st.length + k) = st ++ l.take k := by rw [List.take_append, List.take_of_length_le (by omega)]; simp
theorem sl_ap {st l : Sto} {k : Nat} {d : D} (h : closed 0 d = true) : sealP (st.length + k) (.ok d (st ++ l)) = .ok d (st ++ l.take k) := seal_ok (deep_cl (closed0 h)) tk_apk
theorem sl_apx {st l : Sto} {k c : Nat} : sealP (st.length + k) (.exc c [] (st ++ l)) = .exc c [] (st ++ l.take k) := seal_exc rfl tk_apk
theorem sl_apx1 {st l : Sto} {k c f : Nat} {x : D} (h : closed 0 x = true) : sealP (st.length + k) (.exc c [(f, x)] (st ++ l)) = .exc c [(f, x)] (st ++ l.take k) := seal_exc (deepF_cl (by have q := closed0 (n := st.length + k) h; simp [closedF, q])) tk_apk
/-! a display of numbers, asked by a rest -/
theorem ixm2 {x a0 a1 : Int} : ixD [.int a0, .int a1] (x % 2) = some (D.int (if x % 2 = 0 then a0 else a1)) := by
  have h0 : 0 ≤ x % 2 := Int.emod_nonneg _ (by decide)
  have h1 : x % 2 < 2 := Int.emod_lt_of_pos _ (by decide)
  generalize x % 2 = y at *
  obtain rfl | rfl : y = 0 ∨ y = 1 := by omega
  all_goals simp [ixD]
theorem ixm3 {x a0 a1 a2 : Int} : ixD [.int a0, .int a1, .int a2] (x % 3) = some (D.int (if x % 3 = 0 then a0 else if x % 3 = 1 then a1 else a2)) := by
  have h0 : 0 ≤ x % 3 := Int.emod_nonneg _ (by decide)
  have h1 : x % 3 < 3 := Int.emod_lt_of_pos _ (by decide)
  generalize x % 3 = y at *
  obtain rfl | rfl | rfl : y = 0 ∨ y = 1 ∨ y = 2 := by omega
  all_goals simp [ixD]
theorem ixm4 {x a0 a1 a2 a3 : Int} : ixD [.int a0, .int a1, .int a2, .int a3] (x % 4) = some (D.int (if x % 4 = 0 then a0 else if x % 4 = 1 then a1 else if x % 4 = 2 then a2 else a3)) := by
  have h0 : 0 ≤ x % 4 := Int.emod_nonneg _ (by decide)
  have h1 : x % 4 < 4 := Int.emod_lt_of_pos _ (by decide)
  generalize x % 4 = y at *
  obtain rfl | rfl | rfl | rfl : y = 0 ∨ y = 1 ∨ y = 2 ∨ y = 3 := by omega
  all_goals simp [ixD]
theorem ixm5 {x a0 a1 a2 a3 a4 : Int} : ixD [.int a0, .int a1, .int a2, .int a3, .int a4] (x % 5) = some (D.int (if x % 5 = 0 then a0 else if x % 5 = 1 then a1 else if x % 5 = 2 then a2 else if x % 5 = 3 then a3 else a4)) := by
  have h0 : 0 ≤ x % 5 := Int.emod_nonneg _ (by decide)
  have h1 : x % 5 < 5 := Int.emod_lt_of_pos _ (by decide)
  generalize x % 5 = y at *
  obtain rfl | rfl | rfl | rfl | rfl : y = 0 ∨ y = 1 ∨ y = 2 ∨ y = 3 ∨ y = 4 := by omega
  all_goals simp [ixD]
theorem ixm6 {x a0 a1 a2 a3 a4 a5 : Int} : ixD [.int a0, .int a1, .int a2, .int a3, .int a4, .int a5] (x % 6) = some (D.int (if x % 6 = 0 then a0 else if x % 6 = 1 then a1 else if x % 6 = 2 then a2 else if x % 6 = 3 then a3 else if x % 6 = 4 then a4 else a5)) := by
  have h0 : 0 ≤ x % 6 := Int.emod_nonneg _ (by decide)
  have h1 : x % 6 < 6 := Int.emod_lt_of_pos _ (by decide)
  generalize x % 6 = y at *
  obtain rfl | rfl | rfl | rfl | rfl | rfl : y = 0 ∨ y = 1 ∨ y = 2 ∨ y = 3 ∨ y = 4 ∨ y = 5 := by omega
  all_goals simp [ixD]
theorem ixm7 {x a0 a1 a2 a3 a4 a5 a6 : Int} : ixD [.int a0, .int a1, .int a2, .int a3, .int a4, .int a5, .int a6] (x % 7) = some (D.int (if x % 7 = 0 then a0 else if x % 7 = 1 then a1 else if x % 7 = 2 then a2 else if x % 7 = 3 then a3 else if x % 7 = 4 then a4 else if x % 7 = 5 then a5 else a6)) := by
  have h0 : 0 ≤ x % 7 := Int.emod_nonneg _ (by decide)
  have h1 : x % 7 < 7 := Int.emod_lt_of_pos _ (by decide)
  generalize x % 7 = y at *
  obtain rfl | rfl | rfl | rfl | rfl | rfl | rfl : y = 0 ∨ y = 1 ∨ y = 2 ∨ y = 3 ∨ y = 4 ∨ y = 5 ∨ y = 6 := by omega
  all_goals simp [ixD]
theorem ixm8 {x a0 a1 a2 a3 a4 a5 a6 a7 : Int} : ixD [.int a0, .int a1, .int a2, .int a3, .int a4, .int a5, .int a6, .int a7] (x % 8) = some (D.int (if x % 8 = 0 then a0 else if x % 8 = 1 then a1 else if x % 8 = 2 then a2 else if x % 8 = 3 then a3 else if x % 8 = 4 then a4 else if x % 8 = 5 then a5 else if x % 8 = 6 then a6 else a7)) := by
  have h0 : 0 ≤ x % 8 := Int.emod_nonneg _ (by decide)
  have h1 : x % 8 < 8 := Int.emod_lt_of_pos _ (by decide)
  generalize x % 8 = y at *
  obtain rfl | rfl | rfl | rfl | rfl | rfl | rfl | rfl : y = 0 ∨ y = 1 ∨ y = 2 ∨ y = 3 ∨ y = 4 ∨ y = 5 ∨ y = 6 ∨ y = 7 := by omega
  all_goals simp [ixD]
theorem ixm9 {x a0 a1 a2 a3 a4 a5 a6 a7 a8 : Int} : ixD [.int a0, .int a1, .int a2, .int a3, .int a4, .int a5, .int a6, .int a7, .int a8] (x % 9) = some (D.int (if x % 9 = 0 then a0 else if x % 9 = 1 then a1 else if x % 9 = 2 then a2 else if x % 9 = 3 then a3 else if x % 9 = 4 then a4 else if x % 9 = 5 then a5 else if x % 9 = 6 then a6 else if x % 9 = 7 then a7 else a8)) := by
  have h0 : 0 ≤ x % 9 := Int.emod_nonneg _ (by decide)
  have h1 : x % 9 < 9 := Int.emod_lt_of_pos _ (by decide)
  generalize x % 9 = y at *
  obtain rfl | rfl | rfl | rfl | rfl | rfl | rfl | rfl | rfl : y = 0 ∨ y = 1 ∨ y = 2 ∨ y = 3 ∨ y = 4 ∨ y = 5 ∨ y = 6 ∨ y = 7 ∨ y = 8 := by omega
  all_goals simp [ixD]
theorem ixm10 {x a0 a1 a2 a3 a4 a5 a6 a7 a8 a9 : Int} : ixD [.int a0, .int a1, .int a2, .int a3, .int a4, .int a5, .int a6, .int a7, .int a8, .int a9] (x % 10) = some (D.int (if x % 10 = 0 then a0 else if x % 10 = 1 then a1 else if x % 10 = 2 then a2 else if x % 10 = 3 then a3 else if x % 10 = 4 then a4 else if x % 10 = 5 then a5 else if x % 10 = 6 then a6 else if x % 10 = 7 then a7 else if x % 10 = 8 then a8 else a9)) := by
  have h0 : 0 ≤ x % 10 := Int.emod_nonneg _ (by decide)
  have h1 : x % 10 < 10 := Int.emod_lt_of_pos _ (by decide)
  generalize x % 10 = y at *
  obtain rfl | rfl | rfl | rfl | rfl | rfl | rfl | rfl | rfl | rfl : y = 0 ∨ y = 1 ∨ y = 2 ∨ y = 3 ∨ y = 4 ∨ y = 5 ∨ y = 6 ∨ y = 7 ∨ y = 8 ∨ y = 9 := by omega
  all_goals simp [ixD]
theorem ixm11 {x a0 a1 a2 a3 a4 a5 a6 a7 a8 a9 a10 : Int} : ixD [.int a0, .int a1, .int a2, .int a3, .int a4, .int a5, .int a6, .int a7, .int a8, .int a9, .int a10] (x % 11) = some (D.int (if x % 11 = 0 then a0 else if x % 11 = 1 then a1 else if x % 11 = 2 then a2 else if x % 11 = 3 then a3 else if x % 11 = 4 then a4 else if x % 11 = 5 then a5 else if x % 11 = 6 then a6 else if x % 11 = 7 then a7 else if x % 11 = 8 then a8 else if x % 11 = 9 then a9 else a10)) := by
  have h0 : 0 ≤ x % 11 := Int.emod_nonneg _ (by decide)
  have h1 : x % 11 < 11 := Int.emod_lt_of_pos _ (by decide)
  generalize x % 11 = y at *
  obtain rfl | rfl | rfl | rfl | rfl | rfl | rfl | rfl | rfl | rfl | rfl : y = 0 ∨ y = 1 ∨ y = 2 ∨ y = 3 ∨ y = 4 ∨ y = 5 ∨ y = 6 ∨ y = 7 ∨ y = 8 ∨ y = 9 ∨ y = 10 := by omega
  all_goals simp [ixD]
theorem ixm12 {x a0 a1 a2 a3 a4 a5 a6 a7 a8 a9 a10 a11 : Int} : ixD [.int a0, .int a1, .int a2, .int a3, .int a4, .int a5, .int a6, .int a7, .int a8, .int a9, .int a10, .int a11] (x % 12) = some (D.int (if x % 12 = 0 then a0 else if x % 12 = 1 then a1 else if x % 12 = 2 then a2 else if x % 12 = 3 then a3 else if x % 12 = 4 then a4 else if x % 12 = 5 then a5 else if x % 12 = 6 then a6 else if x % 12 = 7 then a7 else if x % 12 = 8 then a8 else if x % 12 = 9 then a9 else if x % 12 = 10 then a10 else a11)) := by
  have h0 : 0 ≤ x % 12 := Int.emod_nonneg _ (by decide)
  have h1 : x % 12 < 12 := Int.emod_lt_of_pos _ (by decide)
  generalize x % 12 = y at *
  obtain rfl | rfl | rfl | rfl | rfl | rfl | rfl | rfl | rfl | rfl | rfl | rfl : y = 0 ∨ y = 1 ∨ y = 2 ∨ y = 3 ∨ y = 4 ∨ y = 5 ∨ y = 6 ∨ y = 7 ∨ y = 8 ∨ y = 9 ∨ y = 10 ∨ y = 11 := by omega
  all_goals simp [ixD]
/-- a loop by an invariant that may count the turns -/
theorem forD_inv {body : D → DEnv → Sto → SR} (I : Nat → DEnv → Sto → Prop) : ∀ (xs : List D) (i : Nat) (ρ : DEnv) (st : Sto), I i ρ st → (∀ (j : Nat) (x : D), xs[j]? = some x → ∀ ρ st, I (i + j) ρ st → ∃ ρ' st', (body x ρ st = .nx ρ' st' ∨ body x ρ st = .ct ρ' st') ∧ I (i + j + 1) ρ' st') → ∃ ρ' st', forD body xs ρ st = .nx ρ' st' ∧ I (i + xs.length) ρ' st'
  | [], i, ρ, st, h, _ => ⟨ρ, st, rfl, h⟩
  | x :: xs, i, ρ, st, h, hs => by
    obtain ⟨ρ1, st1, e, h1⟩ := hs 0 x rfl ρ st h
    obtain ⟨ρ2, st2, e2, h2⟩ := forD_inv I xs (i + 1) ρ1 st1 h1 fun j y hy ρ st q => by
      have := hs (j + 1) y hy ρ st (by rw [show i + (j + 1) = i + 1 + j by omega]; exact q)
      rw [show i + (j + 1) + 1 = i + 1 + j + 1 by omega] at this
      exact this
    refine ⟨ρ2, st2, ?_, by rw [List.length_cons, show i + (xs.length + 1) = i + 1 + xs.length by omega]; exact h2⟩
    unfold forD
    rcases e with e | e <;> (rw [e]; exact e2)
theorem rangeD_get {lo c : Int} {n j : Nat} {x : D} (h : (rangeD lo n c)[j]? = some x) : j < n ∧ x = .int (lo + (j : Nat) * c) := by
  unfold rangeD at h
  rw [List.getElem?_map] at h
  by_cases hj : j < n
  · rw [List.getElem?_eq_getElem (by simpa using hj)] at h
    simp at h
    exact ⟨hj, h.symm⟩
  · rw [List.getElem?_eq_none (by simpa using hj)] at h
    cases h
theorem rangeD_len {lo c : Int} {n : Nat} : (rangeD lo n c).length = n := by simp [rangeD]
theorem rng3_s (i j c : Int) (hi : -1000000 < i ∧ i < 1000000) (hj : -1000000 < j ∧ j < 1000000) (hc : 0 < c ∧ c < 1000) : rng3Ok i j c = true := by
  unfold rng3Ok
  have h1 : decide (c.natAbs - 1 < 1000000) = true := decide_eq_true (by omega)
  have h2 : decide (c.natAbs = 0) = false := decide_eq_false (by omega)
  have h3 : decide (i.natAbs < 2 ^ 40) = true := decide_eq_true (Nat.lt_of_lt_of_le (show i.natAbs < 1000000 by omega) (by decide))
  have h4 : decide (j.natAbs < 2 ^ 40) = true := decide_eq_true (Nat.lt_of_lt_of_le (show j.natAbs < 1000000 by omega) (by decide))
  rw [h1, h2, h3, h4]; rfl
theorem p_dm {i j : Int} {st : Sto} (h : divOk j = true) : prim .divmod [.int i, .int j] st = .ok (.tup [.int (i / j), .int (i % j)]) st := by
  show (if divOk j = true then Res.ok (D.tup [.int (i / j), .int (i % j)]) st else .stk) = _
  rw [if_pos h]
/-- an instance that becomes a value -/
def mkP (o : Option Nat) (pg : Pg) (c : Nat) (xs : List D) (st : Sto) : Res D := match o with
  | some f => sealP st.length (nonL st.length (pg.fns f (.loc st.length :: xs) (st ++ [.mu (.ins c [])]) st.length))
  | none => .stk
theorem mk_pure {pg : Pg} {bs c : Nat} {xs : List D} {st : Sto} : mkD pg bs c .pure xs st = mkP (pg.ini c) pg c xs st := by
  unfold mkD mkP nonL
  cases pg.ini c <;> rfl
theorem mkP_o {pg : Pg} {c f : Nat} {xs : List D} {st : Sto} : mkP (some f) pg c xs st = sealP st.length (nonL st.length (pg.fns f (.loc st.length :: xs) (st ++ [.mu (.ins c [])]) st.length)) := rfl
/-! objects at any place of a frame -/
theorem tk_set {l : Sto} {i : Nat} {c : Cell} : (l.set i c).take l.length = l.set i c := List.take_of_length_le (by simp)
/-! an object's items -/
def idxO (o : Option D) (k : D) (st : Sto) : Res D := match o with
  | some c => (match idxC c k with
    | some d => .ok d st
    | none => .stk)
  | none => .stk
theorem idx_loc {i : Nat} {k : D} {st : Sto} : idxD (.loc i) k st = idxO (look st (.loc i)) k st := by
  unfold idxO idxD
  cases look st (.loc i) <;> rfl
theorem idxO_l {xs : List D} {k : D} {st : Sto} : idxO (some (.lst xs)) k st = idxD (.lst xs) k st := rfl
theorem idxO_K {xs : List (Key × D)} {k : D} {st : Sto} : idxO (some (.dK xs)) k st = idxD (.dK xs) k st := rfl
theorem idxO_T {xs : List (List Key × D)} {k : D} {st : Sto} : idxO (some (.dT xs)) k st = idxD (.dT xs) k st := rfl
end Den
set_option maxHeartbeats 4000000
/-! DDic: dicts in the walk. -/
namespace Den
open PySem L2
section
variable {st : Sto} {bs i : Nat} {k v x : D} {n m : Int} {s : Str}
theorem lk_K {kvs : List (Key × D)} : look st (.dK kvs) = some (.dK kvs) := rfl
theorem lk_T {kvs : List (List Key × D)} : look st (.dT kvs) = some (.dT kvs) := rfl
theorem lk_l {xs : List D} : look st (.lst xs) = some (.lst xs) := rfl
theorem lk_t {xs : List D} : look st (.tup xs) = some (.tup xs) := rfl
theorem lk_s : look st (.str s) = some (.str s) := rfl
theorem lk_i {c : Nat} {fs : List (Nat × D)} : look st (.ins c fs) = some (.ins c fs) := rfl
theorem dl_k {kvs : List (Key × D)} : dlook (.dK kvs) (.int n) = some (dget kvs (.inl n)) := rfl
theorem dl_s {kvs : List (Key × D)} : dlook (.dK kvs) (.str s) = some (dget kvs (.inr s)) := rfl
theorem dl_t {kvs : List (List Key × D)} : dlook (.dT kvs) (.tup [.int n, .int m]) = some (dget kvs [.inl n, .inl m]) := rfl
theorem ix_k {kvs : List (Key × D)} : idxD (.dK kvs) (.int n) st = getG (dget kvs (.inl n)) st := by
  unfold idxD getG
  show (match (dlook (.dK kvs) (.int n)).bind id with
    | some d => Res.ok d st
    | none => .stk) = _
  rfl
theorem ix_ks {kvs : List (Key × D)} : idxD (.dK kvs) (.str s) st = getG (dget kvs (.inr s)) st := by
  unfold idxD getG
  show (match (dlook (.dK kvs) (.str s)).bind id with
    | some d => Res.ok d st
    | none => .stk) = _
  rfl
theorem ix_t {kvs : List (List Key × D)} : idxD (.dT kvs) (.tup [.int n, .int m]) st = getG (dget kvs [.inl n, .inl m]) st := by
  unfold idxD getG
  show (match (dlook (.dT kvs) (.tup [.int n, .int m])).bind id with
    | some d => Res.ok d st
    | none => .stk) = _
  rfl
theorem dp_k {kvs : List (Key × D)} : dputD (.dK kvs) (.int n) v = if kvs.length < LIM then some (.dK (dput kvs (.inl n) v)) else none := rfl
theorem dp_s {kvs : List (Key × D)} : dputD (.dK kvs) (.str s) v = if kvs.length < LIM then some (.dK (dput kvs (.inr s) v)) else none := rfl
theorem dp_t {kvs : List (List Key × D)} : dputD (.dT kvs) (.tup [.int n, .int m]) v = if kvs.length < LIM then some (.dT (dput kvs [.inl n, .inl m] v)) else none := rfl
theorem dd_k {kvs : List (Key × D)} : ddropD (.dK kvs) (.int n) = .dK (ddrop kvs (.inl n)) := rfl
theorem dd_t {kvs : List (List Key × D)} : ddropD (.dT kvs) (.tup [.int n, .int m]) = .dT (ddrop kvs [.inl n, .inl m]) := rfl
theorem ds_k {kvs : List (Key × D)} : dsz (.dK kvs) = kvs.length := rfl
theorem ds_t {kvs : List (List Key × D)} : dsz (.dT kvs) = kvs.length := rfl
/-! in -/
def inOC (o : Option D) (st : Sto) (a : D) : Option Bool := match o with
  | some c => inC st a c
  | none => none
theorem ci_loc {a : D} : opC .inn a (.loc i) st = blO (inOC (look st (.loc i)) st a) st := by
  show (match inD st a (.loc i) with
    | some e => Res.ok (D.bl e) st
    | none => .stk) = _
  unfold inD inOC blO
  rfl
theorem ni_loc {a : D} : opC .nin a (.loc i) st = blO ((inOC (look st (.loc i)) st a).map fun e => !e) st := by
  show (match (inD st a (.loc i)).map fun e => !e with
    | some e => Res.ok (D.bl e) st
    | none => .stk) = _
  unfold inD inOC blO
  rfl
theorem io_K {kvs : List (Key × D)} : inOC (some (.dK kvs)) st (.int n) = some (dget kvs (.inl n)).isSome := rfl
theorem io_T {kvs : List (List Key × D)} : inOC (some (.dT kvs)) st (.tup [.int n, .int m]) = some (dget kvs [.inl n, .inl m]).isSome := rfl
theorem ci_K {kvs : List (Key × D)} : opC .inn (.int n) (.dK kvs) st = .ok (.bl (dget kvs (.inl n)).isSome) st := rfl
theorem ni_K {kvs : List (Key × D)} : opC .nin (.int n) (.dK kvs) st = .ok (.bl (!(dget kvs (.inl n)).isSome)) st := rfl
theorem ci_T {kvs : List (List Key × D)} : opC .inn (.tup [.int n, .int m]) (.dT kvs) st = .ok (.bl (dget kvs [.inl n, .inl m]).isSome) st := rfl
theorem ni_T {kvs : List (List Key × D)} : opC .nin (.tup [.int n, .int m]) (.dT kvs) st = .ok (.bl (!(dget kvs [.inl n, .inl m]).isSome)) st := rfl
/-! get -/
def dlO (o : Option D) (k : D) : Option (Option D) := match o with
  | some d => dlook d k
  | none => none
theorem dlO_o {d : D} : dlO (some d) k = dlook d k := rfl
def gtR (o : Option (Option D)) (x : D) (st : Sto) : Res D := match o with
  | some v => .ok (v.getD x) st
  | none => .stk
theorem gtR_o {o : Option D} : gtR (some o) x st = .ok (o.getD x) st := rfl
theorem lm_get1 {o : D} : bmeth .get1 o [k] st bs = gtR (dlO (look st o) k) .non st := by
  show (match (look st o).bind fun d => dlook d k with
    | some v => Res.ok (v.getD .non) st
    | none => .stk) = _
  cases look st o <;> rfl
theorem lm_get2 {o : D} : bmeth .get2 o [k, x] st bs = gtR (dlO (look st o) k) x st := by
  show (match (look st o).bind fun d => dlook d k with
    | some v => Res.ok (v.getD x) st
    | none => .stk) = _
  cases look st o <;> rfl
/-! setdefault, pop -/
def sdP (o : Option D) (x : D) (st : Sto) (i : Nat) : Res D := match o with
  | some d => .ok x (st.set i (.mu d))
  | none => .stk
theorem sdP_o {d : D} : sdP (some d) x st i = .ok x (st.set i (.mu d)) := rfl
theorem sdP_if {p : Prop} [Decidable p] {a b : Option D} : sdP (if p then a else b) x st i = if p then sdP a x st i else sdP b x st i := by by_cases h : p <;> simp only [h, if_true, if_false]
theorem sdP_n : sdP none x st i = .stk := rfl
def sdQ (o : Option (Option D)) (d : D) (st : Sto) (bs i : Nat) (k x : D) : Res D := match o with
  | some (some v) => if dsz d < LIM then .ok v st else .stk
  | some none => if fits bs i x = true then sdP (dputD d k x) x st i else .stk
  | none => .stk
theorem sdQ_s {d : D} : sdQ (some (some v)) d st bs i k x = if dsz d < LIM then .ok v st else .stk := rfl
theorem sdQ_n {d : D} : sdQ (some none) d st bs i k x = if fits bs i x = true then sdP (dputD d k x) x st i else .stk := rfl
def sdR (c : Option Cell) (st : Sto) (bs i : Nat) (k x : D) : Res D := match c with
  | some (.mu d) => sdQ (dlook d k) d st bs i k x
  | _ => .stk
theorem sdR_o {d : D} : sdR (some (.mu d)) st bs i k x = sdQ (dlook d k) d st bs i k x := rfl
theorem lm_setdef : bmeth .setdef (.loc i) [k, x] st bs = sdR st[i]? st bs i k x := by
  dsimp only [bmeth]
  unfold sdR
  cases st[i]? with
  | none => rfl
  | some c =>
    cases c with
    | dead => rfl
    | lk _ => rfl
    | mu d =>
      unfold sdQ sdP
      all_goals (try dsimp only)
      all_goals (rcases dlook d k with _ | _ | _ <;> rfl)
def poQ (o : Option (Option D)) (d : D) (st : Sto) (i : Nat) (k : D) : Res D := match o with
  | some (some v) => .ok v (st.set i (.mu (ddropD d k)))
  | _ => .stk
theorem poQ_s {d : D} : poQ (some (some v)) d st i k = .ok v (st.set i (.mu (ddropD d k))) := rfl
def poR (c : Option Cell) (st : Sto) (i : Nat) (k : D) : Res D := match c with
  | some (.mu d) => poQ (dlook d k) d st i k
  | _ => .stk
theorem poR_o {d : D} : poR (some (.mu d)) st i k = poQ (dlook d k) d st i k := rfl
theorem lm_dpop1 : bmeth .dpop1 (.loc i) [k] st bs = poR st[i]? st i k := by
  dsimp only [bmeth]
  unfold poR
  cases st[i]? with
  | none => rfl
  | some c =>
    cases c with
    | dead => rfl
    | lk _ => rfl
    | mu d =>
      unfold poQ
      all_goals (try dsimp only)
      all_goals (rcases dlook d k with _ | _ | _ <;> rfl)
/-! places -/
def ixR (o : Option Nat) (st : Sto) : Res D := match o with
  | some j => .ok (.int (j : Nat)) st
  | none => .stk
theorem ixR_o {j : Nat} : ixR (some j) st = .ok (.int (j : Nat)) st := rfl
def plO (o : Option D) (st : Sto) (x : D) : Option Nat := match o with
  | some d => plD st d x
  | none => none
theorem plO_o {d : D} : plO (some d) st x = plD st d x := rfl
theorem lm_index {o : D} : bmeth .index o [x] st bs = ixR (plO (look st o) st x) st := by
  show (match (look st o).bind fun d => plD st d x with
    | some j => Res.ok (D.int (j : Nat)) st
    | none => .stk) = _
  cases look st o <;> rfl
def rmR (c : Option Cell) (st : Sto) (i : Nat) (x : D) : Res D := match c with
  | some (.mu (.lst xs)) => (match plD st (.lst xs) x with
    | some j => .ok .non (st.set i (.mu (.lst (xs.eraseIdx j))))
    | none => .stk)
  | _ => .stk
theorem rmR_o {xs : List D} {j : Nat} (h : plD st (.lst xs) x = some j) : rmR (some (.mu (.lst xs))) st i x = .ok .non (st.set i (.mu (.lst (xs.eraseIdx j)))) := by
  unfold rmR
  dsimp only
  rw [h]
theorem lm_remove : bmeth .remove (.loc i) [x] st bs = rmR st[i]? st i x := by
  dsimp only [bmeth]
  unfold rmR
  rcases st[i]? with _ | (_ | d | _) <;> try rfl
/-! len -/
def lnC (o : Option D) (st : Sto) : Res D := match o with
  | some (.lst xs) => .ok (.int (xs.length : Nat)) st
  | some (.tup xs) => .ok (.int (xs.length : Nat)) st
  | some (.dK xs) => .ok (.int (xs.length : Nat)) st
  | some (.dT xs) => .ok (.int (xs.length : Nat)) st
  | _ => .stk
theorem p_len_loc (h : ∀ ns, look st (.loc i) ≠ some (.scr ns)) (h2 : ∀ s, look st (.loc i) ≠ some (.str s)) : prim .len [.loc i] st = lnC (look st (.loc i)) st := by
  show (match lenD st (.loc i) with
    | some n => Res.ok (D.int n) st
    | none => .stk) = _
  unfold lenD lnC
  cases hl : look st (.loc i) with
  | none => rfl
  | some d => cases d <;> first | rfl | exact (h _ hl).elim | exact (h2 _ hl).elim
theorem p_len_ap {l : Sto} {j : Nat} {xs : List D} (h : l[j]? = some (.mu (.lst xs))) : prim .len [.loc (st.length + j)] (st ++ l) = .ok (.int (xs.length : Nat)) (st ++ l) := by
  have e : look (st ++ l) (.loc (st.length + j)) = some (.lst xs) := by rw [lk_app, h]
  show (match lenD (st ++ l) (.loc (st.length + j)) with
    | some n => Res.ok (D.int n) (st ++ l)
    | none => .stk) = _
  unfold lenD
  rw [e]
def lnL (o : Option D) (st : Sto) : Res D := match o with
  | some (.lst xs) => .ok (.int (xs.length : Nat)) st
  | some (.tup xs) => .ok (.int (xs.length : Nat)) st
  | some (.dK xs) => .ok (.int (xs.length : Nat)) st
  | some (.dT xs) => .ok (.int (xs.length : Nat)) st
  | some (.scr xs) => .ok (.int (xs.length : Nat)) st
  | some (.str s) => if s.length ≤ LIM then .ok (.int (s.length : Nat)) st else .stk
  | _ => .stk
theorem p_len_o : prim .len [.loc i] st = lnL (look st (.loc i)) st := by
  show (match lenD st (.loc i) with
    | some n => Res.ok (D.int n) st
    | none => .stk) = _
  unfold lenD lnL
  cases hl : look st (.loc i) with
  | none => rfl
  | some d =>
    cases d <;> try rfl
    rename_i s
    by_cases h : s.length ≤ LIM <;> simp only [h, if_true, if_false]
theorem ln_l {xs : List D} : lnL (some (.lst xs)) st = .ok (.int (xs.length : Nat)) st := rfl
theorem ln_K {xs : List (Key × D)} : lnL (some (.dK xs)) st = .ok (.int (xs.length : Nat)) st := rfl
theorem ln_T {xs : List (List Key × D)} : lnL (some (.dT xs)) st = .ok (.int (xs.length : Nat)) st := rfl
theorem p_len_K {xs : List (Key × D)} : prim .len [.dK xs] st = .ok (.int (xs.length : Nat)) st := rfl
theorem p_len_T {xs : List (List Key × D)} : prim .len [.dT xs] st = .ok (.int (xs.length : Nat)) st := rfl
theorem dn_tf {pg : Pg} {ρ : DEnv} : evE pg bs (.dnew true false) ρ st = .ok (.loc st.length) (st ++ [.mu (.dK [])]) := rfl
theorem dn_tt {pg : Pg} {ρ : DEnv} : evE pg bs (.dnew true true) ρ st = .ok (.loc st.length) (st ++ [.mu (.dT [])]) := rfl
theorem dn_ff {pg : Pg} {ρ : DEnv} : evE pg bs (.dnew false false) ρ st = .ok (.dK []) st := rfl
theorem dn_ft {pg : Pg} {ρ : DEnv} : evE pg bs (.dnew false true) ρ st = .ok (.dT []) st := rfl
theorem it_zip {xs ys : List D} : evIt .zip [.lst xs, .lst ys] st = some (zipD xs ys, []) := rfl
theorem it_rev {xs : List D} : evIt .rev [.lst xs] st = some (xs.reverse, []) := rfl
/-! objects that are walked -/
def itO (o : Option D) (lk : Lk) : Option (List D × Lk) := match o with
  | some (.lst xs) => some (xs, lk)
  | some (.scr ns) => some (ns.map .int, [])
  | _ => none
theorem it_loc : evIt .seq [.loc i] st = itO (look st (.loc i)) (lockOf st (.loc i)) := by
  show (match look st (.loc i) with
    | some (.lst xs) => some (xs, lockOf st (.loc i))
    | some (.scr ns) => some (ns.map .int, [])
    | _ => none) = _
  unfold itO
  rfl
theorem itO_l {xs : List D} {lk : Lk} : itO (some (.lst xs)) lk = some (xs, lk) := rfl
theorem lk_1 {d : D} : lkSt st [(i, d)] = st.set i (.lk d) := rfl
def un1 (c : Option Cell) (st : Sto) (i : Nat) (d : D) : Option Sto := match c with
  | some (.lk _) => some (st.set i (.mu d))
  | _ => none
theorem un_1 {d : D} : unSt st [(i, d)] = un1 st[i]? st i d := by
  show (match st[i]? with
    | some (.lk _) => some (st.set i (.mu d))
    | _ => none) = _
  unfold un1
  rfl
theorem un1_o {d e : D} : un1 (some (.lk e)) st i d = some (st.set i (.mu d)) := rfl
def lcG (m : Bool) (ys : List D) (o : Option Sto) : Res D := match o with
  | some st => if m then .ok (.loc st.length) (st ++ [.mu (.lst ys)]) else .ok (.lst ys) st
  | none => .stk
theorem lcF_1 {m : Bool} {d : D} {ys : List D} : lcF m [(i, d)] ys st = lcG m ys (unSt st [(i, d)]) := by
  unfold lcF lcG
  rfl
theorem lcG_f {ys : List D} : lcG false ys (some st) = .ok (.lst ys) st := rfl
theorem lcG_t {ys : List D} : lcG true ys (some st) = .ok (.loc st.length) (st ++ [.mu (.lst ys)]) := rfl
theorem set_same {l : Sto} {c : Cell} (h : l[i]? = some c) : l.set i c = l := by
  obtain ⟨hi, e⟩ := List.getElem?_eq_some_iff.mp h
  rw [← e]; simp
theorem un_n1 {ρ : DEnv} {d : D} : (SR.nx ρ st).un [(i, d)] = (match unSt st [(i, d)] with
  | some st => .nx ρ st
  | none => .stk) := rfl
theorem un_r1 {v d : D} : (SR.rt v st).un [(i, d)] = (match unSt st [(i, d)] with
  | some st => .rt v st
  | none => .stk) := rfl
/-! isinstance of an object -/
def isC (o : Option D) (n : Ty) : Option Bool := match o with
  | some .non => some false
  | some (.bl _) => some (n == .bool || n == .int)
  | some (.int _) => some (n == .int)
  | some (.str _) => some (n == .str)
  | some (.tup _) => some (n == .tuple)
  | some (.lst _) => some (n == .list)
  | some (.scr _) => some (n == .list)
  | some (.dK _) => some (n == .dict)
  | _ => none
theorem isi_loc {n : Ty} : isiD st (.loc i) (.ty n) = isC (look st (.loc i)) n := rfl
theorem isC_ll {xs : List D} : isC (some (.lst xs)) .list = some true := rfl
theorem isC_lt {xs : List D} : isC (some (.lst xs)) .tuple = some false := rfl
theorem isC_ld {xs : List D} : isC (some (.lst xs)) .dict = some false := rfl
theorem isC_ls {xs : List D} : isC (some (.lst xs)) .str = some false := rfl
theorem isC_kd {xs : List (Key × D)} : isC (some (.dK xs)) .dict = some true := rfl
theorem p_lst_l {xs : List D} : prim .lst [.lst xs] st = .ok (.lst xs) st := rfl
theorem p_lst_t {xs : List D} : prim .lst [.tup xs] st = .ok (.lst xs) st := rfl
theorem p_tup_l {xs : List D} : prim .tup [.lst xs] st = .ok (.tup xs) st := rfl
def lsL (o : Option D) (st : Sto) : Res D := match o with
  | some (.lst xs) => .ok (.lst xs) st
  | _ => .stk
theorem p_lst_loc {xs : List D} (h : look st (.loc i) = some (.lst xs)) : prim .lst [.loc i] st = .ok (.lst xs) st := by
  show (match items st (.loc i) with
    | some xs => Res.ok (D.lst xs) st
    | none => .stk) = _
  unfold items
  rw [h]; rfl
/-! slices -/
theorem cut_from {α : Type} (xs : List α) (k : Int) (h : 0 ≤ k) : cutD xs (some k) none = xs.drop k.toNat := by
  unfold cutD HT.sIx
  dsimp only
  rw [if_neg (by omega)]
  by_cases h2 : k.toNat ≤ xs.length
  · rw [Nat.min_eq_left h2, List.take_of_length_le (by simp)]
  · rw [Nat.min_eq_right (by omega), List.drop_of_length_le (Nat.le_refl _), List.drop_of_length_le (by omega)]; simp
theorem cut_to {α : Type} (xs : List α) (k : Int) (h : 0 ≤ k) : cutD xs none (some k) = xs.take k.toNat := by
  unfold cutD HT.sIx
  dsimp only
  rw [if_neg (by omega), List.drop_zero, Nat.sub_zero]
  by_cases h2 : k.toNat ≤ xs.length
  · rw [Nat.min_eq_left h2]
  · rw [Nat.min_eq_right (by omega), List.take_of_length_le (Nat.le_refl _), List.take_of_length_le (by omega)]
theorem cut_len {α : Type} (xs : List α) (a b : Int) (h : 0 ≤ a) (hb : a ≤ b) : ((cutD xs (some a) (some b)).length : Int) ≤ b - a := by
  unfold cutD HT.sIx
  dsimp only
  rw [if_neg (by omega), if_neg (by omega)]
  rw [List.length_take]
  omega
theorem cut_map {α β : Type} (f : α → β) (xs : List α) (a b : Option Int) : cutD (xs.map f) a b = (cutD xs a b).map f := by
  unfold cutD
  rw [List.length_map, List.map_take, List.map_drop]
theorem cut_mem {α : Type} {xs : List α} {a b : Option Int} {x : α} (h : x ∈ cutD xs a b) : x ∈ xs := List.mem_of_mem_drop (List.mem_of_mem_take h)
theorem slc_l {xs : List D} {a b : Option Int} : slcD (.lst xs) a b st = .ok (.lst (cutD xs a b)) st := rfl
def slO (o : Option D) (a b : Option Int) (st : Sto) : Res D := match o with
  | some c => (match slcC c a b with
    | some d => .ok d st
    | none => .stk)
  | none => .stk
theorem slc_loc {a b : Option Int} : slcD (.loc i) a b st = slO (look st (.loc i)) a b st := by
  unfold slcD slO
  cases look st (.loc i) <;> rfl
theorem slO_l {xs : List D} {a b : Option Int} : slO (some (.lst xs)) a b st = .ok (.lst (cutD xs a b)) st := rfl
/-! what a dict holds behind a store -/
section
variable {κ : Type} [DecidableEq κ]
theorem dget_nil {k : κ} : dget ([] : List (κ × D)) k = none := rfl
theorem dget_cons {k g : κ} {u : D} {r : List (κ × D)} : dget ((g, u) :: r) k = if g = k then some u else dget r k := by
  unfold dget
  rw [List.find?_cons]
  by_cases h : g = k <;> simp [h]
theorem dget_map {k g : κ} {v : D} : ∀ {kvs : List (κ × D)}, dget (kvs.map fun kv => if kv.1 = k then (kv.1, v) else kv) g = if g = k then (if (kvs.any fun kv => decide (kv.1 = k)) then some v else none) else dget kvs g
  | [] => by simp [dget]
  | (a, u) :: r => by
    rw [List.map_cons]
    have ih := dget_map (k := k) (g := g) (v := v) (kvs := r)
    by_cases h : a = k
    · subst h
      rw [if_pos rfl, dget_cons, ih]
      by_cases h2 : g = a
      · subst h2; simp
      · have h3 : ¬ a = g := fun z => h2 z.symm
        rw [if_neg h3, if_neg h2, if_neg h2, dget_cons, if_neg h3]
    · rw [if_neg h, dget_cons, ih]
      by_cases h2 : g = k
      · subst h2
        rw [if_pos rfl, if_neg h, if_pos rfl, List.any_cons, decide_eq_false h, Bool.false_or]
      · rw [if_neg h2, if_neg h2, dget_cons]
theorem dget_snoc {k g : κ} {v : D} : ∀ {kvs : List (κ × D)}, dget (kvs ++ [(k, v)]) g = (dget kvs g).or (if k = g then some v else none)
  | [] => by rw [List.nil_append, dget_cons]; simp [dget]
  | (a, u) :: r => by
    rw [List.cons_append, dget_cons, dget_cons, dget_snoc]
    by_cases h : a = g <;> simp [h]
theorem dget_any {k : κ} : ∀ {kvs : List (κ × D)}, (kvs.any fun kv => decide (kv.1 = k)) = (dget kvs k).isSome
  | [] => rfl
  | (a, u) :: r => by
    rw [List.any_cons, dget_any, dget_cons]
    by_cases h : a = k <;> simp [h]
theorem dget_put {k g : κ} {v : D} {kvs : List (κ × D)} : dget (dput kvs k v) g = if g = k then some v else dget kvs g := by
  unfold dput
  by_cases ha : (kvs.any fun kv => decide (kv.1 = k)) = true
  · rw [if_pos ha, dget_map]
    simp only [ha, if_true]
  · rw [if_neg ha, dget_snoc]
    have hn : dget kvs k = none := by
      rw [dget_any] at ha
      cases h : dget kvs k with
      | none => rfl
      | some _ => rw [h] at ha; simp at ha
    by_cases h : g = k
    · subst h; simp [hn]
    · have h3 : ¬ k = g := fun z => h z.symm
      simp [h, h3]
theorem dget_put1 {k : κ} {v : D} {kvs : List (κ × D)} : dget (dput kvs k v) k = some v := by rw [dget_put, if_pos rfl]
theorem dput_len {k : κ} {v : D} {kvs : List (κ × D)} : (dput kvs k v).length ≤ kvs.length + 1 := by
  unfold dput
  split <;> simp
theorem dput_new {k : κ} {v : D} {kvs : List (κ × D)} (h : dget kvs k = none) : dput kvs k v = kvs ++ [(k, v)] := by
  unfold dput
  rw [dget_any, h]
  simp
theorem dput_put {k : κ} {u v : D} {kvs : List (κ × D)} : dput (dput kvs k u) k v = dput kvs k v := by
  have h1 : ((dput kvs k u).any fun kv => decide (kv.1 = k)) = true := by rw [dget_any, dget_put1]; rfl
  have h2 : dput (dput kvs k u) k v = (dput kvs k u).map fun kv => if kv.1 = k then (kv.1, v) else kv := if_pos h1
  rw [h2]
  unfold dput
  by_cases h : (kvs.any fun kv => decide (kv.1 = k)) = true
  · rw [if_pos h, if_pos h, List.map_map]
    apply List.map_congr_left
    intro p _
    by_cases e : p.1 = k <;> simp [e]
  · rw [if_neg h, if_neg h, List.map_append]
    congr 1
    · have : ∀ p ∈ kvs, (if p.1 = k then (p.1, v) else p) = p := fun p hp => by
        rw [if_neg]
        intro e
        apply h
        rw [List.any_eq_true]
        exact ⟨p, hp, decide_eq_true e⟩
      rw [List.map_congr_left this, List.map_id']
    · simp
theorem dget_drop {k g : κ} : ∀ {kvs : List (κ × D)}, dget (ddrop kvs k) g = if g = k then none else dget kvs g
  | [] => by simp [ddrop, dget]
  | (a, u) :: r => by
    have ih := dget_drop (k := k) (g := g) (kvs := r)
    unfold ddrop at ih ⊢
    rw [List.filter_cons]
    by_cases h : a = k
    · subst h
      simp only [ne_eq, not_true_eq_false, decide_false, Bool.false_eq_true, if_false]
      rw [ih, dget_cons]
      by_cases h2 : g = a
      · rw [if_pos h2, if_pos h2]
      · rw [if_neg h2, if_neg h2, if_neg fun z => h2 z.symm]
    · simp only [ne_eq, h, not_false_eq_true, decide_true, if_true]
      rw [dget_cons, ih, dget_cons]
      by_cases h2 : g = k
      · subst h2; rw [if_pos rfl, if_neg h, if_pos rfl]
      · rw [if_neg h2, if_neg h2]
theorem ddrop_len {k : κ} {kvs : List (κ × D)} : (ddrop kvs k).length ≤ kvs.length := List.length_filter_le _ _
end
theorem ix_get {α : Type} (f : α → D) (xs : List α) (i : Int) (h0 : 0 ≤ i) (h1 : i < xs.length) (st : Sto) : idxD (.lst (xs.map f)) (.int i) st = .ok (f (xs[i.toNat]'(by omega))) st := by
  have hj : i.toNat < xs.length := by omega
  have e : ixD (xs.map f) i = some (f (xs[i.toNat]'hj)) := by
    unfold ixD
    rw [if_pos h0, List.getElem?_map, List.getElem?_eq_getElem hj]; rfl
  show (match ixD (xs.map f) i with
    | some d => Res.ok d st
    | none => .stk) = _
  rw [e]
theorem ix_some {α : Type} (f : α → D) (xs : List α) (i : Int) (h0 : 0 ≤ i) (h1 : i < xs.length) : ∃ x ∈ xs, ∀ st, idxD (.lst (xs.map f)) (.int i) st = .ok (f x) st := ⟨xs[i.toNat]'(by omega), List.getElem_mem _, ix_get f xs i h0 h1⟩
/-- a comprehension all of whose turns give something -/
theorem lcD_ex {γ β : Type} {body : D → Sto → Res (Option D)} {st : Sto} (k : γ → D) (e : β → D) (P : β → Prop) : ∀ (l : List γ) (acc : List D), (∀ a ∈ l, ∃ y, P y ∧ body (k a) st = .ok (some (e y)) st) → ∃ ys : List β, ys.length = l.length ∧ (∀ y ∈ ys, P y) ∧ lcD body (l.map k) acc st = .ok (acc ++ ys.map e) st
  | [], acc, _ => ⟨[], rfl, fun _ h => (nomatch h), by simp [lcD]⟩
  | a :: l, acc, hb => by
    obtain ⟨y, hy, h1⟩ := hb a List.mem_cons_self
    obtain ⟨ys, h2, h3, h4⟩ := lcD_ex k e P l (acc ++ [e y]) fun x hx => hb x (List.mem_cons_of_mem _ hx)
    refine ⟨y :: ys, by simp [h2], fun z hz => ?_, ?_⟩
    · rcases List.mem_cons.mp hz with rfl | hz
      · exact hy
      · exact h3 z hz
    show (match body (k a) st with
      | .ok (some y) st => lcD body (l.map k) (acc ++ [y]) st
      | .ok none st => lcD body (l.map k) acc st
      | _ => .stk) = _
    rw [h1]
    show lcD body (l.map k) (acc ++ [e y]) st = _
    rw [h4]; simp
/-- a running number's course: the k-th number -/
def nrAt (f : Int → Int → Int) (n0 : Int) : Nat → Int
  | 0 => n0
  | k + 1 => f (nrAt f n0 k) k
def strm (f : Int → Int → Int) (n0 : Int) (n : Nat) : List Int := (List.range n).map fun k => nrAt f n0 (k + 1)
theorem strm_snoc {f : Int → Int → Int} {n0 : Int} {n : Nat} : strm f n0 (n + 1) = strm f n0 n ++ [nrAt f n0 (n + 1)] := by simp [strm, List.range_succ]
theorem strm_len {f : Int → Int → Int} {n0 : Int} {n : Nat} : (strm f n0 n).length = n := by simp [strm]
theorem strm_all {f : Int → Int → Int} {n0 : Int} {n : Nat} {P : Int → Prop} (h : ∀ a k, P (f a k)) : ∀ x ∈ strm f n0 n, P x := fun x hx => by
  unfold strm at hx
  obtain ⟨k, _, rfl⟩ := List.mem_map.mp hx
  exact h _ _
/-- a loop over a list of things, by what holds behind each beginning of it -/
theorem forD_pre {α : Type} (enc : α → D) {body : D → DEnv → Sto → SR} (I : List α → DEnv → Sto → Prop) (l : List α) (h : ∀ (pre : List α) (x : α) (post : List α), l = pre ++ x :: post → ∀ ρ st, I pre ρ st → ∃ ρ' st', (body (enc x) ρ st = .nx ρ' st' ∨ body (enc x) ρ st = .ct ρ' st') ∧ I (pre ++ [x]) ρ' st') :
    ∀ ρ st, I [] ρ st → ∃ ρ' st', forD body (l.map enc) ρ st = .nx ρ' st' ∧ I l ρ' st' := by
  suffices H : ∀ (post pre : List α), l = pre ++ post → ∀ ρ st, I pre ρ st → ∃ ρ' st', forD body (post.map enc) ρ st = .nx ρ' st' ∧ I l ρ' st' from fun ρ st q => H l [] rfl ρ st q
  intro post
  induction post with
  | nil => intro pre e ρ st q; rw [List.append_nil] at e; subst e; exact ⟨ρ, st, rfl, q⟩
  | cons x post ih =>
    intro pre e ρ st q
    obtain ⟨ρ1, st1, h1, q1⟩ := h pre x post e ρ st q
    obtain ⟨ρ2, st2, h2, q2⟩ := ih (pre ++ [x]) (by rw [e]; simp) ρ1 st1 q1
    refine ⟨ρ2, st2, ?_, q2⟩
    rw [List.map_cons]
    unfold forD
    rcases h1 with h1 | h1 <;> (rw [h1]; exact h2)
theorem zipD_map {α β : Type} (f : α → D) (g : β → D) : ∀ (xs : List α) (ys : List β), zipD (xs.map f) (ys.map g) = (xs.zip ys).map fun p => .tup [f p.1, g p.2]
  | [], _ => rfl
  | _ :: _, [] => rfl
  | x :: xs, y :: ys => by simp [zipD, zipD_map f g xs ys]
theorem ix_ints (cs : List Int) (h : Int) (st : Sto) (h0 : 0 ≤ h) (h1 : h < cs.length) : idxD (.lst (cs.map D.int)) (.int h) st = .ok (.int (cs.getD h.toNat 0)) st := by
  have hj : h.toNat < cs.length := by omega
  have e : ixD (cs.map D.int) h = some (.int (cs.getD h.toNat 0)) := by
    unfold ixD
    rw [if_pos h0, List.getElem?_map, List.getElem?_eq_getElem hj, List.getD_eq_getElem?_getD, List.getElem?_eq_getElem hj]; rfl
  show (match ixD (cs.map D.int) h with
    | some d => Res.ok d st
    | none => .stk) = _
  rw [e]
end
/-! while loops, first faults, insertions -/
theorem wh_t {cond : DEnv → Sto → Res D} {body : DEnv → Sto → SR} {n : Nat} {ρ ρ' : DEnv} {st st' : Sto} (h1 : cond ρ st = .ok (.bl true) st) (h2 : body ρ st = .nx ρ' st') : whD cond body (n + 1) ρ st = whD cond body n ρ' st' := by
  conv => lhs; unfold whD
  rw [h1]
  show (match body ρ st with
      | .nx ρ st => whD cond body n ρ st
      | .ct ρ st => whD cond body n ρ st
      | .bk ρ st => .nx ρ st
      | r => r) = _
  rw [h2]
theorem wh_f {cond : DEnv → Sto → Res D} {body : DEnv → Sto → SR} {n : Nat} {ρ : DEnv} {st : Sto} (h1 : cond ρ st = .ok (.bl false) st) : whD cond body (n + 1) ρ st = .nx ρ st := by
  unfold whD
  rw [h1]; rfl

theorem range_i {n : Nat} {pre post : List Nat} {i : Nat} (hq : List.range n = pre ++ i :: post) : i = pre.length ∧ pre.length < n := by
  have hin : pre.length < n := by have := congrArg List.length hq; simp at this; omega
  have h1 : (List.range n)[pre.length]? = some i := by rw [hq]; simp
  rw [List.getElem?_range hin] at h1
  exact ⟨by simpa using h1.symm, hin⟩

theorem ix_ex (l : List D) (i : Int) (h0 : 0 ≤ i) (h1 : i < l.length) : ∃ x, x ∈ l ∧ ∀ st, idxD (.lst l) (.int i) st = .ok x st := by
  have hj : i.toNat < l.length := by omega
  refine ⟨l[i.toNat], List.getElem_mem hj, fun st => ?_⟩
  have e : ixD l i = some l[i.toNat] := by
    unfold ixD
    rw [if_pos h0, List.getElem?_eq_getElem hj]
  show (match ixD l i with
    | some d => Res.ok d st
    | none => .stk) = _
  rw [e]

def inR (c : Option Cell) (st : Sto) (bs i : Nat) (k : Int) (x : D) : Res D := match c with
  | some (.mu (.lst xs)) => if smallI k && decide (0 ≤ k) && decide (k.toNat ≤ xs.length) && decide (xs.length < LIM) && fits bs i x then .ok .non (st.set i (.mu (.lst (xs.take k.toNat ++ x :: xs.drop k.toNat)))) else .stk
  | _ => .stk
theorem lm_insert {st : Sto} {bs i : Nat} {k : Int} {x : D} : bmeth .insert (.loc i) [.int k, x] st bs = inR st[i]? st bs i k x := by
  dsimp only [bmeth]
  unfold inR
  rcases st[i]? with _ | (_ | d | _) <;> try rfl
  all_goals (cases d <;> rfl)
theorem inR_o {st : Sto} {bs i : Nat} {k : Int} {x : D} {xs : List D} (h1 : smallI k = true) (h2 : 0 ≤ k) (h3 : k.toNat ≤ xs.length) (h4 : xs.length < 16777216) (h5 : fits bs i x = true) : inR (some (.mu (.lst xs))) st bs i k x = .ok .non (st.set i (.mu (.lst (xs.take k.toNat ++ x :: xs.drop k.toNat)))) := by
  show (if smallI k && decide (0 ≤ k) && decide (k.toNat ≤ xs.length) && decide (xs.length < LIM) && fits bs i x then _ else _) = _
  rw [h1, h5, decide_eq_true h2, decide_eq_true h3, decide_eq_true (show xs.length < LIM from h4)]; rfl

theorem inOC_of {α : Type} [DecidableEq α] {g : α → D} {n : Nat} (e : Enc g n) (hn : n + 1 ≤ 64) (a : α) (l : List α) (st : Sto) : inOC (some (.lst (l.map g))) st (g a) = some (decide (a ∈ l)) := by
  have := e.inD hn a l st
  exact this

theorem fit_i {bs i : Nat} {d : D} (h : closed i d = true) : fits bs i d = true := by unfold fits; rw [h]; exact Bool.or_true _

/-- the first fault of a walk -/
def flts {α β : Type} (fl : List α → α → Option β) : List α → List α → Option β
  | _, [] => none
  | pre, x :: xs => match fl pre x with
    | some c => some c
    | none => flts fl (pre ++ [x]) xs
def stp : SR → Bool
  | .exc .. => true
  | .rt .. => true
  | _ => false
theorem forD_flt {α β : Type} (enc : α → D) {body : D → DEnv → Sto → SR} (fl : List α → α → Option β) (I : List α → DEnv → Sto → Prop) (Q : β → SR → Prop) (l : List α)
    (h : ∀ (pre : List α) (x : α) (post : List α), l = pre ++ x :: post → ∀ ρ st, I pre ρ st → match fl pre x with
      | some c => stp (body (enc x) ρ st) = true ∧ Q c (body (enc x) ρ st)
      | none => ∃ ρ' st', body (enc x) ρ st = .nx ρ' st' ∧ I (pre ++ [x]) ρ' st') :
    ∀ ρ st, I [] ρ st → match flts fl [] l with
      | some c => Q c (forD body (l.map enc) ρ st)
      | none => ∃ ρ' st', forD body (l.map enc) ρ st = .nx ρ' st' ∧ I l ρ' st' := by
  suffices H : ∀ (post pre : List α), l = pre ++ post → ∀ ρ st, I pre ρ st → match flts fl pre post with
      | some c => Q c (forD body (post.map enc) ρ st)
      | none => ∃ ρ' st', forD body (post.map enc) ρ st = .nx ρ' st' ∧ I l ρ' st' from fun ρ st q => H l [] rfl ρ st q
  intro post
  induction post with
  | nil => intro pre e ρ st q; rw [List.append_nil] at e; subst e; exact ⟨ρ, st, rfl, q⟩
  | cons x post ih =>
    intro pre e ρ st q
    have hx := h pre x post e ρ st q
    unfold flts
    cases hf : fl pre x with
    | some c =>
      rw [hf] at hx
      obtain ⟨h1, h2⟩ := hx
      dsimp only
      rw [List.map_cons]
      unfold forD
      cases hb : body (enc x) ρ st <;> rw [hb] at h1 h2 <;> first | exact h2 | cases h1
    | none =>
      rw [hf] at hx
      obtain ⟨ρ1, st1, h1, q1⟩ := hx
      have := ih (pre ++ [x]) (by rw [e]; simp) ρ1 st1 q1
      dsimp only
      rw [List.map_cons, show forD body (enc x :: post.map enc) ρ st = forD body (post.map enc) ρ1 st1 by rw [forD, h1]]
      exact this

/-! dicts that are walked -/
section
variable {st : Sto} {i : Nat}
theorem it_keys_K {kvs : List (Key × D)} : evIt .keys [.dK kvs] st = some (kvs.map fun kv => ofK kv.1, []) := rfl
theorem it_keys_T {kvs : List (List Key × D)} : evIt .keys [.dT kvs] st = some (kvs.map fun kv => .tup (kv.1.map ofK), []) := rfl
theorem it_items_K {kvs : List (Key × D)} : evIt .items [.dK kvs] st = some (kvs.map fun kv => .tup [ofK kv.1, kv.2], []) := rfl
theorem it_items_T {kvs : List (List Key × D)} : evIt .items [.dT kvs] st = some (kvs.map fun kv => .tup [.tup (kv.1.map ofK), kv.2], []) := rfl
def itQ (f : D → Option (List D)) (o : Option D) (lk : Lk) : Option (List D × Lk) := match o.bind f with
  | some xs => some (xs, lk)
  | none => none
theorem it_keys_loc : evIt .keys [.loc i] st = itQ keysD (look st (.loc i)) (lockOf st (.loc i)) := rfl
theorem it_items_loc : evIt .items [.loc i] st = itQ itemsD (look st (.loc i)) (lockOf st (.loc i)) := rfl
theorem itQ_kK {kvs : List (Key × D)} {lk : Lk} : itQ keysD (some (.dK kvs)) lk = some (kvs.map fun kv => ofK kv.1, lk) := rfl
theorem itQ_kT {kvs : List (List Key × D)} {lk : Lk} : itQ keysD (some (.dT kvs)) lk = some (kvs.map fun kv => .tup (kv.1.map ofK), lk) := rfl
theorem itQ_iK {kvs : List (Key × D)} {lk : Lk} : itQ itemsD (some (.dK kvs)) lk = some (kvs.map fun kv => .tup [ofK kv.1, kv.2], lk) := rfl
theorem itQ_iT {kvs : List (List Key × D)} {lk : Lk} : itQ itemsD (some (.dT kvs)) lk = some (kvs.map fun kv => .tup [.tup (kv.1.map ofK), kv.2], lk) := rfl
end
/-! index that may raise: among names -/
theorem log2_of_lt {i : Int} (h : i.natAbs < 2 ^ 1920) : i.natAbs.log2 < 1920 := by
  by_cases z : i.natAbs = 0
  · rw [z]; decide
  · exact (Nat.log2_lt z).mpr h
theorem idxx_name {vE : Option Nat} {st : Sto} (g : Int × Int → D) (hg : g = fun p => .tup [.int p.1, .int p.2]) (l : List (Int × Int)) (a b : Int) (ha : a.natAbs < 2 ^ 1920) (hb : b.natAbs < 2 ^ 1920) :
    idxxD vE (.lst (l.map g)) (.tup [.int a, .int b]) st = if (a, b) ∈ l then .ok (.int (l.idxOf (a, b) : Nat)) st else (match vE with
      | some c => .exc c [] st
      | none => .stk) := by
  subst hg
  let e := (Enc.int.pair Enc.int)
  have h1 : toPs (l.map fun p : Int × Int => D.tup [.int p.1, .int p.2]) = some (l.map e.q) := e.toPs l
  have h2 : toPS st (.tup [.int a, .int b]) = some (e.q (a, b)) := rfl
  have h3 : SeqAt.shaped (e.q (a, b)) = true := e.shaped (by decide) (a, b)
  have h4 : SeqAt.shaped (.list (l.map e.q)) = true := e.list.shaped (by decide) l
  have h5 : ∀ p : Int × Int, PyData.eqv (e.q p) (e.q (a, b)) = decide (p = (a, b)) := fun p => e.eq p (a, b)
  have h6 : idxOk (e.q (a, b)) = true := by
    show (decide (a.natAbs.log2 < 1920) && decide (b.natAbs.log2 < 1920)) = true
    rw [decide_eq_true (log2_of_lt ha), decide_eq_true (log2_of_lt hb)]; rfl
  have h7 : (l.map e.q).findIdx? (fun z => PyData.eqv z (e.q (a, b))) = if (a, b) ∈ l then some (l.idxOf (a, b)) else none := by
    rw [List.findIdx?_map]
    have : ((fun z => PyData.eqv z (e.q (a, b))) ∘ e.q) = fun p => p == (a, b) := by
      funext p
      show PyData.eqv (e.q p) (e.q (a, b)) = _
      rw [h5]
      exact Bool.eq_iff_iff.mpr (by simp)
    rw [this]
    by_cases hm : (a, b) ∈ l
    · rw [if_pos hm, List.findIdx?_eq_some_iff_findIdx_eq]
      exact ⟨List.idxOf_lt_length_iff.mpr hm, rfl⟩
    · rw [if_neg hm, List.findIdx?_eq_none_iff]
      intro x hx
      simp only [beq_eq_false_iff_ne, ne_eq]
      exact fun z => hm (z ▸ hx)
  have h8 : plF st (.lst (l.map fun p : Int × Int => D.tup [.int p.1, .int p.2])) (.tup [.int a, .int b]) = some (if (a, b) ∈ l then some (l.idxOf (a, b)) else none) := by
    unfold plF
    show (match (toPs (l.map fun p : Int × Int => D.tup [.int p.1, .int p.2])).map PyData.list, toPS st (.tup [.int a, .int b]) with
      | some (.list ps), some p => if SeqAt.shaped p && SeqAt.shaped (.list ps) then (match ps.findIdx? fun z => PyData.eqv z p with
        | some j => some (some j)
        | none => if idxOk p then some none else none) else none
      | _, _ => none) = _
    rw [h1, h2]
    show (if SeqAt.shaped (e.q (a, b)) && SeqAt.shaped (.list (l.map e.q)) then (match (l.map e.q).findIdx? fun z => PyData.eqv z (e.q (a, b)) with
        | some j => some (some j)
        | none => if idxOk (e.q (a, b)) then some none else none) else none) = _
    rw [h3, h4, h7, h6]
    by_cases hm : (a, b) ∈ l
    · rw [if_pos hm]; rfl
    · rw [if_neg hm]; rfl
  unfold idxxD
  show (match plF st (.lst (l.map fun p : Int × Int => D.tup [.int p.1, .int p.2])) (.tup [.int a, .int b]) with
    | some (some j) => Res.ok (D.int (j : Nat)) st
    | some none => (match vE with
      | some c => .exc c [] st
      | none => .stk)
    | none => .stk) = _
  rw [h8]
  by_cases hm : (a, b) ∈ l
  · rw [if_pos hm, if_pos hm]
  · rw [if_neg hm, if_neg hm]
/-- a dict by numbers 0, 1, .. -/
theorem rng_get (f : Nat → D) {k : Nat} {a : Int} (h0 : 0 ≤ a) (h1 : a < k) : dget ((List.range k).map fun i : Nat => ((.inl (i : Int) : Key), f i)) (.inl a) = some (f a.toNat) := by
  obtain ⟨i, rfl⟩ : ∃ i : Nat, (i : Int) = a := ⟨a.toNat, by omega⟩
  rw [Int.toNat_natCast]
  have hi : i < k := by omega
  clear h0 h1
  induction k with
  | zero => omega
  | succ k ih =>
    rw [List.range_succ, List.map_append, List.map_cons, List.map_nil, dget_snoc]
    by_cases q : i < k
    · rw [ih q]; rfl
    · have : i = k := by omega
      subst this
      have hn : dget ((List.range i).map fun j : Nat => ((.inl (j : Int) : Key), f j)) (.inl (i : Int)) = none := by
        unfold dget
        rw [List.find?_map, List.find?_eq_none.mpr]
        · rfl
        · intro j hj
          have := List.mem_range.mp hj
          simp only [Function.comp, Sum.inl.injEq, Int.natCast_inj, decide_eq_true_eq]
          omega
      rw [hn]; simp
/-- where a thing stands in a list of things of its kind -/
theorem enc_pl {α : Type} [DecidableEq α] {g : α → D} {n : Nat} (e : Enc g n) (hn : n ≤ 63) {a : α} {l : List α} (h : a ∈ l) (st : Sto) : plD st (.lst (l.map g)) (g a) = some (l.idxOf a) := by
  have h1 : Den.toPs (l.map g) = some (l.map e.q) := e.toPs l
  have h2 : toPS st (g a) = some (e.q a) := by
    unfold toPS
    rw [look_plain (e.to a)]
    exact e.to a
  have h3 : SeqAt.shaped (e.q a) = true := e.shaped (by omega) a
  have h4 : SeqAt.shaped (.list (l.map e.q)) = true := e.list.shaped (by omega) l
  have h7 : (l.map e.q).findIdx? (fun z => PyData.eqv z (e.q a)) = some (l.idxOf a) := by
    rw [List.findIdx?_map]
    have : ((fun z => PyData.eqv z (e.q a)) ∘ e.q) = fun p => p == a := by
      funext p
      show PyData.eqv (e.q p) (e.q a) = _
      rw [e.eq]
      exact Bool.eq_iff_iff.mpr (by simp)
    rw [this, List.findIdx?_eq_some_iff_findIdx_eq]
    exact ⟨List.idxOf_lt_length_iff.mpr h, rfl⟩
  unfold plD
  show (match (Den.toPs (l.map g)).map PyData.list, toPS st (g a) with
    | some (.list ps), some p => if SeqAt.shaped p && SeqAt.shaped (.list ps) then ps.findIdx? (fun z => PyData.eqv z p) else none
    | _, _ => none) = _
  rw [h1, h2]
  show (if SeqAt.shaped (e.q a) && SeqAt.shaped (.list (l.map e.q)) then (l.map e.q).findIdx? (fun z => PyData.eqv z (e.q a)) else none) = _
  rw [h3, h4, h7]; rfl
theorem map_erI {α β : Type} (f : α → β) : ∀ (l : List α) (j : Nat), (l.map f).eraseIdx j = (l.eraseIdx j).map f
  | [], _ => rfl
  | _ :: _, 0 => rfl
  | x :: l, j + 1 => by
    show f x :: (l.map f).eraseIdx j = f x :: (l.eraseIdx j).map f
    rw [map_erI f l j]
/-! an object that a callee walks -/
section
variable {S : Sto} {g : Nat} {d : D} (hg : S[g]? = some (.mu d))
include hg
theorem ob_look : look S (.loc g) = some d := by unfold look; simp only [hg]
theorem ob_lock : lockOf S (.loc g) = [(g, d)] := by unfold lockOf; simp only [hg]
theorem ob_get (c : Cell) : (S.set g c)[g]? = some c := List.getElem?_set_self (List.getElem?_eq_some_iff.mp hg).1
theorem ob_back (c : Cell) : (S.set g c).set g (.mu d) = S := by rw [List.set_set, set_same hg]
end
/-! own classes; displays -/
section
variable {pg : Pg} {st : Sto} {i c k : Nat} {fs : List (Nat × D)}
theorem iso_i : isoD pg st (.ins k fs) c = pg.isc k c := rfl
def isoC (pg : Pg) (o : Option D) (c : Nat) : Option Bool := match o with
  | some (.ins k _) => pg.isc k c
  | _ => none
theorem iso_loc : isoD pg st (.loc i) c = isoC pg (look st (.loc i)) c := rfl
theorem isoC_i : isoC pg (some (.ins k fs)) c = pg.isc k c := rfl
theorem dsp_i1 {n : Int} {v : D} : dspD false false [.int n, v] st = .ok (.dK [(.inl n, v)]) st := rfl
end
end Den
set_option maxRecDepth 100000
set_option maxHeartbeats 8000000
namespace K15
open PySem L2 Den
def top (i : Nat) : Stmt := PySem.Challenge.pw_driftmeet_k15_own_bounds.main.body.getD i (.Pass ⟨0, 0, 0, 0⟩)
def mth (i j : Nat) : Stmt := (clsBody (top i)).getD j (.Pass ⟨0, 0, 0, 0⟩)
def b_World_two_hands_1 : S := (.seq (.ife (.not (.chn .le .lt (.cst (.int 0)) (.var 3) (.pr .len (.cons (.fld (.var 0) 0) .nil)))) (.seq (.rais 0 .nil) .skip) .skip) (.seq (.kill [3]) .skip))
def b_World___init___1 : S := (.seq (.expr (.call 1 .pure (.cons (.var 3) (.cons (.var 4) .nil)))) (.seq (.seti (.fld (.var 0) 1) (.pr .len (.cons (.fld (.var 0) 0) .nil)) (.dnew true false)) (.seq (.expr (.bm .append (.fld (.var 0) 0) (.cons (.tup (.cons (.var 3) (.cons (.var 4) .nil))) .nil))) (.seq (.kill [3, 4, 5, 6, 7, 8]) .skip))))
def b_World___init___2 : S := (.seq (.expr (.meth (.var 0) 2 .pure (.cons (.var 5) (.cons (.var 6) .nil)))) (.seq (.ife (.cmp .inn (.var 6) (.idx (.fld (.var 0) 1) (.var 5))) (.seq (.rais 2 .nil) .skip) .skip) (.seq (.expr (.call 2 .pure (.cons (.var 7) (.cons (.var 8) .nil)))) (.seq (.seti (.idx (.fld (.var 0) 1) (.var 5)) (.var 6) (.tup (.cons (.var 7) (.cons (.var 8) .nil)))) (.seq (.kill [3, 4, 5, 6, 7, 8]) .skip)))))
def b__law_stream_1 : S := (.seq (.asg (.nm 3) (.bin .mod (.bin .add (.bin .add (.bin .mul (.var 3) (.var 3)) (.bin .mul (.cst (.int 48271)) (.var 3))) (.var 4)) (.cst (.int 2147483647)))) (.seq (.expr (.bm .append (.var 2) (.cons (.var 3) .nil))) (.seq (.kill [4]) .skip)))
def b__law_ways_2 : S := (.seq (.asg (.nm 6) (.idx (.var 2) (.bin .add (.bin .mul (.cst (.int 6)) (.var 4)) (.var 5)))) (.seq (.ife (.cmp .ne (.var 4) (.var 5)) (.seq (.asg (.nm 7) (.call 5 .pure (.cons (.var 6) .nil))) (.seq (.asg (.nm 8) (.bin .add (.var 7) (.call 5 .pure (.cons (.bin .fdiv (.var 6) (.cst (.int 100))) .nil)))) (.seq (.seti (.var 3) (.tup (.cons (.var 4) (.cons (.var 5) .nil))) (.tup (.cons (.var 7) (.cons (.ife (.cmp .eq (.bin .mod (.bin .fdiv (.var 6) (.cst (.int 16))) (.cst (.int 4))) (.cst (.int 0))) (.cst .non) (.var 8)) .nil)))) .skip))) .skip) (.seq (.kill [5, 6, 7, 8]) .skip)))
def b__law_ways_1 : S := (.seq (.kill [5, 6, 7, 8]) (.seq (.for (.nm 5) .rng1 (.cons (.var 0) .nil) b__law_ways_2) (.seq (.kill [4, 5, 6, 7, 8]) (.seq (.kill [4, 5, 6, 7, 8]) .skip))))
def b__law_kinds_2 : S := (.seq (.ife (.or (.cons (.not (.isi (.var 2) (.ty .int))) (.cons (.isi (.var 2) (.ty .bool)) .nil))) (.seq (.ret (.cst (.bl false))) .skip) .skip) (.seq (.kill [2]) .skip))
def b__law_kinds_1 : S := (.seq (.ife (.or (.cons (.not (.isi (.var 1) (.ty .tuple))) (.cons (.cmp .ne (.pr .len (.cons (.var 1) .nil)) (.cst (.int 3))) .nil))) (.seq (.ret (.cst (.bl false))) .skip) .skip) (.seq (.ife (.or (.cons (.not (.isi (.idx (.var 1) (.cst (.int 0))) (.ty .tuple))) (.cons (.not (.isi (.idx (.var 1) (.cst (.int 1))) (.ty .tuple))) .nil))) (.seq (.ret (.cst (.bl false))) .skip) .skip) (.seq (.kill [2]) (.seq (.for (.nm 2) .tupl (.cons (.bin .add (.bin .add (.idx (.var 1) (.cst (.int 0))) (.idx (.var 1) (.cst (.int 1)))) (.slc (.var 1) (.cons (.cst (.int 2)) .nil) .nil)) .nil) b__law_kinds_2) (.seq (.kill [1, 2]) (.seq (.kill [1, 2]) .skip))))))
def b_law_1 : S := (.seq (.asg (.nm 7) (.call 12 .pure (.cons (.var 1) (.cons (.var 6) .nil)))) (.seq (.asg (.nm 8) (.tup (.cons (.idx (.var 7) (.cst (.int 1))) (.cons (.bin .mod (.bin .fdiv (.var 6) (.cst (.int 11))) (.cst (.int 60))) .nil)))) (.seq (.asg (.nm 9) (.call 20 .pure (.cons (.var 7) .nil))) (.seq (.ife (.and (.cons (.cmp .eq (.idx (.var 7) (.cst (.int 0))) (.cst (.str "take"))) (.cons (.cmp .eq (.bin .mod (.bin .fdiv (.var 6) (.cst (.int 8))) (.cst (.int 2))) (.cst (.int 1))) .nil))) (.seq (.asg (.nm 9) (.make 4 .pure (.cons (.idx (.var 7) (.cst (.int 1))) (.cons (.idx (.var 7) (.cst (.int 2))) (.cons (.idx (.var 7) (.cst (.int 3))) .nil))))) .skip) .skip) (.seq (.asg (.nm 10) (.meth (.var 9) 11 .fresh (.cons (.var 3) (.cons (.var 8) .nil)))) (.seq (.ife (.or (.cons (.not (.call 22 .pure (.cons (.var 10) .nil))) (.cons (.cmp .ne (.var 10) (.call 23 .pure (.cons (.var 7) (.cons (.var 8) (.cons (.var 2) .nil))))) .nil))) (.seq (.ret (.cst (.bl false))) .skip) .skip) (.seq (.expr (.bm .append (.var 10) (.cons (.cst .non) .nil))) (.seq (.ife (.cmp .ne (.meth (.var 9) 11 .fresh (.cons (.var 3) (.cons (.var 8) .nil))) (.slc (.var 10) .nil (.cons (.un .neg (.cst (.int 1))) .nil))) (.seq (.ret (.cst (.bl false))) .skip) .skip) (.seq (.kill [4, 5, 6, 7, 8, 9, 10]) .skip)))))))))
def s_World_two_hands : S := (.seq (.kill [3]) (.seq (.for (.nm 3) .tupl (.cons (.tup (.cons (.var 1) (.cons (.var 2) .nil))) .nil) b_World_two_hands_1) (.seq (.kill [3]) (.seq (.ife (.cmp .eq (.var 1) (.var 2)) (.seq (.rais 0 .nil) .skip) .skip) .skip))))
def s_clock_looked_at : S := (.seq (.ife (.or (.cons (.cmp .lt (.var 0) (.cst (.int 1))) (.cons (.cmp .lt (.var 1) (.var 0)) .nil))) (.seq (.rais 1 .nil) .skip) .skip) .skip)
def s_way_looked_at : S := (.seq (.ife (.cmp .lt (.var 0) (.cst (.int 0))) (.seq (.rais 2 .nil) .skip) .skip) (.seq (.ife (.and (.cons (.cmp .notN (.var 1) (.cst .non)) (.cons (.cmp .lt (.var 1) (.var 0)) .nil))) (.seq (.rais 2 .nil) .skip) .skip) .skip))
def s_World___init__ : S := (.seq (.ife (.not (.chn .le .le (.cst (.int 1)) (.pr .len (.cons (.var 1) .nil)) (.gl 0))) (.seq (.rais 0 .nil) .skip) .skip) (.seq (.setf (.var 0) 0 (.lst true .nil)) (.seq (.setf (.var 0) 1 (.dnew true false)) (.seq (.kill [3, 4, 5, 6, 7, 8]) (.seq (.for (.tp (.cons (.nm 3) (.cons (.nm 4) .nil))) .seq (.cons (.var 1) .nil) b_World___init___1) (.seq (.kill [3, 4, 5, 6, 7, 8]) (.seq (.kill [3, 4, 5, 6, 7, 8]) (.seq (.for (.tp (.cons (.nm 5) (.cons (.nm 6) (.cons (.nm 7) (.cons (.nm 8) .nil))))) .seq (.cons (.var 2) .nil) b_World___init___2) (.seq (.kill [3, 4, 5, 6, 7, 8]) .skip)))))))))
def s__law_stream : S := (.seq (.asg (.nm 2) (.lst true .nil)) (.seq (.asg (.nm 3) (.bin .add (.bin .mod (.var 0) (.cst (.int 2147483647))) (.cst (.int 48271)))) (.seq (.kill [4]) (.seq (.for (.nm 4) .rng1 (.cons (.bin .add (.var 1) (.cst (.int 1))) .nil) b__law_stream_1) (.seq (.kill [3, 4]) (.seq (.frz 2) (.seq (.ret (.slc (.var 2) (.cons (.cst (.int 1)) .nil) .nil)) .skip)))))))
def s__law_amount : S := (.seq (.ife (.cmp .eq (.bin .mod (.var 0) (.cst (.int 4))) (.cst (.int 0))) (.seq (.ret (.bin .mod (.bin .fdiv (.var 0) (.cst (.int 4))) (.cst (.int 5)))) .skip) .skip) (.seq (.ife (.cmp .eq (.bin .mod (.var 0) (.cst (.int 4))) (.cst (.int 1))) (.seq (.ret (.bin .mod (.bin .fdiv (.var 0) (.cst (.int 4))) (.cst (.int 1000)))) .skip) .skip) (.seq (.ife (.cmp .eq (.bin .mod (.var 0) (.cst (.int 4))) (.cst (.int 2))) (.seq (.ret (.bin .mul (.bin .fdiv (.var 0) (.cst (.int 4))) (.bin .add (.bin .pow (.cst (.int 10)) (.cst (.int 21))) (.cst (.int 7))))) .skip) .skip) (.seq (.ret (.cst (.int 0))) .skip))))
def s__law_ways : S := (.seq (.asg (.nm 2) (.call 4 .pure (.cons (.var 1) (.cons (.cst (.int 36)) .nil)))) (.seq (.asg (.nm 3) (.dnew true true)) (.seq (.kill [4, 5, 6, 7, 8]) (.seq (.for (.nm 4) .rng1 (.cons (.var 0) .nil) b__law_ways_1) (.seq (.kill [2, 4, 5, 6, 7, 8]) (.seq (.ret (.var 3)) .skip))))))
def s_Happening_own_bounds : S := (.seq (.ret (.lst true .nil)) .skip)
def s_Sight_own_bounds : S := (.seq (.ret (.lst true (.cons (.tup (.cons (.gl 1) (.cons (.var 2) (.cons (.fld (.var 0) 4) .nil)))) (.cons (.tup (.cons (.var 2) (.cons (.gl 1) (.cons (.bin .sub (.cst (.int 0)) (.fld (.var 0) 3)) .nil)))) .nil)))) .skip)
def s_World_way : S := (.seq (.expr (.meth (.var 0) 2 .pure (.cons (.var 1) (.cons (.var 2) .nil)))) (.seq (.ife (.cmp .nin (.var 2) (.idx (.fld (.var 0) 1) (.var 1))) (.seq (.rais 2 .nil) .skip) .skip) (.seq (.ret (.idx (.idx (.fld (.var 0) 1) (.var 1)) (.var 2))) .skip)))
def s_Take_own_bounds : S := (.seq (.asg (.tp (.cons (.nm 3) (.cons (.nm 4) .nil))) (.meth (.var 1) 5 .pure (.cons (.idx (.fld (.var 0) 7) (.cst (.int 0))) (.cons (.fld (.var 0) 6) .nil)))) (.seq (.asg (.nm 5) (.lst true (.cons (.tup (.cons (.var 2) (.cons (.fld (.var 0) 7) (.cons (.bin .sub (.cst (.int 0)) (.var 3)) .nil)))) .nil))) (.seq (.ife (.cmp .notN (.var 4) (.cst .non)) (.seq (.expr (.bm .append (.var 5) (.cons (.tup (.cons (.fld (.var 0) 7) (.cons (.var 2) (.cons (.var 4) .nil)))) .nil))) .skip) .skip) (.seq (.ret (.var 5)) .skip))))
def s__law_number : S := (.seq (.ife (.cmp .eq (.bin .mod (.var 0) (.cst (.int 3))) (.cst (.int 0))) (.seq (.ret (.bin .sub (.bin .mod (.bin .fdiv (.var 0) (.cst (.int 3))) (.cst (.int 19))) (.cst (.int 9)))) .skip) .skip) (.seq (.ife (.cmp .eq (.bin .mod (.var 0) (.cst (.int 3))) (.cst (.int 1))) (.seq (.ret (.bin .sub (.bin .mod (.bin .fdiv (.var 0) (.cst (.int 3))) (.cst (.int 2000001))) (.cst (.int 1000000)))) .skip) .skip) (.seq (.ret (.bin .sub (.bin .mod (.bin .fdiv (.var 0) (.cst (.int 3))) (.bin .add (.bin .mul (.cst (.int 2)) (.bin .pow (.cst (.int 10)) (.cst (.int 60)))) (.cst (.int 1)))) (.bin .pow (.cst (.int 10)) (.cst (.int 60))))) .skip)))
def s__law_row : S := (.seq (.asg (.nm 2) (.bin .mod (.bin .fdiv (.var 1) (.cst (.int 4))) (.var 0))) (.seq (.asg (.nm 3) (.bin .mod (.bin .add (.bin .add (.var 2) (.cst (.int 1))) (.bin .mod (.bin .fdiv (.var 1) (.cst (.int 24))) (.bin .sub (.var 0) (.cst (.int 1))))) (.var 0))) (.seq (.asg (.nm 4) (.call 11 .pure (.cons (.bin .fdiv (.var 1) (.cst (.int 120))) .nil))) (.seq (.ife (.cmp .eq (.bin .mod (.var 1) (.cst (.int 4))) (.cst (.int 0))) (.seq (.ret (.tup (.cons (.cst (.str "look")) (.cons (.var 2) (.cons (.var 4) .nil))))) .skip) .skip) (.seq (.ife (.cmp .eq (.bin .mod (.var 1) (.cst (.int 4))) (.cst (.int 1))) (.seq (.asg (.nm 5) (.call 11 .pure (.cons (.bin .fdiv (.var 1) (.cst (.int 7))) .nil))) (.seq (.ret (.tup (.cons (.cst (.str "sight")) (.cons (.var 2) (.cons (.var 4) (.cons (.var 5) (.cons (.bin .add (.var 5) (.pr .abs (.cons (.call 11 .pure (.cons (.bin .fdiv (.var 1) (.cst (.int 35))) .nil)) .nil))) .nil))))))) .skip)) .skip) (.seq (.ife (.and (.cons (.cmp .eq (.bin .mod (.var 1) (.cst (.int 4))) (.cst (.int 2))) (.cons (.cmp .eq (.bin .mod (.bin .fdiv (.var 1) (.cst (.int 120))) (.cst (.int 2))) (.cst (.int 0))) .nil))) (.seq (.ret (.tup (.cons (.cst (.str "send")) (.cons (.var 2) (.cons (.var 4) (.cons (.var 3) .nil)))))) .skip) .skip) (.seq (.ret (.tup (.cons (.cst (.str "take")) (.cons (.var 2) (.cons (.var 4) (.cons (.tup (.cons (.var 3) (.cons (.bin .mod (.bin .fdiv (.var 1) (.cst (.int 240))) (.cst (.int 60))) .nil))) .nil)))))) .skip)))))))
def s_Happening___init__ : S := (.seq (.setf (.var 0) 6 (.var 1)) (.seq (.setf (.var 0) 8 (.var 2)) .skip))
def s_Sight___init__ : S := (.seq (.expr (.call 13 .keep (.cons (.var 0) (.cons (.var 1) (.cons (.var 2) .nil))))) (.seq (.setf (.var 0) 3 (.var 3)) (.seq (.setf (.var 0) 4 (.var 4)) .skip)))
def s_Send___init__ : S := (.seq (.expr (.call 13 .keep (.cons (.var 0) (.cons (.var 1) (.cons (.var 2) .nil))))) (.seq (.setf (.var 0) 10 (.var 3)) .skip))
def s_Take___init__ : S := (.seq (.expr (.call 13 .keep (.cons (.var 0) (.cons (.var 1) (.cons (.var 2) .nil))))) (.seq (.setf (.var 0) 7 (.var 3)) .skip))
def s_is_whole : S := (.seq (.ret (.and (.cons (.isi (.var 0) (.ty .int)) (.cons (.not (.isi (.var 0) (.ty .bool))) .nil)))) .skip)
def s_all_whole : S := (.seq (.ret (.pr .all (.cons (.lc false [1] (.nm 1) .tupl (.cons (.var 0) .nil) (.cst (.bl true)) (.call 17 .pure (.cons (.var 1) .nil))) .nil))) .skip)
def s_is_name : S := (.seq (.ret (.and (.cons (.isi (.var 0) (.ty .tuple)) (.cons (.cmp .eq (.pr .len (.cons (.var 0) .nil)) (.cst (.int 2))) (.cons (.call 18 .pure (.cons (.var 0) .nil)) .nil))))) .skip)
def s_happening : S := (.seq (.ife (.or (.cons (.not (.isi (.var 0) (.ty .tuple))) (.cons (.cmp .lt (.pr .len (.cons (.var 0) .nil)) (.cst (.int 3))) (.cons (.not (.call 18 .pure (.cons (.slc (.var 0) (.cons (.cst (.int 1)) .nil) (.cons (.cst (.int 3)) .nil)) .nil))) .nil)))) (.seq (.rais 3 .nil) .skip) .skip) (.seq (.ife (.and (.cons (.cmp .eq (.idx (.var 0) (.cst (.int 0))) (.cst (.str "look"))) (.cons (.cmp .eq (.pr .len (.cons (.var 0) .nil)) (.cst (.int 3))) .nil))) (.seq (.ret (.make 1 .pure (.cons (.idx (.var 0) (.cst (.int 1))) (.cons (.idx (.var 0) (.cst (.int 2))) .nil)))) .skip) .skip) (.seq (.ife (.and (.cons (.cmp .eq (.idx (.var 0) (.cst (.int 0))) (.cst (.str "sight"))) (.cons (.cmp .eq (.pr .len (.cons (.var 0) .nil)) (.cst (.int 5))) (.cons (.call 18 .pure (.cons (.slc (.var 0) (.cons (.cst (.int 3)) .nil) .nil) .nil)) .nil)))) (.seq (.ret (.make 2 .pure (.cons (.idx (.var 0) (.cst (.int 1))) (.cons (.idx (.var 0) (.cst (.int 2))) (.cons (.idx (.var 0) (.cst (.int 3))) (.cons (.idx (.var 0) (.cst (.int 4))) .nil)))))) .skip) .skip) (.seq (.ife (.and (.cons (.cmp .eq (.idx (.var 0) (.cst (.int 0))) (.cst (.str "send"))) (.cons (.cmp .eq (.pr .len (.cons (.var 0) .nil)) (.cst (.int 4))) (.cons (.call 17 .pure (.cons (.idx (.var 0) (.cst (.int 3))) .nil)) .nil)))) (.seq (.ret (.make 3 .pure (.cons (.idx (.var 0) (.cst (.int 1))) (.cons (.idx (.var 0) (.cst (.int 2))) (.cons (.idx (.var 0) (.cst (.int 3))) .nil))))) .skip) .skip) (.seq (.ife (.and (.cons (.cmp .eq (.idx (.var 0) (.cst (.int 0))) (.cst (.str "take"))) (.cons (.cmp .eq (.pr .len (.cons (.var 0) .nil)) (.cst (.int 4))) (.cons (.call 19 .pure (.cons (.idx (.var 0) (.cst (.int 3))) .nil)) .nil)))) (.seq (.ret (.make 4 .pure (.cons (.idx (.var 0) (.cst (.int 1))) (.cons (.idx (.var 0) (.cst (.int 2))) (.cons (.idx (.var 0) (.cst (.int 3))) .nil))))) .skip) .skip) (.seq (.rais 3 .nil) .skip))))))
def s__law_cell_at : S := (.seq (.ife (.cmp .lt (.var 1) (.pr .len (.cons (.var 0) .nil))) (.seq (.ret (.idx (.var 0) (.var 1))) .skip) .skip) (.seq (.ret (.cst (.int 0))) .skip))
def s__law_kinds : S := (.seq (.ife (.not (.isi (.var 0) (.ty .list))) (.seq (.ret (.cst (.bl false))) .skip) .skip) (.seq (.kill [1, 2]) (.seq (.for (.nm 1) .seq (.cons (.var 0) .nil) b__law_kinds_1) (.seq (.kill [1, 2]) (.seq (.ret (.cst (.bl true))) .skip)))))
def s__law_due : S := (.seq (.ife (.cmp .eq (.idx (.var 0) (.cst (.int 0))) (.cst (.str "sight"))) (.seq (.ret (.lst false (.cons (.tup (.cons (.tup (.cons (.un .neg (.cst (.int 1))) (.cons (.cst (.int 0)) .nil))) (.cons (.var 1) (.cons (.idx (.var 0) (.cst (.int 4))) .nil)))) (.cons (.tup (.cons (.var 1) (.cons (.tup (.cons (.un .neg (.cst (.int 1))) (.cons (.cst (.int 0)) .nil))) (.cons (.bin .sub (.cst (.int 0)) (.idx (.var 0) (.cst (.int 3)))) .nil)))) .nil)))) .skip) .skip) (.seq (.ife (.cmp .eq (.idx (.var 0) (.cst (.int 0))) (.cst (.str "take"))) (.seq (.asg (.tp (.cons (.nm 3) (.cons (.nm 4) .nil))) (.idx (.var 2) (.tup (.cons (.idx (.idx (.var 0) (.cst (.int 3))) (.cst (.int 0))) (.cons (.idx (.var 0) (.cst (.int 1))) .nil))))) (.seq (.asg (.nm 5) (.lst true (.cons (.tup (.cons (.var 1) (.cons (.idx (.var 0) (.cst (.int 3))) (.cons (.bin .sub (.cst (.int 0)) (.var 3)) .nil)))) .nil))) (.seq (.ife (.cmp .notN (.var 4) (.cst .non)) (.seq (.expr (.bm .append (.var 5) (.cons (.tup (.cons (.idx (.var 0) (.cst (.int 3))) (.cons (.var 1) (.cons (.var 4) .nil)))) .nil))) .skip) .skip) (.seq (.ret (.var 5)) .skip)))) .skip) (.seq (.ret (.lst false .nil)) .skip)))
def s_law : S := (.seq (.asg (.nm 1) (.bin .add (.cst (.int 2)) (.bin .mod (.call 21 .pure (.cons (.var 0) (.cons (.cst (.int 0)) .nil))) (.cst (.int 5))))) (.seq (.asg (.nm 2) (.call 6 .pure (.cons (.var 1) (.cons (.bin .fdiv (.call 21 .pure (.cons (.var 0) (.cons (.cst (.int 0)) .nil))) (.cst (.int 5))) .nil)))) (.seq (.asg (.nm 3) (.make 5 .pure (.cons (.bin .mul (.lst false (.cons (.tup (.cons (.cst (.int 1)) (.cons (.cst (.int 1)) .nil))) .nil)) (.var 1)) (.cons (.lc false [4, 5] (.tp (.cons (.nm 4) (.cons (.nm 5) .nil))) .items (.cons (.var 2) .nil) (.cst (.bl true)) (.bin .add (.var 4) (.var 5))) .nil)))) (.seq (.kill [4, 5, 6, 7, 8, 9, 10]) (.seq (.for (.nm 6) .seq (.cons (.slc (.var 0) (.cons (.cst (.int 1)) .nil) (.cons (.cst (.int 31)) .nil)) .nil) b_law_1) (.seq (.kill [1, 2, 3, 4, 5, 6, 7, 8, 9, 10]) (.seq (.ret (.cmp .eq (.gl 1) (.tup (.cons (.un .neg (.cst (.int 1))) (.cons (.cst (.int 0)) .nil))))) .skip)))))))
def d_World_two_hands : He.DefD := ⟨("World", some "two_hands"), "two_hands", "World.two_hands", defArgs (mth 23 2), defBody (mth 23 2), defScope (mth 23 2), [], []⟩
def f_World_two_hands : FI := ⟨d_World_two_hands, ["self", "one", "other", "hand"], ["self", "one", "other"], s_World_two_hands, 0⟩
def d_clock_looked_at : He.DefD := ⟨("clock_looked_at", none), "clock_looked_at", "clock_looked_at", defArgs (top 21), defBody (top 21), defScope (top 21), [], []⟩
def f_clock_looked_at : FI := ⟨d_clock_looked_at, ["short", "long"], ["short", "long"], s_clock_looked_at, 0⟩
def d_way_looked_at : He.DefD := ⟨("way_looked_at", none), "way_looked_at", "way_looked_at", defArgs (top 22), defBody (top 22), defScope (top 22), [], []⟩
def f_way_looked_at : FI := ⟨d_way_looked_at, ["least", "most"], ["least", "most"], s_way_looked_at, 0⟩
def d_World___init__ : He.DefD := ⟨("World", some "__init__"), "__init__", "World.__init__", defArgs (mth 23 0), defBody (mth 23 0), defScope (mth 23 0), [], []⟩
def f_World___init__ : FI := ⟨d_World___init__, ["self", "clocks", "ways", "short", "long", "one", "other", "least", "most"], ["self", "clocks", "ways"], s_World___init__, 1⟩
def d__law_stream : He.DefD := ⟨("_law_stream", none), "_law_stream", "_law_stream", defArgs (top 26), defBody (top 26), defScope (top 26), [], []⟩
def f__law_stream : FI := ⟨d__law_stream, ["_law_cell", "_law_many", "_law_found", "_law_number_here", "_law_k"], ["_law_cell", "_law_many"], s__law_stream, 0⟩
def d__law_amount : He.DefD := ⟨("_law_amount", none), "_law_amount", "_law_amount", defArgs (top 27), defBody (top 27), defScope (top 27), [], []⟩
def f__law_amount : FI := ⟨d__law_amount, ["_law_number_here"], ["_law_number_here"], s__law_amount, 0⟩
def d__law_ways : He.DefD := ⟨("_law_ways", none), "_law_ways", "_law_ways", defArgs (top 29), defBody (top 29), defScope (top 29), [], []⟩
def f__law_ways : FI := ⟨d__law_ways, ["_law_hands", "_law_cell", "_law_xs", "_law_ways_here", "_law_one", "_law_other", "_law_x", "_law_least", "_law_most"], ["_law_hands", "_law_cell"], s__law_ways, 1⟩
def d_Happening_own_bounds : He.DefD := ⟨("Happening", some "own_bounds"), "own_bounds", "Happening.own_bounds", defArgs (mth 11 4), defBody (mth 11 4), defScope (mth 11 4), [], []⟩
def f_Happening_own_bounds : FI := ⟨d_Happening_own_bounds, ["self", "world", "name"], ["self", "world", "name"], s_Happening_own_bounds, 0⟩
def d_Sight_own_bounds : He.DefD := ⟨("Sight", some "own_bounds"), "own_bounds", "Sight.own_bounds", defArgs (mth 13 3), defBody (mth 13 3), defScope (mth 13 3), [], []⟩
def f_Sight_own_bounds : FI := ⟨d_Sight_own_bounds, ["self", "world", "name"], ["self", "world", "name"], s_Sight_own_bounds, 0⟩
def d_World_way : He.DefD := ⟨("World", some "way"), "way", "World.way", defArgs (mth 23 4), defBody (mth 23 4), defScope (mth 23 4), [], []⟩
def f_World_way : FI := ⟨d_World_way, ["self", "one", "other"], ["self", "one", "other"], s_World_way, 1⟩
def d_Take_own_bounds : He.DefD := ⟨("Take", some "own_bounds"), "own_bounds", "Take.own_bounds", defArgs (mth 15 3), defBody (mth 15 3), defScope (mth 15 3), [], []⟩
def f_Take_own_bounds : FI := ⟨d_Take_own_bounds, ["self", "world", "name", "least", "most", "found"], ["self", "world", "name"], s_Take_own_bounds, 2⟩
def d__law_number : He.DefD := ⟨("_law_number", none), "_law_number", "_law_number", defArgs (top 28), defBody (top 28), defScope (top 28), [], []⟩
def f__law_number : FI := ⟨d__law_number, ["_law_cell"], ["_law_cell"], s__law_number, 0⟩
def d__law_row : He.DefD := ⟨("_law_row", none), "_law_row", "_law_row", defArgs (top 30), defBody (top 30), defScope (top 30), [], []⟩
def f__law_row : FI := ⟨d__law_row, ["_law_hands", "_law_cell", "_law_hand", "_law_other", "_law_reading", "_law_early"], ["_law_hands", "_law_cell"], s__law_row, 1⟩
def d_Happening___init__ : He.DefD := ⟨("Happening", some "__init__"), "__init__", "Happening.__init__", defArgs (mth 11 0), defBody (mth 11 0), defScope (mth 11 0), [], []⟩
def f_Happening___init__ : FI := ⟨d_Happening___init__, ["self", "hand", "reading"], ["self", "hand", "reading"], s_Happening___init__, 0⟩
def d_Sight___init__ : He.DefD := ⟨("Sight", some "__init__"), "__init__", "Sight.__init__", defArgs (mth 13 0), defBody (mth 13 0), defScope (mth 13 0), [], []⟩
def f_Sight___init__ : FI := ⟨d_Sight___init__, ["self", "hand", "reading", "early", "late"], ["self", "hand", "reading", "early", "late"], s_Sight___init__, 1⟩
def d_Send___init__ : He.DefD := ⟨("Send", some "__init__"), "__init__", "Send.__init__", defArgs (mth 14 0), defBody (mth 14 0), defScope (mth 14 0), [], []⟩
def f_Send___init__ : FI := ⟨d_Send___init__, ["self", "hand", "reading", "to"], ["self", "hand", "reading", "to"], s_Send___init__, 1⟩
def d_Take___init__ : He.DefD := ⟨("Take", some "__init__"), "__init__", "Take.__init__", defArgs (mth 15 0), defBody (mth 15 0), defScope (mth 15 0), [], []⟩
def f_Take___init__ : FI := ⟨d_Take___init__, ["self", "hand", "reading", "letter"], ["self", "hand", "reading", "letter"], s_Take___init__, 1⟩
def d_is_whole : He.DefD := ⟨("is_whole", none), "is_whole", "is_whole", defArgs (top 8), defBody (top 8), defScope (top 8), [], []⟩
def f_is_whole : FI := ⟨d_is_whole, ["thing"], ["thing"], s_is_whole, 0⟩
def d_all_whole : He.DefD := ⟨("all_whole", none), "all_whole", "all_whole", defArgs (top 16), defBody (top 16), defScope (top 16), [], []⟩
def f_all_whole : FI := ⟨d_all_whole, ["some", "one"], ["some"], s_all_whole, 1⟩
def d_is_name : He.DefD := ⟨("is_name", none), "is_name", "is_name", defArgs (top 17), defBody (top 17), defScope (top 17), [], []⟩
def f_is_name : FI := ⟨d_is_name, ["thing"], ["thing"], s_is_name, 2⟩
def d_happening : He.DefD := ⟨("happening", none), "happening", "happening", defArgs (top 18), defBody (top 18), defScope (top 18), [], []⟩
def f_happening : FI := ⟨d_happening, ["row"], ["row"], s_happening, 3⟩
def d__law_cell_at : He.DefD := ⟨("_law_cell_at", none), "_law_cell_at", "_law_cell_at", defArgs (top 25), defBody (top 25), defScope (top 25), [], []⟩
def f__law_cell_at : FI := ⟨d__law_cell_at, ["_law_script", "_law_k"], ["_law_script", "_law_k"], s__law_cell_at, 0⟩
def d__law_kinds : He.DefD := ⟨("_law_kinds", none), "_law_kinds", "_law_kinds", defArgs (top 32), defBody (top 32), defScope (top 32), [], []⟩
def f__law_kinds : FI := ⟨d__law_kinds, ["_law_found", "_law_one", "_law_number_here"], ["_law_found"], s__law_kinds, 0⟩
def d__law_due : He.DefD := ⟨("_law_due", none), "_law_due", "_law_due", defArgs (top 31), defBody (top 31), defScope (top 31), [], []⟩
def f__law_due : FI := ⟨d__law_due, ["_law_row_here", "_law_here", "_law_ways_here", "_law_least", "_law_most", "_law_found"], ["_law_row_here", "_law_here", "_law_ways_here"], s__law_due, 0⟩
def d_law : He.DefD := ⟨("law", none), "law", "law", defArgs (top 33), defBody (top 33), defScope (top 33), [], []⟩
def f_law : FI := ⟨d_law, ["_law_script", "_law_hands", "_law_ways_here", "_law_made", "_law_pair", "_law_way", "_law_cell", "_law_row_here", "_law_here", "_law_one", "_law_found"], ["_law_script"], s_law, 4⟩
def td : TD where
  fs := [f_law, f__law_due, f__law_kinds, f__law_cell_at, f_happening, f_is_name, f_all_whole, f_is_whole, f_Take___init__, f_Send___init__, f_Sight___init__, f_Happening___init__, f__law_row, f__law_number, f_Take_own_bounds, f_World_way, f_Sight_own_bounds, f_Happening_own_bounds, f__law_ways, f__law_amount, f__law_stream, f_World___init__, f_way_looked_at, f_clock_looked_at, f_World_two_hands]
  gl := [(("len" : PySem.Str), (.bi : GK)), (("NoHand" : PySem.Str), (.xc 0 : GK)), (("NoClock" : PySem.Str), (.xc 1 : GK)), (("NoWay" : PySem.Str), (.xc 2 : GK)), (("MOST_HANDS" : PySem.Str), (.va 0 : GK)), (("clock_looked_at" : PySem.Str), (.fn 1 : GK)), (("way_looked_at" : PySem.Str), (.fn 2 : GK)), (("range" : PySem.Str), (.bi : GK)), (("_law_stream" : PySem.Str), (.fn 4 : GK)), (("_law_amount" : PySem.Str), (.fn 5 : GK)), (("NOUGHT" : PySem.Str), (.va 1 : GK)), (("_law_number" : PySem.Str), (.fn 11 : GK)), (("abs" : PySem.Str), (.bi : GK)), (("Happening" : PySem.Str), (.cls 0 : GK)), (("isinstance" : PySem.Str), (.bi : GK)), (("bool" : PySem.Str), (.bi : GK)), (("int" : PySem.Str), (.bi : GK)), (("all" : PySem.Str), (.bi : GK)), (("is_whole" : PySem.Str), (.fn 17 : GK)), (("all_whole" : PySem.Str), (.fn 18 : GK)), (("tuple" : PySem.Str), (.bi : GK)), (("NoHappening" : PySem.Str), (.xc 3 : GK)), (("Look" : PySem.Str), (.cls 1 : GK)), (("Sight" : PySem.Str), (.cls 2 : GK)), (("Send" : PySem.Str), (.cls 3 : GK)), (("is_name" : PySem.Str), (.fn 19 : GK)), (("Take" : PySem.Str), (.cls 4 : GK)), (("list" : PySem.Str), (.bi : GK)), (("_law_cell_at" : PySem.Str), (.fn 21 : GK)), (("_law_ways" : PySem.Str), (.fn 6 : GK)), (("World" : PySem.Str), (.cls 5 : GK)), (("_law_row" : PySem.Str), (.fn 12 : GK)), (("happening" : PySem.Str), (.fn 20 : GK)), (("_law_due" : PySem.Str), (.fn 23 : GK)), (("_law_kinds" : PySem.Str), (.fn 22 : GK)), (("law" : PySem.Str), (.fn 24 : GK))]
  xs := ["NoHand", "NoClock", "NoWay", "NoHappening"]
  prs := []
  x0 := [0, 1, 2, 3]
  gvs := [.int (6), .tup [.int (-1), .int (0)]]
  cls := ["Happening", "Look", "Sight", "Send", "Take", "World"]
  fas := [(0, 6), (0, 8), (1, 6), (1, 8), (2, 3), (2, 4), (2, 6), (2, 8), (3, 6), (3, 8), (3, 10), (4, 6), (4, 7), (4, 8), (5, 0), (5, 1)]
  tb := ⟨["clocks", "bonds", "two_hands", "early", "late", "way", "hand", "letter", "reading", "__init__", "to", "own_bounds"], [((0, 11), 7), ((1, 11), 7), ((2, 11), 8), ((3, 11), 7), ((4, 11), 10), ((5, 2), 0), ((5, 5), 9)], [(1, 13), (2, 14), (3, 15), (4, 16), (5, 3)], [((0, 9), 13)], []⟩
  xis := []
  iss := []
  vE := none
theorem chk : chkP td.gl td.tb td.fs = true := by decide +kernel
theorem glOk : td.glOk = true := by decide +kernel
theorem noDfl : (td.all.all fun f => f.d.dfl.isEmpty && f.d.kwd.isEmpty) = true := by decide +kernel
theorem binds : BindAll td.all := ⟨fun _ _ _ _ _ _ us hl => match us, hl with | [_], _ => rfl, fun _ _ _ _ _ _ us hl => match us, hl with | [_, _, _], _ => rfl, fun _ _ _ _ _ _ us hl => match us, hl with | [_], _ => rfl, fun _ _ _ _ _ _ us hl => match us, hl with | [_, _], _ => rfl, fun _ _ _ _ _ _ us hl => match us, hl with | [_], _ => rfl, fun _ _ _ _ _ _ us hl => match us, hl with | [_], _ => rfl, fun _ _ _ _ _ _ us hl => match us, hl with | [_], _ => rfl, fun _ _ _ _ _ _ us hl => match us, hl with | [_], _ => rfl, fun _ _ _ _ _ _ us hl => match us, hl with | [_, _, _, _], _ => rfl, fun _ _ _ _ _ _ us hl => match us, hl with | [_, _, _, _], _ => rfl, fun _ _ _ _ _ _ us hl => match us, hl with | [_, _, _, _, _], _ => rfl, fun _ _ _ _ _ _ us hl => match us, hl with | [_, _, _], _ => rfl, fun _ _ _ _ _ _ us hl => match us, hl with | [_, _], _ => rfl, fun _ _ _ _ _ _ us hl => match us, hl with | [_], _ => rfl, fun _ _ _ _ _ _ us hl => match us, hl with | [_, _, _], _ => rfl, fun _ _ _ _ _ _ us hl => match us, hl with | [_, _, _], _ => rfl, fun _ _ _ _ _ _ us hl => match us, hl with | [_, _, _], _ => rfl, fun _ _ _ _ _ _ us hl => match us, hl with | [_, _, _], _ => rfl, fun _ _ _ _ _ _ us hl => match us, hl with | [_, _], _ => rfl, fun _ _ _ _ _ _ us hl => match us, hl with | [_], _ => rfl, fun _ _ _ _ _ _ us hl => match us, hl with | [_, _], _ => rfl, fun _ _ _ _ _ _ us hl => match us, hl with | [_, _, _], _ => rfl, fun _ _ _ _ _ _ us hl => match us, hl with | [_, _], _ => rfl, fun _ _ _ _ _ _ us hl => match us, hl with | [_, _], _ => rfl, fun _ _ _ _ _ _ us hl => match us, hl with | [_, _, _], _ => rfl, True.intro⟩
abbrev R : PySem.W.OpenRow := PySem.W.OpenLaw.row PySem.Challenge.rw_driftmeet_k15_own_bounds
abbrev hk : PySem.W.Hook := hookB 5 td.fa td.fn td.ex
def ob (s : PySem.W.SharedT) : He.AlD × Bool := obsBG 5 td.fa td.fn td.ex (HandSHeadRun.getT s)
theorem ob_eq (s : PySem.W.SharedT) : ob s = hk.obs s.abs := obsBG_eq s
def names0 : List PySem.Str := ["_wall", "__name__", "DriftError", "NoHand", "NoClock", "NoWay", "NoHappening", "is_whole", "NOUGHT", "Happening", "Look", "Sight", "Send", "Take", "all_whole", "is_name", "happening", "MOST_HANDS", "clock_looked_at", "way_looked_at", "World", "_law_cell_at", "_law_stream", "_law_amount", "_law_number", "_law_ways", "_law_row", "_law_due", "_law_kinds"]
def names : List PySem.Str := names0
theorem runs (w : World) : HandSHeadRun.RunEq R (PySem.W.view R.prog [33]) hk ob 4000 names w := by
  intro os
  kernel_rfl
def Ps (i : Nat) : Pg := pgOf td.cl (td.fs.drop (25 - i))
abbrev P_World_two_hands : Pg := Ps 0
abbrev P_clock_looked_at : Pg := Ps 1
abbrev P_way_looked_at : Pg := Ps 2
abbrev P_World___init__ : Pg := Ps 3
abbrev P__law_stream : Pg := Ps 4
abbrev P__law_amount : Pg := Ps 5
abbrev P__law_ways : Pg := Ps 6
abbrev P_Happening_own_bounds : Pg := Ps 7
abbrev P_Sight_own_bounds : Pg := Ps 8
abbrev P_World_way : Pg := Ps 9
abbrev P_Take_own_bounds : Pg := Ps 10
abbrev P__law_number : Pg := Ps 11
abbrev P__law_row : Pg := Ps 12
abbrev P_Happening___init__ : Pg := Ps 13
abbrev P_Sight___init__ : Pg := Ps 14
abbrev P_Send___init__ : Pg := Ps 15
abbrev P_Take___init__ : Pg := Ps 16
abbrev P_is_whole : Pg := Ps 17
abbrev P_all_whole : Pg := Ps 18
abbrev P_is_name : Pg := Ps 19
abbrev P_happening : Pg := Ps 20
abbrev P__law_cell_at : Pg := Ps 21
abbrev P__law_kinds : Pg := Ps 22
abbrev P__law_due : Pg := Ps 23
abbrev P_law : Pg := Ps 24
abbrev a_clocks : Nat := 0
abbrev a_bonds : Nat := 1
abbrev a_two_hands : Nat := 2
abbrev a_early : Nat := 3
abbrev a_late : Nat := 4
abbrev a_way : Nat := 5
abbrev a_hand : Nat := 6
abbrev a_letter : Nat := 7
abbrev a_reading : Nat := 8
abbrev a___init__ : Nat := 9
abbrev a_to : Nat := 10
abbrev a_own_bounds : Nat := 11
abbrev c_Happening : Nat := 0
abbrev c_Look : Nat := 1
abbrev c_Sight : Nat := 2
abbrev c_Send : Nat := 3
abbrev c_Take : Nat := 4
abbrev c_World : Nat := 5
abbrev x_NoHand : Nat := 0
abbrev x_NoClock : Nat := 1
abbrev x_NoWay : Nat := 2
abbrev x_NoHappening : Nat := 3
def X_World_two_hands (as : List Den.D) (st : Sto) (bs : Nat) : Res Den.D := runF (Ps 0) f_World_two_hands.fn as st bs
def X_clock_looked_at (as : List Den.D) (st : Sto) (bs : Nat) : Res Den.D := runF (Ps 1) f_clock_looked_at.fn as st bs
def X_way_looked_at (as : List Den.D) (st : Sto) (bs : Nat) : Res Den.D := runF (Ps 2) f_way_looked_at.fn as st bs
def X_World___init__ (as : List Den.D) (st : Sto) (bs : Nat) : Res Den.D := runF (Ps 3) f_World___init__.fn as st bs
def X__law_stream (as : List Den.D) (st : Sto) (bs : Nat) : Res Den.D := runF (Ps 4) f__law_stream.fn as st bs
def X__law_amount (as : List Den.D) (st : Sto) (bs : Nat) : Res Den.D := runF (Ps 5) f__law_amount.fn as st bs
def X__law_ways (as : List Den.D) (st : Sto) (bs : Nat) : Res Den.D := runF (Ps 6) f__law_ways.fn as st bs
def X_Happening_own_bounds (as : List Den.D) (st : Sto) (bs : Nat) : Res Den.D := runF (Ps 7) f_Happening_own_bounds.fn as st bs
def X_Sight_own_bounds (as : List Den.D) (st : Sto) (bs : Nat) : Res Den.D := runF (Ps 8) f_Sight_own_bounds.fn as st bs
def X_World_way (as : List Den.D) (st : Sto) (bs : Nat) : Res Den.D := runF (Ps 9) f_World_way.fn as st bs
def X_Take_own_bounds (as : List Den.D) (st : Sto) (bs : Nat) : Res Den.D := runF (Ps 10) f_Take_own_bounds.fn as st bs
def X__law_number (as : List Den.D) (st : Sto) (bs : Nat) : Res Den.D := runF (Ps 11) f__law_number.fn as st bs
def X__law_row (as : List Den.D) (st : Sto) (bs : Nat) : Res Den.D := runF (Ps 12) f__law_row.fn as st bs
def X_Happening___init__ (as : List Den.D) (st : Sto) (bs : Nat) : Res Den.D := runF (Ps 13) f_Happening___init__.fn as st bs
def X_Sight___init__ (as : List Den.D) (st : Sto) (bs : Nat) : Res Den.D := runF (Ps 14) f_Sight___init__.fn as st bs
def X_Send___init__ (as : List Den.D) (st : Sto) (bs : Nat) : Res Den.D := runF (Ps 15) f_Send___init__.fn as st bs
def X_Take___init__ (as : List Den.D) (st : Sto) (bs : Nat) : Res Den.D := runF (Ps 16) f_Take___init__.fn as st bs
def X_is_whole (as : List Den.D) (st : Sto) (bs : Nat) : Res Den.D := runF (Ps 17) f_is_whole.fn as st bs
def X_all_whole (as : List Den.D) (st : Sto) (bs : Nat) : Res Den.D := runF (Ps 18) f_all_whole.fn as st bs
def X_is_name (as : List Den.D) (st : Sto) (bs : Nat) : Res Den.D := runF (Ps 19) f_is_name.fn as st bs
def X_happening (as : List Den.D) (st : Sto) (bs : Nat) : Res Den.D := runF (Ps 20) f_happening.fn as st bs
def X__law_cell_at (as : List Den.D) (st : Sto) (bs : Nat) : Res Den.D := runF (Ps 21) f__law_cell_at.fn as st bs
def X__law_kinds (as : List Den.D) (st : Sto) (bs : Nat) : Res Den.D := runF (Ps 22) f__law_kinds.fn as st bs
def X__law_due (as : List Den.D) (st : Sto) (bs : Nat) : Res Den.D := runF (Ps 23) f__law_due.fn as st bs
def X_law (as : List Den.D) (st : Sto) (bs : Nat) : Res Den.D := runF (Ps 24) f_law.fn as st bs
def Y_World_two_hands (as : List Den.D) (st : Sto) : Res Den.D := sealP st.length (X_World_two_hands as st st.length)
def Y_clock_looked_at (as : List Den.D) (st : Sto) : Res Den.D := sealP st.length (X_clock_looked_at as st st.length)
def Y_way_looked_at (as : List Den.D) (st : Sto) : Res Den.D := sealP st.length (X_way_looked_at as st st.length)
def Y_World___init__ (as : List Den.D) (st : Sto) : Res Den.D := sealP st.length (X_World___init__ as st st.length)
def Y__law_stream (as : List Den.D) (st : Sto) : Res Den.D := sealP st.length (X__law_stream as st st.length)
def Y__law_amount (as : List Den.D) (st : Sto) : Res Den.D := sealP st.length (X__law_amount as st st.length)
def Y__law_ways (as : List Den.D) (st : Sto) : Res Den.D := sealP st.length (X__law_ways as st st.length)
def Y_Happening_own_bounds (as : List Den.D) (st : Sto) : Res Den.D := sealP st.length (X_Happening_own_bounds as st st.length)
def Y_Sight_own_bounds (as : List Den.D) (st : Sto) : Res Den.D := sealP st.length (X_Sight_own_bounds as st st.length)
def Y_World_way (as : List Den.D) (st : Sto) : Res Den.D := sealP st.length (X_World_way as st st.length)
def Y_Take_own_bounds (as : List Den.D) (st : Sto) : Res Den.D := sealP st.length (X_Take_own_bounds as st st.length)
def Y__law_number (as : List Den.D) (st : Sto) : Res Den.D := sealP st.length (X__law_number as st st.length)
def Y__law_row (as : List Den.D) (st : Sto) : Res Den.D := sealP st.length (X__law_row as st st.length)
def Y_Happening___init__ (as : List Den.D) (st : Sto) : Res Den.D := sealP st.length (X_Happening___init__ as st st.length)
def Y_Sight___init__ (as : List Den.D) (st : Sto) : Res Den.D := sealP st.length (X_Sight___init__ as st st.length)
def Y_Send___init__ (as : List Den.D) (st : Sto) : Res Den.D := sealP st.length (X_Send___init__ as st st.length)
def Y_Take___init__ (as : List Den.D) (st : Sto) : Res Den.D := sealP st.length (X_Take___init__ as st st.length)
def Y_is_whole (as : List Den.D) (st : Sto) : Res Den.D := sealP st.length (X_is_whole as st st.length)
def Y_all_whole (as : List Den.D) (st : Sto) : Res Den.D := sealP st.length (X_all_whole as st st.length)
def Y_is_name (as : List Den.D) (st : Sto) : Res Den.D := sealP st.length (X_is_name as st st.length)
def Y_happening (as : List Den.D) (st : Sto) : Res Den.D := sealP st.length (X_happening as st st.length)
def Y__law_cell_at (as : List Den.D) (st : Sto) : Res Den.D := sealP st.length (X__law_cell_at as st st.length)
def Y__law_kinds (as : List Den.D) (st : Sto) : Res Den.D := sealP st.length (X__law_kinds as st st.length)
def Y__law_due (as : List Den.D) (st : Sto) : Res Den.D := sealP st.length (X__law_due as st st.length)
def Y_law (as : List Den.D) (st : Sto) : Res Den.D := sealP st.length (X_law as st st.length)
def Z_World_two_hands (as : List Den.D) (st : Sto) : Res Den.D := sealF st.length (X_World_two_hands as st st.length)
def Z_clock_looked_at (as : List Den.D) (st : Sto) : Res Den.D := sealF st.length (X_clock_looked_at as st st.length)
def Z_way_looked_at (as : List Den.D) (st : Sto) : Res Den.D := sealF st.length (X_way_looked_at as st st.length)
def Z_World___init__ (as : List Den.D) (st : Sto) : Res Den.D := sealF st.length (X_World___init__ as st st.length)
def Z__law_stream (as : List Den.D) (st : Sto) : Res Den.D := sealF st.length (X__law_stream as st st.length)
def Z__law_amount (as : List Den.D) (st : Sto) : Res Den.D := sealF st.length (X__law_amount as st st.length)
def Z__law_ways (as : List Den.D) (st : Sto) : Res Den.D := sealF st.length (X__law_ways as st st.length)
def Z_Happening_own_bounds (as : List Den.D) (st : Sto) : Res Den.D := sealF st.length (X_Happening_own_bounds as st st.length)
def Z_Sight_own_bounds (as : List Den.D) (st : Sto) : Res Den.D := sealF st.length (X_Sight_own_bounds as st st.length)
def Z_World_way (as : List Den.D) (st : Sto) : Res Den.D := sealF st.length (X_World_way as st st.length)
def Z_Take_own_bounds (as : List Den.D) (st : Sto) : Res Den.D := sealF st.length (X_Take_own_bounds as st st.length)
def Z__law_number (as : List Den.D) (st : Sto) : Res Den.D := sealF st.length (X__law_number as st st.length)
def Z__law_row (as : List Den.D) (st : Sto) : Res Den.D := sealF st.length (X__law_row as st st.length)
def Z_Happening___init__ (as : List Den.D) (st : Sto) : Res Den.D := sealF st.length (X_Happening___init__ as st st.length)
def Z_Sight___init__ (as : List Den.D) (st : Sto) : Res Den.D := sealF st.length (X_Sight___init__ as st st.length)
def Z_Send___init__ (as : List Den.D) (st : Sto) : Res Den.D := sealF st.length (X_Send___init__ as st st.length)
def Z_Take___init__ (as : List Den.D) (st : Sto) : Res Den.D := sealF st.length (X_Take___init__ as st st.length)
def Z_is_whole (as : List Den.D) (st : Sto) : Res Den.D := sealF st.length (X_is_whole as st st.length)
def Z_all_whole (as : List Den.D) (st : Sto) : Res Den.D := sealF st.length (X_all_whole as st st.length)
def Z_is_name (as : List Den.D) (st : Sto) : Res Den.D := sealF st.length (X_is_name as st st.length)
def Z_happening (as : List Den.D) (st : Sto) : Res Den.D := sealF st.length (X_happening as st st.length)
def Z__law_cell_at (as : List Den.D) (st : Sto) : Res Den.D := sealF st.length (X__law_cell_at as st st.length)
def Z__law_kinds (as : List Den.D) (st : Sto) : Res Den.D := sealF st.length (X__law_kinds as st st.length)
def Z__law_due (as : List Den.D) (st : Sto) : Res Den.D := sealF st.length (X__law_due as st st.length)
def Z_law (as : List Den.D) (st : Sto) : Res Den.D := sealF st.length (X_law as st st.length)
theorem cs_World___init___clock_looked_at {as : List Den.D} {st : Sto} {bs : Nat} : callM (Ps 3) 1 .pure as st bs = Y_clock_looked_at as st := rfl
theorem cs_World___init___World_two_hands {as : List Den.D} {st : Sto} {bs : Nat} : callM (Ps 3) 0 .pure as st bs = Y_World_two_hands as st := rfl
theorem cs_World___init___way_looked_at {as : List Den.D} {st : Sto} {bs : Nat} : callM (Ps 3) 2 .pure as st bs = Y_way_looked_at as st := rfl
theorem cs__law_ways__law_stream {as : List Den.D} {st : Sto} {bs : Nat} : callM (Ps 6) 4 .pure as st bs = Y__law_stream as st := rfl
theorem cs__law_ways__law_amount {as : List Den.D} {st : Sto} {bs : Nat} : callM (Ps 6) 5 .pure as st bs = Y__law_amount as st := rfl
theorem cs_World_way_World_two_hands {as : List Den.D} {st : Sto} {bs : Nat} : callM (Ps 9) 0 .pure as st bs = Y_World_two_hands as st := rfl
theorem cs_Take_own_bounds_World_way {as : List Den.D} {st : Sto} {bs : Nat} : callM (Ps 10) 9 .pure as st bs = Y_World_way as st := rfl
theorem cs__law_row__law_number {as : List Den.D} {st : Sto} {bs : Nat} : callM (Ps 12) 11 .pure as st bs = Y__law_number as st := rfl
theorem cs_Sight___init___Happening___init__ {as : List Den.D} {st : Sto} {bs : Nat} : callM (Ps 14) 13 .pure as st bs = Y_Happening___init__ as st := rfl
theorem cs_Send___init___Happening___init__ {as : List Den.D} {st : Sto} {bs : Nat} : callM (Ps 15) 13 .pure as st bs = Y_Happening___init__ as st := rfl
theorem cs_Take___init___Happening___init__ {as : List Den.D} {st : Sto} {bs : Nat} : callM (Ps 16) 13 .pure as st bs = Y_Happening___init__ as st := rfl
theorem cs_all_whole_is_whole {as : List Den.D} {st : Sto} {bs : Nat} : callM (Ps 18) 17 .pure as st bs = Y_is_whole as st := rfl
theorem cs_is_name_all_whole {as : List Den.D} {st : Sto} {bs : Nat} : callM (Ps 19) 18 .pure as st bs = Y_all_whole as st := rfl
theorem cs_happening_all_whole {as : List Den.D} {st : Sto} {bs : Nat} : callM (Ps 20) 18 .pure as st bs = Y_all_whole as st := rfl
theorem cs_happening_Happening___init__ {as : List Den.D} {st : Sto} {bs : Nat} : callM (Ps 20) 13 .pure as st bs = Y_Happening___init__ as st := rfl
theorem cs_happening_Sight___init__ {as : List Den.D} {st : Sto} {bs : Nat} : callM (Ps 20) 14 .pure as st bs = Y_Sight___init__ as st := rfl
theorem cs_happening_is_whole {as : List Den.D} {st : Sto} {bs : Nat} : callM (Ps 20) 17 .pure as st bs = Y_is_whole as st := rfl
theorem cs_happening_Send___init__ {as : List Den.D} {st : Sto} {bs : Nat} : callM (Ps 20) 15 .pure as st bs = Y_Send___init__ as st := rfl
theorem cs_happening_is_name {as : List Den.D} {st : Sto} {bs : Nat} : callM (Ps 20) 19 .pure as st bs = Y_is_name as st := rfl
theorem cs_happening_Take___init__ {as : List Den.D} {st : Sto} {bs : Nat} : callM (Ps 20) 16 .pure as st bs = Y_Take___init__ as st := rfl
theorem cr_law__law_cell_at {as : List Den.D} {st : Sto} {bs : Nat} : callM (Ps 24) 21 .fresh as st bs = Z__law_cell_at as st := rfl
theorem cs_law__law_cell_at {as : List Den.D} {st : Sto} {bs : Nat} : callM (Ps 24) 21 .pure as st bs = Y__law_cell_at as st := rfl
theorem cr_law__law_ways {as : List Den.D} {st : Sto} {bs : Nat} : callM (Ps 24) 6 .fresh as st bs = Z__law_ways as st := rfl
theorem cs_law__law_ways {as : List Den.D} {st : Sto} {bs : Nat} : callM (Ps 24) 6 .pure as st bs = Y__law_ways as st := rfl
theorem cr_law_World___init__ {as : List Den.D} {st : Sto} {bs : Nat} : callM (Ps 24) 3 .fresh as st bs = Z_World___init__ as st := rfl
theorem cs_law_World___init__ {as : List Den.D} {st : Sto} {bs : Nat} : callM (Ps 24) 3 .pure as st bs = Y_World___init__ as st := rfl
theorem cr_law__law_row {as : List Den.D} {st : Sto} {bs : Nat} : callM (Ps 24) 12 .fresh as st bs = Z__law_row as st := rfl
theorem cs_law__law_row {as : List Den.D} {st : Sto} {bs : Nat} : callM (Ps 24) 12 .pure as st bs = Y__law_row as st := rfl
theorem cr_law_happening {as : List Den.D} {st : Sto} {bs : Nat} : callM (Ps 24) 20 .fresh as st bs = Z_happening as st := rfl
theorem cs_law_happening {as : List Den.D} {st : Sto} {bs : Nat} : callM (Ps 24) 20 .pure as st bs = Y_happening as st := rfl
theorem cr_law_Take___init__ {as : List Den.D} {st : Sto} {bs : Nat} : callM (Ps 24) 16 .fresh as st bs = Z_Take___init__ as st := rfl
theorem cs_law_Take___init__ {as : List Den.D} {st : Sto} {bs : Nat} : callM (Ps 24) 16 .pure as st bs = Y_Take___init__ as st := rfl
theorem cr_law_Happening_own_bounds {as : List Den.D} {st : Sto} {bs : Nat} : callM (Ps 24) 7 .fresh as st bs = Z_Happening_own_bounds as st := rfl
theorem cs_law_Happening_own_bounds {as : List Den.D} {st : Sto} {bs : Nat} : callM (Ps 24) 7 .pure as st bs = Y_Happening_own_bounds as st := rfl
theorem cr_law_Sight_own_bounds {as : List Den.D} {st : Sto} {bs : Nat} : callM (Ps 24) 8 .fresh as st bs = Z_Sight_own_bounds as st := rfl
theorem cs_law_Sight_own_bounds {as : List Den.D} {st : Sto} {bs : Nat} : callM (Ps 24) 8 .pure as st bs = Y_Sight_own_bounds as st := rfl
theorem cr_law_Take_own_bounds {as : List Den.D} {st : Sto} {bs : Nat} : callM (Ps 24) 10 .fresh as st bs = Z_Take_own_bounds as st := rfl
theorem cs_law_Take_own_bounds {as : List Den.D} {st : Sto} {bs : Nat} : callM (Ps 24) 10 .pure as st bs = Y_Take_own_bounds as st := rfl
theorem cr_law__law_due {as : List Den.D} {st : Sto} {bs : Nat} : callM (Ps 24) 23 .fresh as st bs = Z__law_due as st := rfl
theorem cs_law__law_due {as : List Den.D} {st : Sto} {bs : Nat} : callM (Ps 24) 23 .pure as st bs = Y__law_due as st := rfl
theorem cr_law__law_kinds {as : List Den.D} {st : Sto} {bs : Nat} : callM (Ps 24) 22 .fresh as st bs = Z__law_kinds as st := rfl
theorem cs_law__law_kinds {as : List Den.D} {st : Sto} {bs : Nat} : callM (Ps 24) 22 .pure as st bs = Y__law_kinds as st := rfl
theorem cm_Sight___init___Happening___init__ {as : List Den.D} {st : Sto} {bs : Nat} : callM (Ps 14) 13 .keep as st bs = X_Happening___init__ as st bs := rfl
theorem ck_Sight___init___Happening___init__ {as : List Den.D} {st : Sto} {bs : Nat} : (Ps 14).fns 13 as st bs = X_Happening___init__ as st bs := rfl
theorem cm_Send___init___Happening___init__ {as : List Den.D} {st : Sto} {bs : Nat} : callM (Ps 15) 13 .keep as st bs = X_Happening___init__ as st bs := rfl
theorem ck_Send___init___Happening___init__ {as : List Den.D} {st : Sto} {bs : Nat} : (Ps 15).fns 13 as st bs = X_Happening___init__ as st bs := rfl
theorem cm_Take___init___Happening___init__ {as : List Den.D} {st : Sto} {bs : Nat} : callM (Ps 16) 13 .keep as st bs = X_Happening___init__ as st bs := rfl
theorem ck_Take___init___Happening___init__ {as : List Den.D} {st : Sto} {bs : Nat} : (Ps 16).fns 13 as st bs = X_Happening___init__ as st bs := rfl
theorem cm_happening_Happening___init__ {as : List Den.D} {st : Sto} {bs : Nat} : callM (Ps 20) 13 .keep as st bs = X_Happening___init__ as st bs := rfl
theorem ck_happening_Happening___init__ {as : List Den.D} {st : Sto} {bs : Nat} : (Ps 20).fns 13 as st bs = X_Happening___init__ as st bs := rfl
theorem cm_happening_Sight___init__ {as : List Den.D} {st : Sto} {bs : Nat} : callM (Ps 20) 14 .keep as st bs = X_Sight___init__ as st bs := rfl
theorem ck_happening_Sight___init__ {as : List Den.D} {st : Sto} {bs : Nat} : (Ps 20).fns 14 as st bs = X_Sight___init__ as st bs := rfl
theorem cm_happening_Send___init__ {as : List Den.D} {st : Sto} {bs : Nat} : callM (Ps 20) 15 .keep as st bs = X_Send___init__ as st bs := rfl
theorem ck_happening_Send___init__ {as : List Den.D} {st : Sto} {bs : Nat} : (Ps 20).fns 15 as st bs = X_Send___init__ as st bs := rfl
theorem cm_happening_Take___init__ {as : List Den.D} {st : Sto} {bs : Nat} : callM (Ps 20) 16 .keep as st bs = X_Take___init__ as st bs := rfl
theorem ck_happening_Take___init__ {as : List Den.D} {st : Sto} {bs : Nat} : (Ps 20).fns 16 as st bs = X_Take___init__ as st bs := rfl
theorem cm_law_World___init__ {as : List Den.D} {st : Sto} {bs : Nat} : callM (Ps 24) 3 .keep as st bs = X_World___init__ as st bs := rfl
theorem ck_law_World___init__ {as : List Den.D} {st : Sto} {bs : Nat} : (Ps 24).fns 3 as st bs = X_World___init__ as st bs := rfl
theorem cm_law_Take___init__ {as : List Den.D} {st : Sto} {bs : Nat} : callM (Ps 24) 16 .keep as st bs = X_Take___init__ as st bs := rfl
theorem ck_law_Take___init__ {as : List Den.D} {st : Sto} {bs : Nat} : (Ps 24).fns 16 as st bs = X_Take___init__ as st bs := rfl
theorem xf_0 {i : Nat} : (Ps i).xf 0 = some none := by rfl
theorem xf_1 {i : Nat} : (Ps i).xf 1 = some none := by rfl
theorem xf_2 {i : Nat} : (Ps i).xf 2 = some none := by rfl
theorem xf_3 {i : Nat} : (Ps i).xf 3 = some none := by rfl
theorem cl_0 {i : Nat} : (Ps i).cln 0 = true := by rfl
theorem cl_1 {i : Nat} : (Ps i).cln 1 = true := by rfl
theorem cl_2 {i : Nat} : (Ps i).cln 2 = true := by rfl
theorem cl_3 {i : Nat} : (Ps i).cln 3 = true := by rfl
theorem mt_0_11 {i : Nat} : (Ps i).mt 0 11 = some 7 := by rfl
theorem mt_1_11 {i : Nat} : (Ps i).mt 1 11 = some 7 := by rfl
theorem mt_2_11 {i : Nat} : (Ps i).mt 2 11 = some 8 := by rfl
theorem mt_3_11 {i : Nat} : (Ps i).mt 3 11 = some 7 := by rfl
theorem mt_4_11 {i : Nat} : (Ps i).mt 4 11 = some 10 := by rfl
theorem mt_5_2 {i : Nat} : (Ps i).mt 5 2 = some 0 := by rfl
theorem mt_5_5 {i : Nat} : (Ps i).mt 5 5 = some 9 := by rfl
theorem in_1 {i : Nat} : (Ps i).ini 1 = some 13 := by rfl
theorem in_2 {i : Nat} : (Ps i).ini 2 = some 14 := by rfl
theorem in_3 {i : Nat} : (Ps i).ini 3 = some 15 := by rfl
theorem in_4 {i : Nat} : (Ps i).ini 4 = some 16 := by rfl
theorem in_5 {i : Nat} : (Ps i).ini 5 = some 3 := by rfl
theorem fa_0_6 {i : Nat} : (Ps i).fa 0 6 = true := by rfl
theorem fa_0_8 {i : Nat} : (Ps i).fa 0 8 = true := by rfl
theorem fa_1_6 {i : Nat} : (Ps i).fa 1 6 = true := by rfl
theorem fa_1_8 {i : Nat} : (Ps i).fa 1 8 = true := by rfl
theorem fa_2_3 {i : Nat} : (Ps i).fa 2 3 = true := by rfl
theorem fa_2_4 {i : Nat} : (Ps i).fa 2 4 = true := by rfl
theorem fa_2_6 {i : Nat} : (Ps i).fa 2 6 = true := by rfl
theorem fa_2_8 {i : Nat} : (Ps i).fa 2 8 = true := by rfl
theorem fa_3_6 {i : Nat} : (Ps i).fa 3 6 = true := by rfl
theorem fa_3_8 {i : Nat} : (Ps i).fa 3 8 = true := by rfl
theorem fa_3_10 {i : Nat} : (Ps i).fa 3 10 = true := by rfl
theorem fa_4_6 {i : Nat} : (Ps i).fa 4 6 = true := by rfl
theorem fa_4_7 {i : Nat} : (Ps i).fa 4 7 = true := by rfl
theorem fa_4_8 {i : Nat} : (Ps i).fa 4 8 = true := by rfl
theorem fa_5_0 {i : Nat} : (Ps i).fa 5 0 = true := by rfl
theorem fa_5_1 {i : Nat} : (Ps i).fa 5 1 = true := by rfl
theorem gv_0 {i : Nat} : (Ps i).gv 0 = some (.int (6)) := by rfl
theorem gv_1 {i : Nat} : (Ps i).gv 1 = some (.tup [.int (-1), .int (0)]) := by rfl
theorem cf_0 {pg : Pg} {bs : Nat} {ρ : DEnv} {st : Sto} : evE pg bs (.bin .pow (.cst (.int 10)) (.cst (.int 21))) ρ st = .ok (.int (1000000000000000000000)) st := by kernel_rfl
theorem cf_1 {pg : Pg} {bs : Nat} {ρ : DEnv} {st : Sto} : evE pg bs (.bin .add (.bin .pow (.cst (.int 10)) (.cst (.int 21))) (.cst (.int 7))) ρ st = .ok (.int (1000000000000000000007)) st := by kernel_rfl
theorem cf_2 {pg : Pg} {bs : Nat} {ρ : DEnv} {st : Sto} : evE pg bs (.bin .pow (.cst (.int 10)) (.cst (.int 60))) ρ st = .ok (.int (1000000000000000000000000000000000000000000000000000000000000)) st := by kernel_rfl
theorem cf_3 {pg : Pg} {bs : Nat} {ρ : DEnv} {st : Sto} : evE pg bs (.bin .mul (.cst (.int 2)) (.bin .pow (.cst (.int 10)) (.cst (.int 60)))) ρ st = .ok (.int (2000000000000000000000000000000000000000000000000000000000000)) st := by kernel_rfl
theorem cf_4 {pg : Pg} {bs : Nat} {ρ : DEnv} {st : Sto} : evE pg bs (.bin .add (.bin .mul (.cst (.int 2)) (.bin .pow (.cst (.int 10)) (.cst (.int 60)))) (.cst (.int 1))) ρ st = .ok (.int (2000000000000000000000000000000000000000000000000000000000001)) st := by kernel_rfl
theorem cf_5 {pg : Pg} {bs : Nat} {ρ : DEnv} {st : Sto} : evE pg bs (.un .neg (.cst (.int 1))) ρ st = .ok (.int (-1)) st := by kernel_rfl
theorem dv_3 : divOk 3 = true := by decide +kernel
theorem dv_4 : divOk 4 = true := by decide +kernel
theorem dv_5 : divOk 5 = true := by decide +kernel
theorem dv_7 : divOk 7 = true := by decide +kernel
theorem dv_8 : divOk 8 = true := by decide +kernel
theorem dv_11 : divOk 11 = true := by decide +kernel
theorem dv_16 : divOk 16 = true := by decide +kernel
theorem dv_24 : divOk 24 = true := by decide +kernel
theorem dv_35 : divOk 35 = true := by decide +kernel
theorem dv_100 : divOk 100 = true := by decide +kernel
theorem dv_120 : divOk 120 = true := by decide +kernel
theorem dv_240 : divOk 240 = true := by decide +kernel
theorem sh_0 : SeqAt.shaped (.str "look") = true := by decide +kernel
theorem se_0_1 : ((("look" : PySem.Str)) == ("sight" : PySem.Str)) = false := by decide +kernel
theorem se_0_2 : ((("look" : PySem.Str)) == ("send" : PySem.Str)) = false := by decide +kernel
theorem se_0_3 : ((("look" : PySem.Str)) == ("take" : PySem.Str)) = false := by decide +kernel
theorem sh_1 : SeqAt.shaped (.str "sight") = true := by decide +kernel
theorem se_1_0 : ((("sight" : PySem.Str)) == ("look" : PySem.Str)) = false := by decide +kernel
theorem se_1_2 : ((("sight" : PySem.Str)) == ("send" : PySem.Str)) = false := by decide +kernel
theorem se_1_3 : ((("sight" : PySem.Str)) == ("take" : PySem.Str)) = false := by decide +kernel
theorem sh_2 : SeqAt.shaped (.str "send") = true := by decide +kernel
theorem se_2_0 : ((("send" : PySem.Str)) == ("look" : PySem.Str)) = false := by decide +kernel
theorem se_2_1 : ((("send" : PySem.Str)) == ("sight" : PySem.Str)) = false := by decide +kernel
theorem se_2_3 : ((("send" : PySem.Str)) == ("take" : PySem.Str)) = false := by decide +kernel
theorem sh_3 : SeqAt.shaped (.str "take") = true := by decide +kernel
theorem se_3_0 : ((("take" : PySem.Str)) == ("look" : PySem.Str)) = false := by decide +kernel
theorem se_3_1 : ((("take" : PySem.Str)) == ("sight" : PySem.Str)) = false := by decide +kernel
theorem se_3_2 : ((("take" : PySem.Str)) == ("send" : PySem.Str)) = false := by decide +kernel
theorem run_law : run td.cl (td.fs.map FI.fn) 24 = X_law := run_eq (cl := td.cl) (f := f_law) (fs := td.fs.drop 1)
open PySem.W
local macro_rules | `(tactic| walk_at "den") => `(tactic| try simp -implicitDefEqProofs only [FI.fn, x_cst, x_and, x_or, x_and0, x_or0, x_revl, x_nil, x_o0, y_skip, y_retN, y_whl, y_brk, y_cnt, y_try, tryE_nx, tryE_rt, tryE_exc, h_skip, gone_nx, gone_rt, o_add, o_sub, o_mul, o_fdiv, o_mod, o_pow, o_neg, c_lt, c_le, c_gt, c_ge, c_isN, c_notN, c_eqI, c_neI, c_eqB, c_neB, o_addL, k_tup, k_lst, ix0, ix1, ix2, ix3, ix4, itl, itt, lk_nil, un_nx, un_rt, un_exc, for_nil, n_non, n_int, n_bl, n_str, n_tup, n_lst, n_loc, r_ite, r_iteN, lc_nil, lc_Ff, lc_Ft, wp_nil, wp_cons, c_isB, c_notB, p_abs, p_len_lst, p_len_scr, p_len_tup, p_max2, p_min2, i_non_bool, i_non_int, i_non_str, i_non_tuple, i_non_list, i_non_dict, i_bl_bool, i_bl_int, i_bl_str, i_bl_tuple, i_bl_list, i_bl_dict, i_int_bool, i_int_int, i_int_str, i_int_tuple, i_int_list, i_int_dict, i_str_bool, i_str_int, i_str_str, i_str_tuple, i_str_list, i_str_dict, i_tup_bool, i_tup_int, i_tup_str, i_tup_tuple, i_tup_list, i_tup_dict, i_lst_bool, i_lst_int, i_lst_str, i_lst_tuple, i_lst_list, i_lst_dict, List.length_cons, List.length_nil, List.length_map, List.map_cons, List.map_nil, List.cons_append, List.nil_append, List.replicate_zero, List.replicate_succ, List.getElem?_cons_zero, List.getElem?_cons_succ, List.set_cons_zero, List.set_cons_succ, asgT, asgTs, Option.bind_some, Nat.zero_add, Nat.reduceAdd, Nat.reduceSub, ↓reduceIte, if_true, if_false, decide_eq_true_eq, Nat.reduceLT, Int.reduceLT, Nat.reduceEqDiff, Bool.false_eq_true, Bool.not_true, Bool.not_false, Bool.and_true, Bool.true_and, Bool.and_false, Bool.false_and, Bool.or_true, Bool.true_or, Bool.or_false, Bool.false_or, decide_true, decide_false, Int.cast_ofNat_Int, Int.reduceEq, x_own, own_ok, y_kill, y_frz, sl_cl, sl_x0, sl_x1, sl_a, g_app, g_app0, s_app, s_app0, len_app, lk_app, lk_app0, lko_app, lko_app0, fit_o, fit_o0, cl_non, cl_bl, cl_int, cl_str, cl_scr, cl_tup, cl_lst, cl_ins, cl_nil, cl_cons, cl_fnil, cl_fcons, List.append_assoc, List.set_cons_zero, List.set_cons_succ, Nat.add_zero, Nat.reduceLeDiff, LIM, bind_ok, beq_self_eq_true, bmT_eq, bmC_l, bmC_k, bmC_t, bmC_s, lstM, dicM, strM, lm_append, lm_clear, lm_reverse, lm_append_o, lm_clear_o, lm_reverse_o, it_enum_l, ix5, ix6, ix7, ix8, ix9, ix10, ix11, it_seq_l, it_seq_s, slc_scr, mx_0, mx_1, mx_2t, mx_2f, si_eq, si_l, fd_eq, fd_i, cs_eq, cs_i, sf_eq, sf_i, pu_nil, pu_cons, mk_keep, mkK_o, nonL_o, nonL_x, ixm2, ixm3, ixm4, ixm5, ixm6, ixm7, ixm8, ixm9, ixm10, ixm11, ixm12, p_dm, isi_loc, isC_ll, isC_lt, isC_ld, isC_ls, isC_kd, p_lst_l, p_lst_t, p_tup_l, p_lst_loc, it_loc, itO_l, lk_1, un_1, un1_o, lcF_1, lcG_f, lcG_t, un_n1, un_r1, slc_l, slc_loc, slO_l, dn_tf, dn_tt, dn_ff, dn_ft, it_zip, it_rev, iso_i, iso_loc, isoC_i, dsp_i1, it_keys_K, it_keys_T, it_items_K, it_items_T, it_keys_loc, it_items_loc, itQ_kK, itQ_kT, itQ_iK, itQ_iT, dicW, im_loc, im_mu, si_k, si_t, lk_K, lk_T, lk_l, lk_t, lk_s, lk_i, dl_k, dl_s, dl_t, ix_k, ix_ks, ix_t, dp_k, dp_s, dp_t, dd_k, dd_t, ds_k, ds_t, ci_loc, ni_loc, io_K, io_T, ci_K, ni_K, ci_T, ni_T, dlO_o, gtR_o, lm_get1, lm_get2, sdP_o, sdP_if, sdP_n, sdQ_s, sdQ_n, sdR_o, lm_setdef, poQ_s, poR_o, lm_dpop1, ixR_o, plO_o, lm_index, rmR_o, lm_remove, lm_insert, p_len_o, ln_l, ln_K, ln_T, p_len_K, p_len_T, Option.map_some, Option.isSome_some, Option.isSome_none, Option.getD_some, Option.getD_none, Nat.le_add_right, idx_loc, idxO_l, idxO_K, idxO_T, mk_pure, mkP_o, sl_ap, sl_apx, sl_apx1, sl_x2, List.take_succ_cons, List.take_zero, List.take_nil, List.lookup_cons, List.lookup_nil, Nat.reduceBEq, Option.isNone_none, Option.isNone_some, and_true, true_and, and_self, kUn_o0, kUn_o1, kUn_if, z_un, kBin2_o0, kBin2_o1, kBin2_if, kBin1_o0, kBin1_o1, kBin1_if, z_bin, kCmp2_o0, kCmp2_o1, kCmp2_if, kCmp1_o0, kCmp1_o1, kCmp1_if, z_cmp, kChn3_b, kChn3_x, kChn3_if, kChn2_o0, kChn2_o1, kChn2_if, kChn1_o0, kChn1_o1, kChn1_if, z_chn, kNot_o0, kNot_o1, kNot_if, z_not, kAnd_b, kAnd_x, kAnd_if, z_andc, kOr_b, kOr_x, kOr_if, z_orc, kIfe_b, kIfe_x, kIfe_if, z_ife, kTup_o0, kTup_o1, kTup_if, z_tup, kLst_o0, kLst_o1, kLst_if, z_lst, kIdx2_o0, kIdx2_o1, kIdx2_if, kIdx1_o0, kIdx1_o1, kIdx1_if, z_idx, kSlc3_o0, kSlc3_o1, kSlc3_if, kSlc2_o0, kSlc2_o1, kSlc2_if, kSlc1_o0, kSlc1_o1, kSlc1_if, z_slc, kFld_o0, kFld_o1, kFld_if, z_fld, kCall_o0, kCall_o1, kCall_if, z_call, kMeth2_o0, kMeth2_o1, kMeth2_if, kMeth1_o0, kMeth1_o1, kMeth1_if, z_meth, kMake_o0, kMake_o1, kMake_if, z_make, kPr_o0, kPr_o1, kPr_if, z_pr, kIso_o0, kIso_o1, kIso_if, z_iso, kDsp_o0, kDsp_o1, kDsp_if, z_ddsp, kIx2_o0, kIx2_o1, kIx2_if, kIx1_o0, kIx1_o1, kIx1_if, z_idxx, kMx2_o0, kMx2_o1, kMx2_if, kMx1_o0, kMx1_o1, kMx1_if, z_mxd, kBm2_o0, kBm2_o1, kBm2_if, kBm1_o0, kBm1_o1, kBm1_if, z_bm, kIsi_o0, kIsi_o1, kIsi_if, z_isi, kA2_o0, kA2_o1, kA2_if, kA1_o0, kA1_o1, kA1_if, z_cons, kO_o0, kO_o1, kO_if, z_o1, getV_o, z_var, getG_o, z_gl, isxV_o, blO_o, z_isx, w_rais, xfO_o, w_raisA, z_fldx, kRais_o, kRais_x, kRais_if, xfA_o, fxV_o, fxO_o, w_exc, hO_t, hO_n, hO_f, w_excR, hR_t, hR_f, gR_x, gR_nx, gR_rt, gR_bk, gR_ct, gR_if, gn_nil, gn_v, gn_n, gn_x, gn_s, c_eqT, c_neT, kLc_o0, kLc_o1, kLc_if, z_lc, kLcE_s, kLcE_n, kLcE_if, z_lcc, kLcS_o, kLcT_b, kLcT_x, kLcT_if, z_lcB, kSeq_o0, kSeq_o1, kSeq_o2, kSeq_o3, kSeq_o4, kSeq_if, w_seq, kExpr_o0, kExpr_o1, kExpr_if, w_expr, nxO_o, kAsg_o0, kAsg_o1, kAsg_if, w_asg, stO_o, kSetf2_o0, kSetf2_o1, kSetf2_if, kSetf1_o0, kSetf1_o1, kSetf1_if, w_setf, kSeti3_o0, kSeti3_o1, kSeti3_if, kSeti2_o0, kSeti2_o1, kSeti2_if, kSeti1_o0, kSeti1_o1, kSeti1_if, w_seti, agF_o, kAgi4_o0, kAgi4_o1, kAgi4_if, kAgi3_o0, kAgi3_o1, kAgi3_if, kAgi2_o0, kAgi2_o1, kAgi2_if, kAgi1_o0, kAgi1_o1, kAgi1_if, w_augi, ixL_loc, augP_o, kAug_o0, kAug_o1, kAug_if, augV_o, w_aug, kRet_o0, kRet_o1, kRet_if, w_ret, kIfS_b, kIfS_x, kIfS_if, w_ife, kFor_o0, kFor_o1, kFor_if, w_for, kFork_0, kFork_1, kFork_2, kFork_3, kFork_4, kFork_if, w_forc, w_forB, un_if, gone_if, tryE_if, endF_n, endF_r, endF_x, endF_if, w_run, seal_if, cs_World___init___clock_looked_at, cs_World___init___World_two_hands, cs_World___init___way_looked_at, cs__law_ways__law_stream, cs__law_ways__law_amount, cs_World_way_World_two_hands, cs_Take_own_bounds_World_way, cs__law_row__law_number, cs_Sight___init___Happening___init__, cs_Send___init___Happening___init__, cs_Take___init___Happening___init__, cs_all_whole_is_whole, cs_is_name_all_whole, cs_happening_all_whole, cs_happening_Happening___init__, cs_happening_Sight___init__, cs_happening_is_whole, cs_happening_Send___init__, cs_happening_is_name, cs_happening_Take___init__, cr_law__law_cell_at, cs_law__law_cell_at, cr_law__law_ways, cs_law__law_ways, cr_law_World___init__, cs_law_World___init__, cr_law__law_row, cs_law__law_row, cr_law_happening, cs_law_happening, cr_law_Take___init__, cs_law_Take___init__, cr_law_Happening_own_bounds, cs_law_Happening_own_bounds, cr_law_Sight_own_bounds, cs_law_Sight_own_bounds, cr_law_Take_own_bounds, cs_law_Take_own_bounds, cr_law__law_due, cs_law__law_due, cr_law__law_kinds, cs_law__law_kinds, ck_Sight___init___Happening___init__, cm_Sight___init___Happening___init__, ck_Send___init___Happening___init__, cm_Send___init___Happening___init__, ck_Take___init___Happening___init__, cm_Take___init___Happening___init__, ck_happening_Happening___init__, cm_happening_Happening___init__, ck_happening_Sight___init__, cm_happening_Sight___init__, ck_happening_Send___init__, cm_happening_Send___init__, ck_happening_Take___init__, cm_happening_Take___init__, ck_law_World___init__, cm_law_World___init__, ck_law_Take___init__, cm_law_Take___init__, xf_0, xf_1, xf_2, xf_3, cl_0, cl_1, cl_2, cl_3, mt_0_11, mt_1_11, mt_2_11, mt_3_11, mt_4_11, mt_5_2, mt_5_5, in_1, in_2, in_3, in_4, in_5, fa_0_6, fa_0_8, fa_1_6, fa_1_8, fa_2_3, fa_2_4, fa_2_6, fa_2_8, fa_3_6, fa_3_8, fa_3_10, fa_4_6, fa_4_7, fa_4_8, fa_5_0, fa_5_1, gv_0, gv_1, ↓cf_0, ↓cf_1, ↓cf_2, ↓cf_3, ↓cf_4, ↓cf_5, dv_3, dv_4, dv_5, dv_7, dv_8, dv_11, dv_16, dv_24, dv_35, dv_100, dv_120, dv_240, sh_0, se_0_1, se_0_2, se_0_3, sh_1, se_1_0, se_1_2, se_1_3, sh_2, se_2_0, se_2_1, se_2_3, sh_3, se_3_0, se_3_1, se_3_2, a_clocks, a_bonds, a_two_hands, a_early, a_late, a_way, a_hand, a_letter, a_reading, a___init__, a_to, a_own_bounds, c_Happening, c_Look, c_Sight, c_Send, c_Take, c_World, x_NoHand, x_NoClock, x_NoWay, x_NoHappening, *])
local macro_rules | `(tactic| walk_at "auto") => `(tactic| (walk_at "den" <;> (repeat' (first | rfl | (split <;> walk_at "den") | (exfalso; omega)))))
/-- a row of a log -/
inductive Rw where
  | look (h r : Int) | sight (h r e l : Int) | send (h r t : Int) | take (h r a b : Int)
  deriving DecidableEq
def Rw.hand : Rw → Int
  | .look h _ => h | .sight h _ _ _ => h | .send h _ _ => h | .take h _ _ _ => h
def Rw.read : Rw → Int
  | .look _ r => r | .sight _ r _ _ => r | .send _ r _ => r | .take _ r _ _ => r
def Rw.word : Rw → PySem.Str
  | .look _ _ => "look" | .sight _ _ _ _ => "sight" | .send _ _ _ => "send" | .take _ _ _ _ => "take"
def Rw.d : Rw → Den.D
  | .look h r => .tup [.str "look", .int h, .int r]
  | .sight h r e l => .tup [.str "sight", .int h, .int r, .int e, .int l]
  | .send h r t => .tup [.str "send", .int h, .int r, .int t]
  | .take h r a b => .tup [.str "take", .int h, .int r, .tup [.int a, .int b]]
theorem rw0 {w : Rw} {st : Sto} : idxD w.d (.int 0) st = .ok (.str w.word) st := by cases w <;> rfl
theorem rw1 {w : Rw} {st : Sto} : idxD w.d (.int 1) st = .ok (.int w.hand) st := by cases w <;> rfl
theorem rw2 {w : Rw} {st : Sto} : idxD w.d (.int 2) st = .ok (.int w.read) st := by cases w <;> rfl
theorem rwc {w : Rw} : closed 0 w.d = true := by cases w <;> rfl
theorem rwcn {w : Rw} {n : Nat} : closed n w.d = true := closed0 rwc
def prD (p : Int × Int) : Den.D := .tup [.int p.1, .int p.2]
theorem cl_map {α : Type} {n : Nat} (f : α → Den.D) (h : ∀ a, closed n (f a) = true) : ∀ l : List α, closedL n (l.map f) = true
  | [] => rfl
  | a :: l => by rw [List.map_cons]; exact Bool.and_eq_true_iff.mpr ⟨h a, cl_map f h l⟩
theorem cl_rows {n : Nat} {l : List Rw} : closed n (.lst (l.map Rw.d)) = true := cl_map _ (fun _ => rwcn) l
theorem cl_names {n : Nat} {l : List (Int × Int)} : closed n (.lst (l.map prD)) = true := cl_map _ (fun _ => rfl) l
theorem cl_ints {n : Nat} {l : List Int} : closed n (.lst (l.map D.int)) = true := cl_map _ (fun _ => rfl) l
theorem rw3s {h r t : Int} {st : Sto} : idxD (Rw.send h r t).d (.int 3) st = .ok (.int t) st := rfl
theorem rw3t {h r a b : Int} {st : Sto} : idxD (Rw.take h r a b).d (.int 3) st = .ok (.tup [.int a, .int b]) st := rfl
theorem rw3i {h r e l : Int} {st : Sto} : idxD (Rw.sight h r e l).d (.int 3) st = .ok (.int e) st := rfl
theorem rw4i {h r e l : Int} {st : Sto} : idxD (Rw.sight h r e l).d (.int 4) st = .ok (.int l) st := rfl
/-- rows are equal as they are -/
def Rw.q : Rw → PyData
  | .look h r => .tuple [.str "look", .int h, .int r]
  | .sight h r e l => .tuple [.str "sight", .int h, .int r, .int e, .int l]
  | .send h r t => .tuple [.str "send", .int h, .int r, .int t]
  | .take h r a b => .tuple [.str "take", .int h, .int r, .tuple [.int a, .int b]]
theorem rq_lay : (PyData.str "look").canLay0 = true ∧ (PyData.str "sight").canLay0 = true ∧ (PyData.str "send").canLay0 = true ∧ (PyData.str "take").canLay0 = true := by decide +kernel
theorem rq_ne1 : (("look" : PySem.Str) == "sight") = false ∧ (("look" : PySem.Str) == "send") = false ∧ (("look" : PySem.Str) == "take") = false ∧ (("sight" : PySem.Str) == "look") = false ∧ (("sight" : PySem.Str) == "send") = false ∧ (("sight" : PySem.Str) == "take") = false := by decide +kernel
theorem rq_ne2 : (("send" : PySem.Str) == "look") = false ∧ (("send" : PySem.Str) == "sight") = false ∧ (("send" : PySem.Str) == "take") = false ∧ (("take" : PySem.Str) == "look") = false ∧ (("take" : PySem.Str) == "sight") = false ∧ (("take" : PySem.Str) == "send") = false := by decide +kernel
def encRw : Enc Rw.d 2 where
  q := Rw.q
  to := fun w => by cases w <;> rfl
  lay := fun w => by
    obtain ⟨h1, h2, h3, h4⟩ := rq_lay
    cases w <;> simp [Rw.q, PyData.canLay0, PyData.canLayAll0] at * <;> assumption
  dep := fun w => by cases w <;> simp [Rw.q, PyData.depth, PyData.depthAll]
  eq := fun a b => by
    obtain ⟨a1, a2, a3, a4, a5, a6⟩ := rq_ne1
    obtain ⟨b1, b2, b3, b4, b5, b6⟩ := rq_ne2
    cases a <;> cases b <;> simp [Rw.q, PyData.eqv, PyData.eqvAll, Bool.beq_eq_decide_eq, Bool.decide_and, *] at *
theorem isi_rw {w : Rw} {st : Sto} : isiD st w.d (.ty .tuple) = some true := by cases w <;> rfl
/-- a way between two hands -/
structure Wy where
  one : Int
  other : Int
  least : Int
  most : Option Int
def Wy.b (w : Wy) : Den.D := .tup [.int w.least, ov w.most]
def Wy.d (w : Wy) : Den.D := .tup [.int w.one, .int w.other, .int w.least, ov w.most]
inductive Flt where
  | hand | clock | way
  deriving DecidableEq
def ckBad (p : Int × Int) : Bool := decide (p.1 < 1 ∨ p.2 < p.1)
def ckF (_ : List (Int × Int)) (p : Int × Int) : Option Flt := if p.1 < 1 ∨ p.2 < p.1 then some .clock else none
/-- is this way told already? -/
def told (ws : List Wy) (h o : Int) : Prop := ∃ w ∈ ws, w.one = h ∧ w.other = o
instance {ws : List Wy} {h o : Int} : Decidable (told ws h o) := inferInstanceAs (Decidable (∃ w ∈ ws, _))
def most_bad (w : Wy) : Prop := match w.most with
  | some m => m < w.least
  | none => False
instance {w : Wy} : Decidable (most_bad w) := by unfold most_bad; split <;> infer_instance
def hnBad (k a b : Int) : Prop := ¬ (0 ≤ a ∧ a < k) ∨ ¬ (0 ≤ b ∧ b < k) ∨ a = b
instance {k a b : Int} : Decidable (hnBad k a b) := by unfold hnBad; infer_instance
def wyF (k : Int) (pre : List Wy) (w : Wy) : Option Flt :=
  if hnBad k w.one w.other then some .hand
  else if told pre w.one w.other then some .way
  else if w.least < 0 ∨ most_bad w then some .way else none
def worldF (cs : List (Int × Int)) (ws : List Wy) : Option Flt :=
  if cs.length < 1 ∨ 6 < cs.length then some .hand
  else match flts ckF [] cs with
    | some c => some c
    | none => flts (wyF cs.length) [] ws
/-- a hand's ways, as its dict has them -/
def inn (ws : List Wy) (h : Int) : List (Key × Den.D) := (ws.filter fun w => decide (w.one = h)).map fun w => (.inl w.other, w.b)
theorem inn_snoc {ws : List Wy} {w : Wy} {h : Int} : inn (ws ++ [w]) h = if w.one = h then inn ws h ++ [(.inl w.other, w.b)] else inn ws h := by
  unfold inn
  by_cases q : w.one = h <;> simp [q]
theorem inn_get {ws : List Wy} {h o : Int} : dget (inn ws h) (.inl o) = (ws.find? fun w => decide (w.one = h ∧ w.other = o)).map Wy.b := by
  unfold inn dget
  induction ws with
  | nil => rfl
  | cons w ws ih =>
    by_cases q : w.one = h
    · by_cases r : w.other = o
      · simp [q, r]
      · have r' : ¬ (Sum.inl w.other : Key) = .inl o := fun z => r (Sum.inl.inj z)
        simp [q, r] at ih ⊢
        exact ih
    · simp [q] at ih ⊢
      exact ih
theorem inn_told {ws : List Wy} {h o : Int} : (dget (inn ws h) (.inl o)).isSome = decide (told ws h o) := by
  rw [inn_get, Option.isSome_map]
  unfold told
  rw [Bool.eq_iff_iff]
  simp
  exact (@decide_eq_true_iff _ _).symm
theorem inn_cl {n : Nat} {ws : List Wy} {h : Int} : closed n (.dK (inn ws h)) = true := by
  show closedK n ((ws.filter fun w => decide (w.one = h)).map fun w => (.inl w.other, w.b)) = true
  generalize ws.filter (fun w => decide (w.one = h)) = l
  induction l with
  | nil => rfl
  | cons w l ih =>
    rw [List.map_cons]
    unfold closedK
    rw [ih]
    obtain ⟨a, b, c, d⟩ := w
    cases d <;> rfl
/-- the dict of all hands' ways: by places of the store -/
def outer (n k : Nat) : List (Key × Den.D) := (List.range k).map fun i : Nat => (.inl (i : Int), .loc (n + (3 + i)))
theorem outer_get {n k : Nat} {a : Int} (h0 : 0 ≤ a) (h1 : a < k) : dget (outer n k) (.inl a) = some (.loc (n + (3 + a.toNat))) := by
  obtain ⟨i, rfl⟩ : ∃ i : Nat, (i : Int) = a := ⟨a.toNat, by omega⟩
  rw [Int.toNat_natCast]
  unfold outer dget
  have hi : i < k := by omega
  clear h0 h1
  rw [List.find?_map]
  have : (List.range k).find? ((fun kv : Key × Den.D => decide (kv.1 = .inl (i : Int))) ∘ fun j : Nat => (.inl (j : Int), .loc (n + (3 + j)))) = some i := by
    have e : ((fun kv : Key × Den.D => decide (kv.1 = .inl (i : Int))) ∘ fun j : Nat => ((.inl (j : Int), .loc (n + (3 + j))) : Key × Den.D)) = fun j => decide (j = i) := by
      funext j
      simp only [Function.comp, Sum.inl.injEq, Int.natCast_inj]
    rw [e]
    rw [List.find?_eq_some_iff_append]
    refine ⟨by simp, List.range i, (List.range (k - i - 1)).map (fun j => i + 1 + j), ?_, ?_⟩
    · apply List.ext_getElem
      · simp; omega
      · intro j h1 h2
        rw [List.getElem_range, List.getElem_append]
        have hl : (List.range i).length = i := List.length_range
        split
        · simp
        · rename_i g
          rw [List.getElem_cons]
          split
          · omega
          · simp only [List.getElem_map, List.getElem_range]; omega
    · intro j hj
      have := List.mem_range.mp hj
      simp; omega
  rw [this]; rfl
theorem outer_none {n k : Nat} : dget (outer n k) (.inl (k : Int)) = none := by
  unfold outer dget
  rw [List.find?_map]
  rw [List.find?_eq_none.mpr]
  · rfl
  · intro j hj
    have := List.mem_range.mp hj
    simp only [Function.comp, Sum.inl.injEq, Int.natCast_inj, decide_eq_true_eq]
    omega
theorem outer_snoc {n k : Nat} : outer n k ++ [(.inl (k : Int), .loc (n + (3 + k)))] = outer n (k + 1) := by
  unfold outer
  rw [List.range_succ, List.map_append]; rfl
theorem outer_put {n k : Nat} : dput (outer n k) (.inl (k : Int)) (.loc (n + (3 + k))) = outer n (k + 1) := by
  rw [dput_new outer_none, outer_snoc]
theorem outer_len {n k : Nat} : (outer n k).length = k := by simp [outer]
/-- ways as data -/
def Wy.q (w : Wy) : PyData := .tuple [.int w.one, .int w.other, .int w.least, match w.most with
  | some i => .int i
  | none => .none]
instance : DecidableEq Wy := fun a b => by
  obtain ⟨a1, a2, a3, a4⟩ := a
  obtain ⟨b1, b2, b3, b4⟩ := b
  by_cases h : (a1 = b1 ∧ a2 = b2) ∧ a3 = b3 ∧ a4 = b4
  · exact isTrue (by obtain ⟨⟨rfl, rfl⟩, rfl, rfl⟩ := h; rfl)
  · exact isFalse (fun z => h (by cases z; exact ⟨⟨rfl, rfl⟩, rfl, rfl⟩))
def encWy : Enc Wy.d 1 where
  q := Wy.q
  to := fun w => by obtain ⟨a, b, c, d⟩ := w; cases d <;> rfl
  lay := fun w => by obtain ⟨a, b, c, d⟩ := w; cases d <;> simp [Wy.q, PyData.canLay0, PyData.canLayAll0] at *
  dep := fun w => by obtain ⟨a, b, c, d⟩ := w; cases d <;> simp [Wy.q, PyData.depth, PyData.depthAll]
  eq := fun a b => by
    obtain ⟨a1, a2, a3, d⟩ := a
    obtain ⟨b1, b2, b3, w⟩ := b
    cases d <;> cases w <;> simp [Wy.q, PyData.eqv, PyData.eqvAll, Bool.beq_eq_decide_eq, Bool.decide_and, *] at *
theorem wy_cl {n : Nat} (w : Wy) : closed n w.d = true := by obtain ⟨a, b, c, d⟩ := w; cases d <;> rfl
theorem cl_ways {n : Nat} {l : List Wy} : closed n (.lst (l.map Wy.d)) = true := cl_map _ (fun w => wy_cl w) l
def Flt.x : Flt → Nat
  | .hand => x_NoHand
  | .clock => x_NoClock
  | .way => x_NoWay
theorem y_clock_looked_at (p : Int × Int) (st : Sto) : Y_clock_looked_at [.int p.1, .int p.2] st = if p.1 < 1 ∨ p.2 < p.1 then .exc x_NoClock [] st else .ok .non st := by
  unfold Y_clock_looked_at X_clock_looked_at f_clock_looked_at s_clock_looked_at
  walk_at "auto"
theorem y_way_looked_at (w : Wy) (st : Sto) : Y_way_looked_at [.int w.least, ov w.most] st = if w.least < 0 ∨ most_bad w then .exc x_NoWay [] st else .ok .non st := by
  obtain ⟨a, b, c, d⟩ := w
  unfold Y_way_looked_at X_way_looked_at f_way_looked_at s_way_looked_at
  cases d <;> simp only [ov, most_bad] <;> walk_at "auto"
local macro_rules | `(tactic| walk_at "den") => `(tactic| try simp -implicitDefEqProofs only [FI.fn, x_cst, x_and, x_or, x_and0, x_or0, x_revl, x_nil, x_o0, y_skip, y_retN, y_whl, y_brk, y_cnt, y_try, tryE_nx, tryE_rt, tryE_exc, h_skip, gone_nx, gone_rt, o_add, o_sub, o_mul, o_fdiv, o_mod, o_pow, o_neg, c_lt, c_le, c_gt, c_ge, c_isN, c_notN, c_eqI, c_neI, c_eqB, c_neB, o_addL, k_tup, k_lst, ix0, ix1, ix2, ix3, ix4, itl, itt, lk_nil, un_nx, un_rt, un_exc, for_nil, n_non, n_int, n_bl, n_str, n_tup, n_lst, n_loc, r_ite, r_iteN, lc_nil, lc_Ff, lc_Ft, wp_nil, wp_cons, c_isB, c_notB, p_abs, p_len_lst, p_len_scr, p_len_tup, p_max2, p_min2, i_non_bool, i_non_int, i_non_str, i_non_tuple, i_non_list, i_non_dict, i_bl_bool, i_bl_int, i_bl_str, i_bl_tuple, i_bl_list, i_bl_dict, i_int_bool, i_int_int, i_int_str, i_int_tuple, i_int_list, i_int_dict, i_str_bool, i_str_int, i_str_str, i_str_tuple, i_str_list, i_str_dict, i_tup_bool, i_tup_int, i_tup_str, i_tup_tuple, i_tup_list, i_tup_dict, i_lst_bool, i_lst_int, i_lst_str, i_lst_tuple, i_lst_list, i_lst_dict, List.length_cons, List.length_nil, List.length_map, List.map_cons, List.map_nil, List.cons_append, List.nil_append, List.replicate_zero, List.replicate_succ, List.getElem?_cons_zero, List.getElem?_cons_succ, List.set_cons_zero, List.set_cons_succ, asgT, asgTs, Option.bind_some, Nat.zero_add, Nat.reduceAdd, Nat.reduceSub, ↓reduceIte, if_true, if_false, decide_eq_true_eq, Nat.reduceLT, Int.reduceLT, Nat.reduceEqDiff, Bool.false_eq_true, Bool.not_true, Bool.not_false, Bool.and_true, Bool.true_and, Bool.and_false, Bool.false_and, Bool.or_true, Bool.true_or, Bool.or_false, Bool.false_or, decide_true, decide_false, Int.cast_ofNat_Int, Int.reduceEq, x_own, own_ok, y_kill, y_frz, sl_cl, sl_x0, sl_x1, sl_a, g_app, g_app0, s_app, s_app0, len_app, lk_app, lk_app0, lko_app, lko_app0, fit_o, fit_o0, cl_non, cl_bl, cl_int, cl_str, cl_scr, cl_tup, cl_lst, cl_ins, cl_nil, cl_cons, cl_fnil, cl_fcons, List.append_assoc, List.set_cons_zero, List.set_cons_succ, Nat.add_zero, Nat.reduceLeDiff, LIM, bind_ok, beq_self_eq_true, bmT_eq, bmC_l, bmC_k, bmC_t, bmC_s, lstM, dicM, strM, lm_append, lm_clear, lm_reverse, lm_append_o, lm_clear_o, lm_reverse_o, it_enum_l, ix5, ix6, ix7, ix8, ix9, ix10, ix11, it_seq_l, it_seq_s, slc_scr, mx_0, mx_1, mx_2t, mx_2f, si_eq, si_l, fd_eq, fd_i, cs_eq, cs_i, sf_eq, sf_i, pu_nil, pu_cons, mk_keep, mkK_o, nonL_o, nonL_x, ixm2, ixm3, ixm4, ixm5, ixm6, ixm7, ixm8, ixm9, ixm10, ixm11, ixm12, p_dm, isi_loc, isC_ll, isC_lt, isC_ld, isC_ls, isC_kd, p_lst_l, p_lst_t, p_tup_l, p_lst_loc, it_loc, itO_l, lk_1, un_1, un1_o, lcF_1, lcG_f, lcG_t, un_n1, un_r1, slc_l, slc_loc, slO_l, dn_tf, dn_tt, dn_ff, dn_ft, it_zip, it_rev, iso_i, iso_loc, isoC_i, dsp_i1, it_keys_K, it_keys_T, it_items_K, it_items_T, it_keys_loc, it_items_loc, itQ_kK, itQ_kT, itQ_iK, itQ_iT, dicW, im_loc, im_mu, si_k, si_t, lk_K, lk_T, lk_l, lk_t, lk_s, lk_i, dl_k, dl_s, dl_t, ix_k, ix_ks, ix_t, dp_k, dp_s, dp_t, dd_k, dd_t, ds_k, ds_t, ci_loc, ni_loc, io_K, io_T, ci_K, ni_K, ci_T, ni_T, dlO_o, gtR_o, lm_get1, lm_get2, sdP_o, sdP_if, sdP_n, sdQ_s, sdQ_n, sdR_o, lm_setdef, poQ_s, poR_o, lm_dpop1, ixR_o, plO_o, lm_index, rmR_o, lm_remove, lm_insert, p_len_o, ln_l, ln_K, ln_T, p_len_K, p_len_T, Option.map_some, Option.isSome_some, Option.isSome_none, Option.getD_some, Option.getD_none, Nat.le_add_right, idx_loc, idxO_l, idxO_K, idxO_T, mk_pure, mkP_o, sl_ap, sl_apx, sl_apx1, sl_x2, List.take_succ_cons, List.take_zero, List.take_nil, List.lookup_cons, List.lookup_nil, Nat.reduceBEq, Option.isNone_none, Option.isNone_some, and_true, true_and, and_self, kUn_o0, kUn_o1, kUn_if, z_un, kBin2_o0, kBin2_o1, kBin2_if, kBin1_o0, kBin1_o1, kBin1_if, z_bin, kCmp2_o0, kCmp2_o1, kCmp2_if, kCmp1_o0, kCmp1_o1, kCmp1_if, z_cmp, kChn3_b, kChn3_x, kChn3_if, kChn2_o0, kChn2_o1, kChn2_if, kChn1_o0, kChn1_o1, kChn1_if, z_chn, kNot_o0, kNot_o1, kNot_if, z_not, kAnd_b, kAnd_x, kAnd_if, z_andc, kOr_b, kOr_x, kOr_if, z_orc, kIfe_b, kIfe_x, kIfe_if, z_ife, kTup_o0, kTup_o1, kTup_if, z_tup, kLst_o0, kLst_o1, kLst_if, z_lst, kIdx2_o0, kIdx2_o1, kIdx2_if, kIdx1_o0, kIdx1_o1, kIdx1_if, z_idx, kSlc3_o0, kSlc3_o1, kSlc3_if, kSlc2_o0, kSlc2_o1, kSlc2_if, kSlc1_o0, kSlc1_o1, kSlc1_if, z_slc, kFld_o0, kFld_o1, kFld_if, z_fld, kCall_o0, kCall_o1, kCall_if, z_call, kMeth2_o0, kMeth2_o1, kMeth2_if, kMeth1_o0, kMeth1_o1, kMeth1_if, z_meth, kMake_o0, kMake_o1, kMake_if, z_make, kPr_o0, kPr_o1, kPr_if, z_pr, kIso_o0, kIso_o1, kIso_if, z_iso, kDsp_o0, kDsp_o1, kDsp_if, z_ddsp, kIx2_o0, kIx2_o1, kIx2_if, kIx1_o0, kIx1_o1, kIx1_if, z_idxx, kMx2_o0, kMx2_o1, kMx2_if, kMx1_o0, kMx1_o1, kMx1_if, z_mxd, kBm2_o0, kBm2_o1, kBm2_if, kBm1_o0, kBm1_o1, kBm1_if, z_bm, kIsi_o0, kIsi_o1, kIsi_if, z_isi, kA2_o0, kA2_o1, kA2_if, kA1_o0, kA1_o1, kA1_if, z_cons, kO_o0, kO_o1, kO_if, z_o1, getV_o, z_var, getG_o, z_gl, isxV_o, blO_o, z_isx, w_rais, xfO_o, w_raisA, z_fldx, kRais_o, kRais_x, kRais_if, xfA_o, fxV_o, fxO_o, w_exc, hO_t, hO_n, hO_f, w_excR, hR_t, hR_f, gR_x, gR_nx, gR_rt, gR_bk, gR_ct, gR_if, gn_nil, gn_v, gn_n, gn_x, gn_s, c_eqT, c_neT, kLc_o0, kLc_o1, kLc_if, z_lc, kLcE_s, kLcE_n, kLcE_if, z_lcc, kLcS_o, kLcT_b, kLcT_x, kLcT_if, z_lcB, kSeq_o0, kSeq_o1, kSeq_o2, kSeq_o3, kSeq_o4, kSeq_if, w_seq, kExpr_o0, kExpr_o1, kExpr_if, w_expr, nxO_o, kAsg_o0, kAsg_o1, kAsg_if, w_asg, stO_o, kSetf2_o0, kSetf2_o1, kSetf2_if, kSetf1_o0, kSetf1_o1, kSetf1_if, w_setf, kSeti3_o0, kSeti3_o1, kSeti3_if, kSeti2_o0, kSeti2_o1, kSeti2_if, kSeti1_o0, kSeti1_o1, kSeti1_if, w_seti, agF_o, kAgi4_o0, kAgi4_o1, kAgi4_if, kAgi3_o0, kAgi3_o1, kAgi3_if, kAgi2_o0, kAgi2_o1, kAgi2_if, kAgi1_o0, kAgi1_o1, kAgi1_if, w_augi, ixL_loc, augP_o, kAug_o0, kAug_o1, kAug_if, augV_o, w_aug, kRet_o0, kRet_o1, kRet_if, w_ret, kIfS_b, kIfS_x, kIfS_if, w_ife, kFor_o0, kFor_o1, kFor_if, w_for, kFork_0, kFork_1, kFork_2, kFork_3, kFork_4, kFork_if, w_forc, w_forB, un_if, gone_if, tryE_if, endF_n, endF_r, endF_x, endF_if, w_run, seal_if, cs_World___init___clock_looked_at, cs_World___init___World_two_hands, cs_World___init___way_looked_at, cs__law_ways__law_stream, cs__law_ways__law_amount, cs_World_way_World_two_hands, cs_Take_own_bounds_World_way, cs__law_row__law_number, cs_Sight___init___Happening___init__, cs_Send___init___Happening___init__, cs_Take___init___Happening___init__, cs_all_whole_is_whole, cs_is_name_all_whole, cs_happening_all_whole, cs_happening_Happening___init__, cs_happening_Sight___init__, cs_happening_is_whole, cs_happening_Send___init__, cs_happening_is_name, cs_happening_Take___init__, cr_law__law_cell_at, cs_law__law_cell_at, cr_law__law_ways, cs_law__law_ways, cr_law_World___init__, cs_law_World___init__, cr_law__law_row, cs_law__law_row, cr_law_happening, cs_law_happening, cr_law_Take___init__, cs_law_Take___init__, cr_law_Happening_own_bounds, cs_law_Happening_own_bounds, cr_law_Sight_own_bounds, cs_law_Sight_own_bounds, cr_law_Take_own_bounds, cs_law_Take_own_bounds, cr_law__law_due, cs_law__law_due, cr_law__law_kinds, cs_law__law_kinds, ck_Sight___init___Happening___init__, cm_Sight___init___Happening___init__, ck_Send___init___Happening___init__, cm_Send___init___Happening___init__, ck_Take___init___Happening___init__, cm_Take___init___Happening___init__, ck_happening_Happening___init__, cm_happening_Happening___init__, ck_happening_Sight___init__, cm_happening_Sight___init__, ck_happening_Send___init__, cm_happening_Send___init__, ck_happening_Take___init__, cm_happening_Take___init__, ck_law_World___init__, cm_law_World___init__, ck_law_Take___init__, cm_law_Take___init__, xf_0, xf_1, xf_2, xf_3, cl_0, cl_1, cl_2, cl_3, mt_0_11, mt_1_11, mt_2_11, mt_3_11, mt_4_11, mt_5_2, mt_5_5, in_1, in_2, in_3, in_4, in_5, fa_0_6, fa_0_8, fa_1_6, fa_1_8, fa_2_3, fa_2_4, fa_2_6, fa_2_8, fa_3_6, fa_3_8, fa_3_10, fa_4_6, fa_4_7, fa_4_8, fa_5_0, fa_5_1, gv_0, gv_1, ↓cf_0, ↓cf_1, ↓cf_2, ↓cf_3, ↓cf_4, ↓cf_5, dv_3, dv_4, dv_5, dv_7, dv_8, dv_11, dv_16, dv_24, dv_35, dv_100, dv_120, dv_240, sh_0, se_0_1, se_0_2, se_0_3, sh_1, se_1_0, se_1_2, se_1_3, sh_2, se_2_0, se_2_1, se_2_3, sh_3, se_3_0, se_3_1, se_3_2, a_clocks, a_bonds, a_two_hands, a_early, a_late, a_way, a_hand, a_letter, a_reading, a___init__, a_to, a_own_bounds, c_Happening, c_Look, c_Sight, c_Send, c_Take, c_World, x_NoHand, x_NoClock, x_NoWay, x_NoHappening, List.take_length, *])
section
variable (cs : List (Int × Int)) (m : List Cell) (st : Sto) (i j b : Nat) (h0 : m[i]? = some (.mu (.ins c_World [(a_clocks, .loc (st.length + j)), (a_bonds, .loc (st.length + b))]))) (h1 : m[j]? = some (.mu (.lst (cs.map prD)))) (hl : cs.length ≤ 6)
include h0 h1 hl
theorem y_World_two_hands (x y : Int) : Y_World_two_hands [.loc (st.length + i), .int x, .int y] (st ++ m) = if hnBad cs.length x y then .exc x_NoHand [] (st ++ m) else .ok .non (st ++ m) := by
  have hl2 : cs.length ≤ 16777216 := by omega
  unfold Y_World_two_hands X_World_two_hands f_World_two_hands s_World_two_hands b_World_two_hands_1 hnBad
  by_cases a0 : 0 ≤ x <;> by_cases a1 : x < (cs.length : Int) <;> by_cases b0 : 0 ≤ y <;> by_cases b1 : y < (cs.length : Int) <;> by_cases c : x = y <;> walk_at "auto"
end
abbrev selfC (n : Nat) : Cell := .mu (.ins c_World [(a_clocks, .loc (n + 1)), (a_bonds, .loc (n + 2))])
abbrev eW (n : Nat) (C W : Den.D) : DEnv := [.v (.loc n), .v C, .v W, .no, .no, .no, .no, .no, .no]
local macro_rules | `(tactic| walk_at "den") => `(tactic| try simp -implicitDefEqProofs only [FI.fn, x_cst, x_and, x_or, x_and0, x_or0, x_revl, x_nil, x_o0, y_skip, y_retN, y_whl, y_brk, y_cnt, y_try, tryE_nx, tryE_rt, tryE_exc, h_skip, gone_nx, gone_rt, o_add, o_sub, o_mul, o_fdiv, o_mod, o_pow, o_neg, c_lt, c_le, c_gt, c_ge, c_isN, c_notN, c_eqI, c_neI, c_eqB, c_neB, o_addL, k_tup, k_lst, ix0, ix1, ix2, ix3, ix4, itl, itt, lk_nil, un_nx, un_rt, un_exc, for_nil, n_non, n_int, n_bl, n_str, n_tup, n_lst, n_loc, r_ite, r_iteN, lc_nil, lc_Ff, lc_Ft, wp_nil, wp_cons, c_isB, c_notB, p_abs, p_len_lst, p_len_scr, p_len_tup, p_max2, p_min2, i_non_bool, i_non_int, i_non_str, i_non_tuple, i_non_list, i_non_dict, i_bl_bool, i_bl_int, i_bl_str, i_bl_tuple, i_bl_list, i_bl_dict, i_int_bool, i_int_int, i_int_str, i_int_tuple, i_int_list, i_int_dict, i_str_bool, i_str_int, i_str_str, i_str_tuple, i_str_list, i_str_dict, i_tup_bool, i_tup_int, i_tup_str, i_tup_tuple, i_tup_list, i_tup_dict, i_lst_bool, i_lst_int, i_lst_str, i_lst_tuple, i_lst_list, i_lst_dict, List.length_cons, List.length_nil, List.length_map, List.map_cons, List.map_nil, List.cons_append, List.nil_append, List.replicate_zero, List.replicate_succ, List.getElem?_cons_zero, List.getElem?_cons_succ, List.set_cons_zero, List.set_cons_succ, asgT, asgTs, Option.bind_some, Nat.zero_add, Nat.reduceAdd, Nat.reduceSub, ↓reduceIte, if_true, if_false, decide_eq_true_eq, Nat.reduceLT, Int.reduceLT, Nat.reduceEqDiff, Bool.false_eq_true, Bool.not_true, Bool.not_false, Bool.and_true, Bool.true_and, Bool.and_false, Bool.false_and, Bool.or_true, Bool.true_or, Bool.or_false, Bool.false_or, decide_true, decide_false, Int.cast_ofNat_Int, Int.reduceEq, x_own, own_ok, y_kill, y_frz, sl_cl, sl_x0, sl_x1, sl_a, g_app, g_app0, s_app, s_app0, len_app, lk_app, lk_app0, lko_app, lko_app0, fit_o, fit_o0, cl_non, cl_bl, cl_int, cl_str, cl_scr, cl_tup, cl_lst, cl_ins, cl_nil, cl_cons, cl_fnil, cl_fcons, List.append_assoc, List.set_cons_zero, List.set_cons_succ, Nat.add_zero, Nat.reduceLeDiff, LIM, bind_ok, beq_self_eq_true, bmT_eq, bmC_l, bmC_k, bmC_t, bmC_s, lstM, dicM, strM, lm_append, lm_clear, lm_reverse, lm_append_o, lm_clear_o, lm_reverse_o, it_enum_l, ix5, ix6, ix7, ix8, ix9, ix10, ix11, it_seq_l, it_seq_s, slc_scr, mx_0, mx_1, mx_2t, mx_2f, si_eq, si_l, fd_eq, fd_i, cs_eq, cs_i, sf_eq, sf_i, pu_nil, pu_cons, mk_keep, mkK_o, nonL_o, nonL_x, ixm2, ixm3, ixm4, ixm5, ixm6, ixm7, ixm8, ixm9, ixm10, ixm11, ixm12, p_dm, isi_loc, isC_ll, isC_lt, isC_ld, isC_ls, isC_kd, p_lst_l, p_lst_t, p_tup_l, p_lst_loc, it_loc, itO_l, lk_1, un_1, un1_o, lcF_1, lcG_f, lcG_t, un_n1, un_r1, slc_l, slc_loc, slO_l, dn_tf, dn_tt, dn_ff, dn_ft, it_zip, it_rev, iso_i, iso_loc, isoC_i, dsp_i1, it_keys_K, it_keys_T, it_items_K, it_items_T, it_keys_loc, it_items_loc, itQ_kK, itQ_kT, itQ_iK, itQ_iT, dicW, im_loc, im_mu, si_k, si_t, lk_K, lk_T, lk_l, lk_t, lk_s, lk_i, dl_k, dl_s, dl_t, ix_k, ix_ks, ix_t, dp_k, dp_s, dp_t, dd_k, dd_t, ds_k, ds_t, ci_loc, ni_loc, io_K, io_T, ci_K, ni_K, ci_T, ni_T, dlO_o, gtR_o, lm_get1, lm_get2, sdP_o, sdP_if, sdP_n, sdQ_s, sdQ_n, sdR_o, lm_setdef, poQ_s, poR_o, lm_dpop1, ixR_o, plO_o, lm_index, rmR_o, lm_remove, lm_insert, p_len_o, ln_l, ln_K, ln_T, p_len_K, p_len_T, Option.map_some, Option.isSome_some, Option.isSome_none, Option.getD_some, Option.getD_none, Nat.le_add_right, idx_loc, idxO_l, idxO_K, idxO_T, mk_pure, mkP_o, sl_ap, sl_apx, sl_apx1, sl_x2, List.take_succ_cons, List.take_zero, List.take_nil, List.lookup_cons, List.lookup_nil, Nat.reduceBEq, Option.isNone_none, Option.isNone_some, and_true, true_and, and_self, kUn_o0, kUn_o1, kUn_if, z_un, kBin2_o0, kBin2_o1, kBin2_if, kBin1_o0, kBin1_o1, kBin1_if, z_bin, kCmp2_o0, kCmp2_o1, kCmp2_if, kCmp1_o0, kCmp1_o1, kCmp1_if, z_cmp, kChn3_b, kChn3_x, kChn3_if, kChn2_o0, kChn2_o1, kChn2_if, kChn1_o0, kChn1_o1, kChn1_if, z_chn, kNot_o0, kNot_o1, kNot_if, z_not, kAnd_b, kAnd_x, kAnd_if, z_andc, kOr_b, kOr_x, kOr_if, z_orc, kIfe_b, kIfe_x, kIfe_if, z_ife, kTup_o0, kTup_o1, kTup_if, z_tup, kLst_o0, kLst_o1, kLst_if, z_lst, kIdx2_o0, kIdx2_o1, kIdx2_if, kIdx1_o0, kIdx1_o1, kIdx1_if, z_idx, kSlc3_o0, kSlc3_o1, kSlc3_if, kSlc2_o0, kSlc2_o1, kSlc2_if, kSlc1_o0, kSlc1_o1, kSlc1_if, z_slc, kFld_o0, kFld_o1, kFld_if, z_fld, kCall_o0, kCall_o1, kCall_if, z_call, kMeth2_o0, kMeth2_o1, kMeth2_if, kMeth1_o0, kMeth1_o1, kMeth1_if, z_meth, kMake_o0, kMake_o1, kMake_if, z_make, kPr_o0, kPr_o1, kPr_if, z_pr, kIso_o0, kIso_o1, kIso_if, z_iso, kDsp_o0, kDsp_o1, kDsp_if, z_ddsp, kIx2_o0, kIx2_o1, kIx2_if, kIx1_o0, kIx1_o1, kIx1_if, z_idxx, kMx2_o0, kMx2_o1, kMx2_if, kMx1_o0, kMx1_o1, kMx1_if, z_mxd, kBm2_o0, kBm2_o1, kBm2_if, kBm1_o0, kBm1_o1, kBm1_if, z_bm, kIsi_o0, kIsi_o1, kIsi_if, z_isi, kA2_o0, kA2_o1, kA2_if, kA1_o0, kA1_o1, kA1_if, z_cons, kO_o0, kO_o1, kO_if, z_o1, getV_o, z_var, getG_o, z_gl, isxV_o, blO_o, z_isx, w_rais, xfO_o, w_raisA, z_fldx, kRais_o, kRais_x, kRais_if, xfA_o, fxV_o, fxO_o, w_exc, hO_t, hO_n, hO_f, w_excR, hR_t, hR_f, gR_x, gR_nx, gR_rt, gR_bk, gR_ct, gR_if, gn_nil, gn_v, gn_n, gn_x, gn_s, c_eqT, c_neT, kLc_o0, kLc_o1, kLc_if, z_lc, kLcE_s, kLcE_n, kLcE_if, z_lcc, kLcS_o, kLcT_b, kLcT_x, kLcT_if, z_lcB, kSeq_o0, kSeq_o1, kSeq_o2, kSeq_o3, kSeq_o4, kSeq_if, w_seq, kExpr_o0, kExpr_o1, kExpr_if, w_expr, nxO_o, kAsg_o0, kAsg_o1, kAsg_if, w_asg, stO_o, kSetf2_o0, kSetf2_o1, kSetf2_if, kSetf1_o0, kSetf1_o1, kSetf1_if, w_setf, kSeti3_o0, kSeti3_o1, kSeti3_if, kSeti2_o0, kSeti2_o1, kSeti2_if, kSeti1_o0, kSeti1_o1, kSeti1_if, w_seti, agF_o, kAgi4_o0, kAgi4_o1, kAgi4_if, kAgi3_o0, kAgi3_o1, kAgi3_if, kAgi2_o0, kAgi2_o1, kAgi2_if, kAgi1_o0, kAgi1_o1, kAgi1_if, w_augi, ixL_loc, augP_o, kAug_o0, kAug_o1, kAug_if, augV_o, w_aug, kRet_o0, kRet_o1, kRet_if, w_ret, kIfS_b, kIfS_x, kIfS_if, w_ife, kFor_o0, kFor_o1, kFor_if, w_for, kFork_0, kFork_1, kFork_2, kFork_3, kFork_4, kFork_if, w_forc, w_forB, un_if, gone_if, tryE_if, endF_n, endF_r, endF_x, endF_if, w_run, seal_if, cs_World___init___clock_looked_at, cs_World___init___World_two_hands, cs_World___init___way_looked_at, cs__law_ways__law_stream, cs__law_ways__law_amount, cs_World_way_World_two_hands, cs_Take_own_bounds_World_way, cs__law_row__law_number, cs_Sight___init___Happening___init__, cs_Send___init___Happening___init__, cs_Take___init___Happening___init__, cs_all_whole_is_whole, cs_is_name_all_whole, cs_happening_all_whole, cs_happening_Happening___init__, cs_happening_Sight___init__, cs_happening_is_whole, cs_happening_Send___init__, cs_happening_is_name, cs_happening_Take___init__, cr_law__law_cell_at, cs_law__law_cell_at, cr_law__law_ways, cs_law__law_ways, cr_law_World___init__, cs_law_World___init__, cr_law__law_row, cs_law__law_row, cr_law_happening, cs_law_happening, cr_law_Take___init__, cs_law_Take___init__, cr_law_Happening_own_bounds, cs_law_Happening_own_bounds, cr_law_Sight_own_bounds, cs_law_Sight_own_bounds, cr_law_Take_own_bounds, cs_law_Take_own_bounds, cr_law__law_due, cs_law__law_due, cr_law__law_kinds, cs_law__law_kinds, ck_Sight___init___Happening___init__, cm_Sight___init___Happening___init__, ck_Send___init___Happening___init__, cm_Send___init___Happening___init__, ck_Take___init___Happening___init__, cm_Take___init___Happening___init__, ck_happening_Happening___init__, cm_happening_Happening___init__, ck_happening_Sight___init__, cm_happening_Sight___init__, ck_happening_Send___init__, cm_happening_Send___init__, ck_happening_Take___init__, cm_happening_Take___init__, ck_law_World___init__, cm_law_World___init__, ck_law_Take___init__, cm_law_Take___init__, xf_0, xf_1, xf_2, xf_3, cl_0, cl_1, cl_2, cl_3, mt_0_11, mt_1_11, mt_2_11, mt_3_11, mt_4_11, mt_5_2, mt_5_5, in_1, in_2, in_3, in_4, in_5, fa_0_6, fa_0_8, fa_1_6, fa_1_8, fa_2_3, fa_2_4, fa_2_6, fa_2_8, fa_3_6, fa_3_8, fa_3_10, fa_4_6, fa_4_7, fa_4_8, fa_5_0, fa_5_1, gv_0, gv_1, ↓cf_0, ↓cf_1, ↓cf_2, ↓cf_3, ↓cf_4, ↓cf_5, dv_3, dv_4, dv_5, dv_7, dv_8, dv_11, dv_16, dv_24, dv_35, dv_100, dv_120, dv_240, sh_0, se_0_1, se_0_2, se_0_3, sh_1, se_1_0, se_1_2, se_1_3, sh_2, se_2_0, se_2_1, se_2_3, sh_3, se_3_0, se_3_1, se_3_2, a_clocks, a_bonds, a_two_hands, a_early, a_late, a_way, a_hand, a_letter, a_reading, a___init__, a_to, a_own_bounds, c_Happening, c_Look, c_Sight, c_Send, c_Take, c_World, x_NoHand, x_NoClock, x_NoWay, x_NoHappening, List.take_length, y_clock_looked_at, y_way_looked_at, List.length_replicate, *])
theorem lp1 (cs : List (Int × Int)) (C W : Den.D) (st : Sto) (hl : cs.length ≤ 6) : match flts ckF [] cs with
    | some c => ∃ ρ m, forD (forB P_World___init__ st.length (.tp (.cons (.nm 3) (.cons (.nm 4) .nil))) b_World___init___1) (cs.map prD) (eW st.length C W) (st ++ [selfC st.length, .mu (.lst []), .mu (.dK [])]) = .exc c.x [] ρ (st ++ m)
    | none => forD (forB P_World___init__ st.length (.tp (.cons (.nm 3) (.cons (.nm 4) .nil))) b_World___init___1) (cs.map prD) (eW st.length C W) (st ++ [selfC st.length, .mu (.lst []), .mu (.dK [])])
        = .nx (eW st.length C W) (st ++ ([selfC st.length, .mu (.lst (cs.map prD)), .mu (.dK (outer st.length cs.length))] ++ List.replicate cs.length (.mu (.dK [])))) := by
  have H := forD_flt prD (body := forB P_World___init__ st.length (.tp (.cons (.nm 3) (.cons (.nm 4) .nil))) b_World___init___1) ckF
    (fun pre ρ st' => ρ = eW st.length C W ∧ st' = st ++ ([selfC st.length, .mu (.lst (pre.map prD)), .mu (.dK (outer st.length pre.length))] ++ List.replicate pre.length (.mu (.dK []))))
    (fun c r => ∃ ρ m, r = .exc c.x [] ρ (st ++ m)) cs (by
      rintro pre ⟨s, l⟩ post hq ρ st' ⟨rfl, rfl⟩
      have hpl : pre.length < 6 := by rw [hq] at hl; simp at hl; omega
      have y := fun st => y_clock_looked_at (s, l) st
      have hcl : (pre.map prD).length < 16777216 := by simp; omega
      have hol : (outer st.length pre.length).length < 16777216 := by rw [outer_len]; omega
      have hpl2 : pre.length < 16777216 := by omega
      have hp : dput (outer st.length pre.length) (.inl (pre.length : Int)) (.loc (st.length + (pre.length + 1 + 1 + 1))) = outer st.length (pre.length + 1) := by
        rw [show pre.length + 1 + 1 + 1 = 3 + pre.length by omega]; exact outer_put
      unfold ckF
      by_cases q : s < 1 ∨ l < s
      · simp only [q, if_true] at y ⊢
        have e : forB P_World___init__ st.length (.tp (.cons (.nm 3) (.cons (.nm 4) .nil))) b_World___init___1 (prD (s, l)) (eW st.length C W) (st ++ ([selfC st.length, .mu (.lst (pre.map prD)), .mu (.dK (outer st.length pre.length))] ++ List.replicate pre.length (.mu (.dK [])))) = .exc x_NoClock [] [.v (.loc st.length), .v C, .v W, .v (.int s), .v (.int l), .no, .no, .no, .no] (st ++ ([selfC st.length, .mu (.lst (pre.map prD)), .mu (.dK (outer st.length pre.length))] ++ List.replicate pre.length (.mu (.dK [])))) := by
          unfold forB b_World___init___1 prD
          walk_at "den"
        rw [e]
        exact ⟨rfl, _, _, rfl⟩
      · simp only [q, if_false] at y ⊢
        refine ⟨_, _, by unfold forB b_World___init___1 prD; walk_at "den"; rfl, rfl, ?_⟩
        simp [List.replicate_succ', prD])
    (eW st.length C W) (st ++ [selfC st.length, .mu (.lst []), .mu (.dK [])]) ⟨rfl, rfl⟩
  cases hf : flts ckF [] cs with
  | some c => rw [hf] at H; exact H
  | none => rw [hf] at H; obtain ⟨ρ, st', e, rfl, rfl⟩ := H; exact e
structure WC (n : Nat) (cs : List (Int × Int)) (ws : List Wy) (m : List Cell) : Prop where
  len : m.length = 3 + cs.length
  h0 : m[0]? = some (selfC n)
  h1 : m[1]? = some (.mu (.lst (cs.map prD)))
  h2 : m[2]? = some (.mu (.dK (outer n cs.length)))
  h3 : ∀ j, j < cs.length → m[3 + j]? = some (.mu (.dK (inn ws j)))
theorem WC.set {n : Nat} {cs : List (Int × Int)} {ws : List Wy} {m : List Cell} (h : WC n cs ws m) {w : Wy} (w0 : 0 ≤ w.one) (w1 : w.one < cs.length) : WC n cs (ws ++ [w]) (m.set (3 + w.one.toNat) (.mu (.dK (inn ws w.one ++ [(.inl w.other, w.b)])))) := by
  obtain ⟨a, b, c, d, e⟩ := h
  refine ⟨by simpa using a, ?_, ?_, ?_, fun j hj => ?_⟩
  · rw [List.getElem?_set_ne (by omega)]; exact b
  · rw [List.getElem?_set_ne (by omega)]; exact c
  · rw [List.getElem?_set_ne (by omega)]; exact d
  · rw [inn_snoc]
    by_cases q : w.one = j
    · rw [if_pos q, show w.one.toNat = j by omega, List.getElem?_set_self (by omega), q]
    · rw [if_neg q, List.getElem?_set_ne (by omega)]; exact e j hj
theorem lp2 (cs : List (Int × Int)) (ws : List Wy) (C W : Den.D) (st : Sto) (hl : cs.length ≤ 6) (hw : ws.length < 1000) (m0 : List Cell) (h0 : WC st.length cs [] m0) : match flts (wyF cs.length) [] ws with
    | some c => ∃ ρ m, forD (forB P_World___init__ st.length (.tp (.cons (.nm 5) (.cons (.nm 6) (.cons (.nm 7) (.cons (.nm 8) .nil))))) b_World___init___2) (ws.map Wy.d) (eW st.length C W) (st ++ m0) = .exc c.x [] ρ (st ++ m)
    | none => ∃ m, forD (forB P_World___init__ st.length (.tp (.cons (.nm 5) (.cons (.nm 6) (.cons (.nm 7) (.cons (.nm 8) .nil))))) b_World___init___2) (ws.map Wy.d) (eW st.length C W) (st ++ m0) = .nx (eW st.length C W) (st ++ m) ∧ WC st.length cs ws m := by
  have H := forD_flt Wy.d (body := forB P_World___init__ st.length (.tp (.cons (.nm 5) (.cons (.nm 6) (.cons (.nm 7) (.cons (.nm 8) .nil))))) b_World___init___2) (wyF cs.length)
    (fun pre ρ st' => ∃ m, ρ = eW st.length C W ∧ st' = st ++ m ∧ WC st.length cs pre m)
    (fun c r => ∃ ρ m, r = .exc c.x [] ρ (st ++ m)) ws (by
      rintro pre w post hq ρ st' ⟨m, rfl, rfl, hc⟩
      have hpl : pre.length < 1000 := by rw [hq] at hw; simp at hw; omega
      have g0 := hc.h0
      have g1 := hc.h1
      have g2 := hc.h2
      have y1 := fun x y => y_World_two_hands cs m st 0 1 2 g0 g1 hl x y
      have y2 := fun st => y_way_looked_at w st
      simp only [Nat.add_zero] at y1
      have y1 := y1 w.one w.other
      unfold wyF
      by_cases q1 : hnBad cs.length w.one w.other
      · simp only [q1, if_true] at y1 ⊢
        have e : forB P_World___init__ st.length (.tp (.cons (.nm 5) (.cons (.nm 6) (.cons (.nm 7) (.cons (.nm 8) .nil))))) b_World___init___2 w.d (eW st.length C W) (st ++ m) = .exc x_NoHand [] [.v (.loc st.length), .v C, .v W, .no, .no, .v (.int w.one), .v (.int w.other), .v (.int w.least), .v (ov w.most)] (st ++ m) := by
          unfold forB b_World___init___2 Wy.d
          clear y2
          walk_at "den"
        rw [e]
        exact ⟨rfl, _, _, rfl⟩
      · simp only [q1, if_false] at y1 ⊢
        have w0 : 0 ≤ w.one := by unfold hnBad at q1; omega
        have w1 : w.one < cs.length := by unfold hnBad at q1; omega
        have ho := @outer_get st.length cs.length w.one w0 w1
        have g3 := hc.h3 w.one.toNat (by omega)
        rw [Int.toNat_of_nonneg w0] at g3
        have ht := @inn_told pre w.one w.other
        by_cases q2 : told pre w.one w.other
        · simp only [q2, if_true, decide_true] at ht ⊢
          have e : forB P_World___init__ st.length (.tp (.cons (.nm 5) (.cons (.nm 6) (.cons (.nm 7) (.cons (.nm 8) .nil))))) b_World___init___2 w.d (eW st.length C W) (st ++ m) = .exc x_NoWay [] [.v (.loc st.length), .v C, .v W, .no, .no, .v (.int w.one), .v (.int w.other), .v (.int w.least), .v (ov w.most)] (st ++ m) := by
            unfold forB b_World___init___2 Wy.d
            clear y2
            walk_at "den"
          rw [e]
          exact ⟨rfl, _, _, rfl⟩
        · simp only [q2, if_false, decide_false] at ht ⊢
          by_cases q3 : w.least < 0 ∨ most_bad w
          · simp only [q3, if_true] at y2 ⊢
            have e : forB P_World___init__ st.length (.tp (.cons (.nm 5) (.cons (.nm 6) (.cons (.nm 7) (.cons (.nm 8) .nil))))) b_World___init___2 w.d (eW st.length C W) (st ++ m) = .exc x_NoWay [] [.v (.loc st.length), .v C, .v W, .no, .no, .v (.int w.one), .v (.int w.other), .v (.int w.least), .v (ov w.most)] (st ++ m) := by
              unfold forB b_World___init___2 Wy.d
              walk_at "den"
            rw [e]
            exact ⟨rfl, _, _, rfl⟩
          · simp only [q3, if_false] at y2 ⊢
            have hn : dget (inn pre w.one) (.inl w.other) = none := by
              cases hh : dget (inn pre w.one) (.inl w.other) with
              | none => rfl
              | some _ => rw [hh] at ht; cases ht
            have hp : dput (inn pre w.one) (.inl w.other) (.tup [.int w.least, ov w.most]) = inn pre w.one ++ [(.inl w.other, w.b)] := dput_new hn
            have hil : (inn pre w.one).length < 16777216 := by
              have := List.length_filter_le (fun v => decide (v.one = w.one)) pre
              simp only [inn, List.length_map]; omega
            refine ⟨_, _, by unfold forB b_World___init___2 Wy.d; walk_at "den"; rfl, _, rfl, rfl, ?_⟩
            exact hc.set w0 w1)
    (eW st.length C W) (st ++ m0) ⟨m0, rfl, rfl, h0⟩
  cases hf : flts (wyF cs.length) [] ws with
  | some c => rw [hf] at H; exact H
  | none => rw [hf] at H; obtain ⟨ρ, st', e, m, rfl, rfl, hm⟩ := H; exact ⟨m, e, hm⟩
/-- a world, frozen -/
def bonds (k : Nat) (ws : List Wy) : List (Key × Den.D) := (List.range k).map fun i : Nat => (.inl (i : Int), .dK (inn ws i))
def wdD (cs : List (Int × Int)) (ws : List Wy) : Den.D := .ins c_World [(a_clocks, .lst (cs.map prD)), (a_bonds, .dK (bonds cs.length ws))]
theorem fz_at {st m : Sto} {i k : Nat} {c : Den.D} (h : m[i]? = some (.mu c)) : fzI (st ++ m) st.length (k + 1) (st.length + i) = subD (fzI (st ++ m) st.length k) c := by
  show (if st.length + i < st.length then some (Den.D.loc (st.length + i)) else match (st ++ m)[st.length + i]? with
    | some (.mu c) => subD (fzI (st ++ m) st.length k) c
    | _ => none) = _
  rw [if_neg (by omega), show (st ++ m)[st.length + i]? = some (.mu c) by rw [List.getElem?_append_right (by omega), Nat.add_sub_cancel_left]; exact h]
theorem subK_outer {f : Nat → Option Den.D} {n k : Nat} {ws : List Wy} (h : ∀ j, j < k → f (n + (3 + j)) = some (.dK (inn ws j))) : subK f (outer n k) = some (bonds k ws) := by
  unfold outer bonds
  have h' : ∀ j ∈ List.range k, f (n + (3 + j)) = some (.dK (inn ws j)) := fun j hj => h j (List.mem_range.mp hj)
  clear h
  generalize List.range k = l at *
  induction l with
  | nil => rfl
  | cons j l ih =>
    have a := h' j List.mem_cons_self
    have b := ih fun i hi => h' i (List.mem_cons_of_mem _ hi)
    rw [List.map_cons, List.map_cons]
    show ((subD f (.loc (n + (3 + j)))).bind fun y => (subK f (l.map fun i : Nat => (.inl (i : Int), .loc (n + (3 + i))))).map fun ys => ((.inl (j : Int) : Key), y) :: ys) = _
    rw [b, show subD f (.loc (n + (3 + j))) = some (.dK (inn ws j)) from a]
    rfl
theorem deep_W {st m : Sto} {cs : List (Int × Int)} {ws : List Wy} (h : WC st.length cs ws m) : deep (st ++ m) st.length (.loc st.length) = some (wdD cs ws) := by
  show fzI (st ++ m) st.length 8 (st.length + 0) = _
  rw [fz_at h.h0]
  show (subF (fzI (st ++ m) st.length 7) [(a_clocks, .loc (st.length + 1)), (a_bonds, .loc (st.length + 2))]).map (Den.D.ins c_World) = _
  have e1 : subD (fzI (st ++ m) st.length 7) (.loc (st.length + 1)) = some (.lst (cs.map prD)) := by
    show fzI (st ++ m) st.length 7 (st.length + 1) = _
    rw [fz_at h.h1, sub_cl cl_names]
  have e2 : subD (fzI (st ++ m) st.length 7) (.loc (st.length + 2)) = some (.dK (bonds cs.length ws)) := by
    show fzI (st ++ m) st.length 7 (st.length + 2) = _
    rw [fz_at h.h2]
    show (subK (fzI (st ++ m) st.length 6) (outer st.length cs.length)).map Den.D.dK = _
    rw [subK_outer (ws := ws) fun j hj => by rw [fz_at (h.h3 j hj), sub_cl inn_cl]]; rfl
  show ((subD (fzI (st ++ m) st.length 7) (.loc (st.length + 1))).bind fun y => ((subD (fzI (st ++ m) st.length 7) (.loc (st.length + 2))).bind fun z => (some []).map fun ys => (a_bonds, z) :: ys).map fun ys => (a_clocks, y) :: ys).map (Den.D.ins c_World) = _
  rw [e1, e2]; rfl
theorem x_World (cs : List (Int × Int)) (ws : List Wy) (st : Sto) (hcl : cs.length < 1000) (hw : ws.length < 1000) : match worldF cs ws with
    | some c => ∃ m, X_World___init__ [.loc st.length, .lst (cs.map prD), .lst (ws.map Wy.d)] (st ++ [.mu (.ins c_World [])]) st.length = .exc c.x [] (st ++ m)
    | none => ∃ m, X_World___init__ [.loc st.length, .lst (cs.map prD), .lst (ws.map Wy.d)] (st ++ [.mu (.ins c_World [])]) st.length = .ok .non (st ++ m) ∧ WC st.length cs ws m := by
  have hcl2 : cs.length ≤ 16777216 := by omega
  have hwl2 : ws.length ≤ 16777216 := by omega
  unfold worldF
  by_cases q : cs.length < 1 ∨ 6 < cs.length
  · simp only [q, if_true]
    refine ⟨[.mu (.ins c_World [])], ?_⟩
    unfold X_World___init__ f_World___init__ s_World___init__ Flt.x
    by_cases q1 : (1 : Int) ≤ (cs.length : Int) <;> by_cases q2 : (cs.length : Int) ≤ 6 <;> first | (exfalso; omega) | walk_at "auto"
  · simp only [q, if_false]
    have q1 : (1 : Int) ≤ (cs.length : Int) := by omega
    have q2 : (cs.length : Int) ≤ 6 := by omega
    have l1 := lp1 cs (.lst (cs.map prD)) (.lst (ws.map Wy.d)) st (by omega)
    cases hf : flts ckF [] cs with
    | some c =>
      rw [hf] at l1
      obtain ⟨ρ, m, e⟩ := l1
      refine ⟨m, ?_⟩
      unfold X_World___init__ f_World___init__ s_World___init__ eW selfC at *
      walk_at "den"
    | none =>
      rw [hf] at l1
      dsimp only at l1 ⊢
      have wc : WC st.length cs [] ([selfC st.length, .mu (.lst (cs.map prD)), .mu (.dK (outer st.length cs.length))] ++ List.replicate cs.length (.mu (.dK []))) :=
        ⟨by simp; omega, rfl, rfl, rfl, fun j hj => by
          rw [List.getElem?_append_right (by simp)]
          simp [hj, inn]⟩
      have l2 := lp2 cs ws (.lst (cs.map prD)) (.lst (ws.map Wy.d)) st (by omega) hw _ wc
      cases hg : flts (wyF cs.length) [] ws with
      | some c =>
        rw [hg] at l2
        obtain ⟨ρ, m, e⟩ := l2
        refine ⟨m, ?_⟩
        clear wc
        simp only [List.cons_append, List.nil_append] at e
        unfold X_World___init__ f_World___init__ s_World___init__ eW selfC at *
        walk_at "den"
      | none =>
        rw [hg] at l2
        obtain ⟨m, e, hm⟩ := l2
        refine ⟨m, ?_, hm⟩
        clear wc hm
        simp only [List.cons_append, List.nil_append] at e
        unfold X_World___init__ f_World___init__ s_World___init__ eW selfC at *
        walk_at "den"
/-- a world is made, or refused -/
def worldR (cs : List (Int × Int)) (ws : List Wy) (st : Sto) : Res Den.D := match worldF cs ws with
  | some c => .exc c.x [] st
  | none => .ok (wdD cs ws) st
theorem z_World (cs : List (Int × Int)) (ws : List Wy) (st : Sto) (hcl : cs.length < 1000) (hw : ws.length < 1000) : sealP st.length (nonL st.length (X_World___init__ [.loc st.length, .lst (cs.map prD), .lst (ws.map Wy.d)] (st ++ [.mu (.ins c_World [])]) st.length)) = worldR cs ws st := by
  have h := x_World cs ws st hcl hw
  unfold worldR
  cases hf : worldF cs ws with
  | some c => rw [hf] at h; obtain ⟨m, e⟩ := h; rw [e]; exact sl_x1
  | none =>
    rw [hf] at h
    obtain ⟨m, e, hm⟩ := h
    rw [e]
    exact seal_ok (deep_W hm) tk_app
theorem y__law_cell_at (ns : List Int) (k : Int) (hk : 0 ≤ k) (st : Sto) : Y__law_cell_at [.scr ns, .int k] st = .ok (.int (ns.getD k.toNat 0)) st := by
  unfold Y__law_cell_at X__law_cell_at f__law_cell_at s__law_cell_at
  by_cases h : k < (ns.length : Nat)
  · have e := ix_scr ns k st hk h
    walk_at "den"
  · have e : ns.getD k.toNat 0 = 0 := by
      rw [List.getD_eq_getElem?_getD, List.getElem?_eq_none (by omega)]; rfl
    walk_at "den"
def num (c : Int) : Int := if c % 3 = 0 then c / 3 % 19 - 9 else if c % 3 = 1 then c / 3 % 2000001 - 1000000 else c / 3 % 2000000000000000000000000000000000000000000000000000000000001 - 1000000000000000000000000000000000000000000000000000000000000
theorem y__law_number (c : Int) (st : Sto) : Y__law_number [.int c] st = .ok (.int (num c)) st := by
  unfold Y__law_number X__law_number f__law_number s__law_number num
  walk_at "auto"
theorem num_lt (c : Int) : -1000000000000000000000000000000000000000000000000000000000000 ≤ num c ∧ num c ≤ 1000000000000000000000000000000000000000000000000000000000000 := by
  unfold num
  split
  · omega
  · split <;> omega
local macro_rules | `(tactic| walk_at "den") => `(tactic| try simp -implicitDefEqProofs only [FI.fn, x_cst, x_and, x_or, x_and0, x_or0, x_revl, x_nil, x_o0, y_skip, y_retN, y_whl, y_brk, y_cnt, y_try, tryE_nx, tryE_rt, tryE_exc, h_skip, gone_nx, gone_rt, o_add, o_sub, o_mul, o_fdiv, o_mod, o_pow, o_neg, c_lt, c_le, c_gt, c_ge, c_isN, c_notN, c_eqI, c_neI, c_eqB, c_neB, o_addL, k_tup, k_lst, ix0, ix1, ix2, ix3, ix4, itl, itt, lk_nil, un_nx, un_rt, un_exc, for_nil, n_non, n_int, n_bl, n_str, n_tup, n_lst, n_loc, r_ite, r_iteN, lc_nil, lc_Ff, lc_Ft, wp_nil, wp_cons, c_isB, c_notB, p_abs, p_len_lst, p_len_scr, p_len_tup, p_max2, p_min2, i_non_bool, i_non_int, i_non_str, i_non_tuple, i_non_list, i_non_dict, i_bl_bool, i_bl_int, i_bl_str, i_bl_tuple, i_bl_list, i_bl_dict, i_int_bool, i_int_int, i_int_str, i_int_tuple, i_int_list, i_int_dict, i_str_bool, i_str_int, i_str_str, i_str_tuple, i_str_list, i_str_dict, i_tup_bool, i_tup_int, i_tup_str, i_tup_tuple, i_tup_list, i_tup_dict, i_lst_bool, i_lst_int, i_lst_str, i_lst_tuple, i_lst_list, i_lst_dict, List.length_cons, List.length_nil, List.length_map, List.map_cons, List.map_nil, List.cons_append, List.nil_append, List.replicate_zero, List.replicate_succ, List.getElem?_cons_zero, List.getElem?_cons_succ, List.set_cons_zero, List.set_cons_succ, asgT, asgTs, Option.bind_some, Nat.zero_add, Nat.reduceAdd, Nat.reduceSub, ↓reduceIte, if_true, if_false, decide_eq_true_eq, Nat.reduceLT, Int.reduceLT, Nat.reduceEqDiff, Bool.false_eq_true, Bool.not_true, Bool.not_false, Bool.and_true, Bool.true_and, Bool.and_false, Bool.false_and, Bool.or_true, Bool.true_or, Bool.or_false, Bool.false_or, decide_true, decide_false, Int.cast_ofNat_Int, Int.reduceEq, x_own, own_ok, y_kill, y_frz, sl_cl, sl_x0, sl_x1, sl_a, g_app, g_app0, s_app, s_app0, len_app, lk_app, lk_app0, lko_app, lko_app0, fit_o, fit_o0, cl_non, cl_bl, cl_int, cl_str, cl_scr, cl_tup, cl_lst, cl_ins, cl_nil, cl_cons, cl_fnil, cl_fcons, List.append_assoc, List.set_cons_zero, List.set_cons_succ, Nat.add_zero, Nat.reduceLeDiff, LIM, bind_ok, beq_self_eq_true, bmT_eq, bmC_l, bmC_k, bmC_t, bmC_s, lstM, dicM, strM, lm_append, lm_clear, lm_reverse, lm_append_o, lm_clear_o, lm_reverse_o, it_enum_l, ix5, ix6, ix7, ix8, ix9, ix10, ix11, it_seq_l, it_seq_s, slc_scr, mx_0, mx_1, mx_2t, mx_2f, si_eq, si_l, fd_eq, fd_i, cs_eq, cs_i, sf_eq, sf_i, pu_nil, pu_cons, mk_keep, mkK_o, nonL_o, nonL_x, ixm2, ixm3, ixm4, ixm5, ixm6, ixm7, ixm8, ixm9, ixm10, ixm11, ixm12, p_dm, isi_loc, isC_ll, isC_lt, isC_ld, isC_ls, isC_kd, p_lst_l, p_lst_t, p_tup_l, p_lst_loc, it_loc, itO_l, lk_1, un_1, un1_o, lcF_1, lcG_f, lcG_t, un_n1, un_r1, slc_l, slc_loc, slO_l, dn_tf, dn_tt, dn_ff, dn_ft, it_zip, it_rev, iso_i, iso_loc, isoC_i, dsp_i1, it_keys_K, it_keys_T, it_items_K, it_items_T, it_keys_loc, it_items_loc, itQ_kK, itQ_kT, itQ_iK, itQ_iT, dicW, im_loc, im_mu, si_k, si_t, lk_K, lk_T, lk_l, lk_t, lk_s, lk_i, dl_k, dl_s, dl_t, ix_k, ix_ks, ix_t, dp_k, dp_s, dp_t, dd_k, dd_t, ds_k, ds_t, ci_loc, ni_loc, io_K, io_T, ci_K, ni_K, ci_T, ni_T, dlO_o, gtR_o, lm_get1, lm_get2, sdP_o, sdP_if, sdP_n, sdQ_s, sdQ_n, sdR_o, lm_setdef, poQ_s, poR_o, lm_dpop1, ixR_o, plO_o, lm_index, rmR_o, lm_remove, lm_insert, p_len_o, ln_l, ln_K, ln_T, p_len_K, p_len_T, Option.map_some, Option.isSome_some, Option.isSome_none, Option.getD_some, Option.getD_none, Nat.le_add_right, idx_loc, idxO_l, idxO_K, idxO_T, mk_pure, mkP_o, sl_ap, sl_apx, sl_apx1, sl_x2, List.take_succ_cons, List.take_zero, List.take_nil, List.lookup_cons, List.lookup_nil, Nat.reduceBEq, Option.isNone_none, Option.isNone_some, and_true, true_and, and_self, kUn_o0, kUn_o1, kUn_if, z_un, kBin2_o0, kBin2_o1, kBin2_if, kBin1_o0, kBin1_o1, kBin1_if, z_bin, kCmp2_o0, kCmp2_o1, kCmp2_if, kCmp1_o0, kCmp1_o1, kCmp1_if, z_cmp, kChn3_b, kChn3_x, kChn3_if, kChn2_o0, kChn2_o1, kChn2_if, kChn1_o0, kChn1_o1, kChn1_if, z_chn, kNot_o0, kNot_o1, kNot_if, z_not, kAnd_b, kAnd_x, kAnd_if, z_andc, kOr_b, kOr_x, kOr_if, z_orc, kIfe_b, kIfe_x, kIfe_if, z_ife, kTup_o0, kTup_o1, kTup_if, z_tup, kLst_o0, kLst_o1, kLst_if, z_lst, kIdx2_o0, kIdx2_o1, kIdx2_if, kIdx1_o0, kIdx1_o1, kIdx1_if, z_idx, kSlc3_o0, kSlc3_o1, kSlc3_if, kSlc2_o0, kSlc2_o1, kSlc2_if, kSlc1_o0, kSlc1_o1, kSlc1_if, z_slc, kFld_o0, kFld_o1, kFld_if, z_fld, kCall_o0, kCall_o1, kCall_if, z_call, kMeth2_o0, kMeth2_o1, kMeth2_if, kMeth1_o0, kMeth1_o1, kMeth1_if, z_meth, kMake_o0, kMake_o1, kMake_if, z_make, kPr_o0, kPr_o1, kPr_if, z_pr, kIso_o0, kIso_o1, kIso_if, z_iso, kDsp_o0, kDsp_o1, kDsp_if, z_ddsp, kIx2_o0, kIx2_o1, kIx2_if, kIx1_o0, kIx1_o1, kIx1_if, z_idxx, kMx2_o0, kMx2_o1, kMx2_if, kMx1_o0, kMx1_o1, kMx1_if, z_mxd, kBm2_o0, kBm2_o1, kBm2_if, kBm1_o0, kBm1_o1, kBm1_if, z_bm, kIsi_o0, kIsi_o1, kIsi_if, z_isi, kA2_o0, kA2_o1, kA2_if, kA1_o0, kA1_o1, kA1_if, z_cons, kO_o0, kO_o1, kO_if, z_o1, getV_o, z_var, getG_o, z_gl, isxV_o, blO_o, z_isx, w_rais, xfO_o, w_raisA, z_fldx, kRais_o, kRais_x, kRais_if, xfA_o, fxV_o, fxO_o, w_exc, hO_t, hO_n, hO_f, w_excR, hR_t, hR_f, gR_x, gR_nx, gR_rt, gR_bk, gR_ct, gR_if, gn_nil, gn_v, gn_n, gn_x, gn_s, c_eqT, c_neT, kLc_o0, kLc_o1, kLc_if, z_lc, kLcE_s, kLcE_n, kLcE_if, z_lcc, kLcS_o, kLcT_b, kLcT_x, kLcT_if, z_lcB, kSeq_o0, kSeq_o1, kSeq_o2, kSeq_o3, kSeq_o4, kSeq_if, w_seq, kExpr_o0, kExpr_o1, kExpr_if, w_expr, nxO_o, kAsg_o0, kAsg_o1, kAsg_if, w_asg, stO_o, kSetf2_o0, kSetf2_o1, kSetf2_if, kSetf1_o0, kSetf1_o1, kSetf1_if, w_setf, kSeti3_o0, kSeti3_o1, kSeti3_if, kSeti2_o0, kSeti2_o1, kSeti2_if, kSeti1_o0, kSeti1_o1, kSeti1_if, w_seti, agF_o, kAgi4_o0, kAgi4_o1, kAgi4_if, kAgi3_o0, kAgi3_o1, kAgi3_if, kAgi2_o0, kAgi2_o1, kAgi2_if, kAgi1_o0, kAgi1_o1, kAgi1_if, w_augi, ixL_loc, augP_o, kAug_o0, kAug_o1, kAug_if, augV_o, w_aug, kRet_o0, kRet_o1, kRet_if, w_ret, kIfS_b, kIfS_x, kIfS_if, w_ife, kFor_o0, kFor_o1, kFor_if, w_for, kFork_0, kFork_1, kFork_2, kFork_3, kFork_4, kFork_if, w_forc, w_forB, un_if, gone_if, tryE_if, endF_n, endF_r, endF_x, endF_if, w_run, seal_if, cs_World___init___clock_looked_at, cs_World___init___World_two_hands, cs_World___init___way_looked_at, cs__law_ways__law_stream, cs__law_ways__law_amount, cs_World_way_World_two_hands, cs_Take_own_bounds_World_way, cs__law_row__law_number, cs_Sight___init___Happening___init__, cs_Send___init___Happening___init__, cs_Take___init___Happening___init__, cs_all_whole_is_whole, cs_is_name_all_whole, cs_happening_all_whole, cs_happening_Happening___init__, cs_happening_Sight___init__, cs_happening_is_whole, cs_happening_Send___init__, cs_happening_is_name, cs_happening_Take___init__, cr_law__law_cell_at, cs_law__law_cell_at, cr_law__law_ways, cs_law__law_ways, cr_law_World___init__, cs_law_World___init__, cr_law__law_row, cs_law__law_row, cr_law_happening, cs_law_happening, cr_law_Take___init__, cs_law_Take___init__, cr_law_Happening_own_bounds, cs_law_Happening_own_bounds, cr_law_Sight_own_bounds, cs_law_Sight_own_bounds, cr_law_Take_own_bounds, cs_law_Take_own_bounds, cr_law__law_due, cs_law__law_due, cr_law__law_kinds, cs_law__law_kinds, ck_Sight___init___Happening___init__, cm_Sight___init___Happening___init__, ck_Send___init___Happening___init__, cm_Send___init___Happening___init__, ck_Take___init___Happening___init__, cm_Take___init___Happening___init__, ck_happening_Happening___init__, cm_happening_Happening___init__, ck_happening_Sight___init__, cm_happening_Sight___init__, ck_happening_Send___init__, cm_happening_Send___init__, ck_happening_Take___init__, cm_happening_Take___init__, ck_law_World___init__, cm_law_World___init__, ck_law_Take___init__, cm_law_Take___init__, xf_0, xf_1, xf_2, xf_3, cl_0, cl_1, cl_2, cl_3, mt_0_11, mt_1_11, mt_2_11, mt_3_11, mt_4_11, mt_5_2, mt_5_5, in_1, in_2, in_3, in_4, in_5, fa_0_6, fa_0_8, fa_1_6, fa_1_8, fa_2_3, fa_2_4, fa_2_6, fa_2_8, fa_3_6, fa_3_8, fa_3_10, fa_4_6, fa_4_7, fa_4_8, fa_5_0, fa_5_1, gv_0, gv_1, ↓cf_0, ↓cf_1, ↓cf_2, ↓cf_3, ↓cf_4, ↓cf_5, dv_3, dv_4, dv_5, dv_7, dv_8, dv_11, dv_16, dv_24, dv_35, dv_100, dv_120, dv_240, sh_0, se_0_1, se_0_2, se_0_3, sh_1, se_1_0, se_1_2, se_1_3, sh_2, se_2_0, se_2_1, se_2_3, sh_3, se_3_0, se_3_1, se_3_2, a_clocks, a_bonds, a_two_hands, a_early, a_late, a_way, a_hand, a_letter, a_reading, a___init__, a_to, a_own_bounds, c_Happening, c_Look, c_Sight, c_Send, c_Take, c_World, x_NoHand, x_NoClock, x_NoWay, x_NoHappening, List.take_length, y_clock_looked_at, y_way_looked_at, List.length_replicate, y__law_number, *])
/-- a stretch as a value -/
theorem n_ov {a : Option Int} : isNon (ov a) = a.isNone := by cases a <;> rfl
/-! a world as a value -/
theorem bonds_get {k : Nat} {ws : List Wy} {a : Int} (h0 : 0 ≤ a) (h1 : a < k) : dget (bonds k ws) (.inl a) = some (.dK (inn ws a)) := by
  have := rng_get (fun i => .dK (inn ws i)) h0 h1
  unfold bonds
  rw [this, Int.toNat_of_nonneg h0]
theorem w_two (cs : List (Int × Int)) (ws : List Wy) (x y : Int) (st : Sto) (hl : cs.length < 1000) : Y_World_two_hands [wdD cs ws, .int x, .int y] st = if hnBad cs.length x y then .exc x_NoHand [] st else .ok .non st := by
  have hl2 : cs.length ≤ 16777216 := by omega
  unfold Y_World_two_hands X_World_two_hands f_World_two_hands s_World_two_hands b_World_two_hands_1 hnBad wdD
  by_cases a0 : 0 ≤ x <;> by_cases a1 : x < (cs.length : Int) <;> by_cases b0 : 0 ≤ y <;> by_cases b1 : y < (cs.length : Int) <;> by_cases c : x = y <;> walk_at "auto"
theorem wb_cl {n : Nat} (w : Wy) : closed n w.b = true := by obtain ⟨a, b, c, d⟩ := w; cases d <;> rfl
local macro_rules | `(tactic| walk_at "den") => `(tactic| try simp -implicitDefEqProofs only [FI.fn, x_cst, x_and, x_or, x_and0, x_or0, x_revl, x_nil, x_o0, y_skip, y_retN, y_whl, y_brk, y_cnt, y_try, tryE_nx, tryE_rt, tryE_exc, h_skip, gone_nx, gone_rt, o_add, o_sub, o_mul, o_fdiv, o_mod, o_pow, o_neg, c_lt, c_le, c_gt, c_ge, c_isN, c_notN, c_eqI, c_neI, c_eqB, c_neB, o_addL, k_tup, k_lst, ix0, ix1, ix2, ix3, ix4, itl, itt, lk_nil, un_nx, un_rt, un_exc, for_nil, n_non, n_int, n_bl, n_str, n_tup, n_lst, n_loc, r_ite, r_iteN, lc_nil, lc_Ff, lc_Ft, wp_nil, wp_cons, c_isB, c_notB, p_abs, p_len_lst, p_len_scr, p_len_tup, p_max2, p_min2, i_non_bool, i_non_int, i_non_str, i_non_tuple, i_non_list, i_non_dict, i_bl_bool, i_bl_int, i_bl_str, i_bl_tuple, i_bl_list, i_bl_dict, i_int_bool, i_int_int, i_int_str, i_int_tuple, i_int_list, i_int_dict, i_str_bool, i_str_int, i_str_str, i_str_tuple, i_str_list, i_str_dict, i_tup_bool, i_tup_int, i_tup_str, i_tup_tuple, i_tup_list, i_tup_dict, i_lst_bool, i_lst_int, i_lst_str, i_lst_tuple, i_lst_list, i_lst_dict, List.length_cons, List.length_nil, List.length_map, List.map_cons, List.map_nil, List.cons_append, List.nil_append, List.replicate_zero, List.replicate_succ, List.getElem?_cons_zero, List.getElem?_cons_succ, List.set_cons_zero, List.set_cons_succ, asgT, asgTs, Option.bind_some, Nat.zero_add, Nat.reduceAdd, Nat.reduceSub, ↓reduceIte, if_true, if_false, decide_eq_true_eq, Nat.reduceLT, Int.reduceLT, Nat.reduceEqDiff, Bool.false_eq_true, Bool.not_true, Bool.not_false, Bool.and_true, Bool.true_and, Bool.and_false, Bool.false_and, Bool.or_true, Bool.true_or, Bool.or_false, Bool.false_or, decide_true, decide_false, Int.cast_ofNat_Int, Int.reduceEq, x_own, own_ok, y_kill, y_frz, sl_cl, sl_x0, sl_x1, sl_a, g_app, g_app0, s_app, s_app0, len_app, lk_app, lk_app0, lko_app, lko_app0, fit_o, fit_o0, cl_non, cl_bl, cl_int, cl_str, cl_scr, cl_tup, cl_lst, cl_ins, cl_nil, cl_cons, cl_fnil, cl_fcons, List.append_assoc, List.set_cons_zero, List.set_cons_succ, Nat.add_zero, Nat.reduceLeDiff, LIM, bind_ok, beq_self_eq_true, bmT_eq, bmC_l, bmC_k, bmC_t, bmC_s, lstM, dicM, strM, lm_append, lm_clear, lm_reverse, lm_append_o, lm_clear_o, lm_reverse_o, it_enum_l, ix5, ix6, ix7, ix8, ix9, ix10, ix11, it_seq_l, it_seq_s, slc_scr, mx_0, mx_1, mx_2t, mx_2f, si_eq, si_l, fd_eq, fd_i, cs_eq, cs_i, sf_eq, sf_i, pu_nil, pu_cons, mk_keep, mkK_o, nonL_o, nonL_x, ixm2, ixm3, ixm4, ixm5, ixm6, ixm7, ixm8, ixm9, ixm10, ixm11, ixm12, p_dm, isi_loc, isC_ll, isC_lt, isC_ld, isC_ls, isC_kd, p_lst_l, p_lst_t, p_tup_l, p_lst_loc, it_loc, itO_l, lk_1, un_1, un1_o, lcF_1, lcG_f, lcG_t, un_n1, un_r1, slc_l, slc_loc, slO_l, dn_tf, dn_tt, dn_ff, dn_ft, it_zip, it_rev, iso_i, iso_loc, isoC_i, dsp_i1, it_keys_K, it_keys_T, it_items_K, it_items_T, it_keys_loc, it_items_loc, itQ_kK, itQ_kT, itQ_iK, itQ_iT, dicW, im_loc, im_mu, si_k, si_t, lk_K, lk_T, lk_l, lk_t, lk_s, lk_i, dl_k, dl_s, dl_t, ix_k, ix_ks, ix_t, dp_k, dp_s, dp_t, dd_k, dd_t, ds_k, ds_t, ci_loc, ni_loc, io_K, io_T, ci_K, ni_K, ci_T, ni_T, dlO_o, gtR_o, lm_get1, lm_get2, sdP_o, sdP_if, sdP_n, sdQ_s, sdQ_n, sdR_o, lm_setdef, poQ_s, poR_o, lm_dpop1, ixR_o, plO_o, lm_index, rmR_o, lm_remove, lm_insert, p_len_o, ln_l, ln_K, ln_T, p_len_K, p_len_T, Option.map_some, Option.isSome_some, Option.isSome_none, Option.getD_some, Option.getD_none, Nat.le_add_right, idx_loc, idxO_l, idxO_K, idxO_T, mk_pure, mkP_o, sl_ap, sl_apx, sl_apx1, sl_x2, List.take_succ_cons, List.take_zero, List.take_nil, List.lookup_cons, List.lookup_nil, Nat.reduceBEq, Option.isNone_none, Option.isNone_some, and_true, true_and, and_self, kUn_o0, kUn_o1, kUn_if, z_un, kBin2_o0, kBin2_o1, kBin2_if, kBin1_o0, kBin1_o1, kBin1_if, z_bin, kCmp2_o0, kCmp2_o1, kCmp2_if, kCmp1_o0, kCmp1_o1, kCmp1_if, z_cmp, kChn3_b, kChn3_x, kChn3_if, kChn2_o0, kChn2_o1, kChn2_if, kChn1_o0, kChn1_o1, kChn1_if, z_chn, kNot_o0, kNot_o1, kNot_if, z_not, kAnd_b, kAnd_x, kAnd_if, z_andc, kOr_b, kOr_x, kOr_if, z_orc, kIfe_b, kIfe_x, kIfe_if, z_ife, kTup_o0, kTup_o1, kTup_if, z_tup, kLst_o0, kLst_o1, kLst_if, z_lst, kIdx2_o0, kIdx2_o1, kIdx2_if, kIdx1_o0, kIdx1_o1, kIdx1_if, z_idx, kSlc3_o0, kSlc3_o1, kSlc3_if, kSlc2_o0, kSlc2_o1, kSlc2_if, kSlc1_o0, kSlc1_o1, kSlc1_if, z_slc, kFld_o0, kFld_o1, kFld_if, z_fld, kCall_o0, kCall_o1, kCall_if, z_call, kMeth2_o0, kMeth2_o1, kMeth2_if, kMeth1_o0, kMeth1_o1, kMeth1_if, z_meth, kMake_o0, kMake_o1, kMake_if, z_make, kPr_o0, kPr_o1, kPr_if, z_pr, kIso_o0, kIso_o1, kIso_if, z_iso, kDsp_o0, kDsp_o1, kDsp_if, z_ddsp, kIx2_o0, kIx2_o1, kIx2_if, kIx1_o0, kIx1_o1, kIx1_if, z_idxx, kMx2_o0, kMx2_o1, kMx2_if, kMx1_o0, kMx1_o1, kMx1_if, z_mxd, kBm2_o0, kBm2_o1, kBm2_if, kBm1_o0, kBm1_o1, kBm1_if, z_bm, kIsi_o0, kIsi_o1, kIsi_if, z_isi, kA2_o0, kA2_o1, kA2_if, kA1_o0, kA1_o1, kA1_if, z_cons, kO_o0, kO_o1, kO_if, z_o1, getV_o, z_var, getG_o, z_gl, isxV_o, blO_o, z_isx, w_rais, xfO_o, w_raisA, z_fldx, kRais_o, kRais_x, kRais_if, xfA_o, fxV_o, fxO_o, w_exc, hO_t, hO_n, hO_f, w_excR, hR_t, hR_f, gR_x, gR_nx, gR_rt, gR_bk, gR_ct, gR_if, gn_nil, gn_v, gn_n, gn_x, gn_s, c_eqT, c_neT, kLc_o0, kLc_o1, kLc_if, z_lc, kLcE_s, kLcE_n, kLcE_if, z_lcc, kLcS_o, kLcT_b, kLcT_x, kLcT_if, z_lcB, kSeq_o0, kSeq_o1, kSeq_o2, kSeq_o3, kSeq_o4, kSeq_if, w_seq, kExpr_o0, kExpr_o1, kExpr_if, w_expr, nxO_o, kAsg_o0, kAsg_o1, kAsg_if, w_asg, stO_o, kSetf2_o0, kSetf2_o1, kSetf2_if, kSetf1_o0, kSetf1_o1, kSetf1_if, w_setf, kSeti3_o0, kSeti3_o1, kSeti3_if, kSeti2_o0, kSeti2_o1, kSeti2_if, kSeti1_o0, kSeti1_o1, kSeti1_if, w_seti, agF_o, kAgi4_o0, kAgi4_o1, kAgi4_if, kAgi3_o0, kAgi3_o1, kAgi3_if, kAgi2_o0, kAgi2_o1, kAgi2_if, kAgi1_o0, kAgi1_o1, kAgi1_if, w_augi, ixL_loc, augP_o, kAug_o0, kAug_o1, kAug_if, augV_o, w_aug, kRet_o0, kRet_o1, kRet_if, w_ret, kIfS_b, kIfS_x, kIfS_if, w_ife, kFor_o0, kFor_o1, kFor_if, w_for, kFork_0, kFork_1, kFork_2, kFork_3, kFork_4, kFork_if, w_forc, w_forB, un_if, gone_if, tryE_if, endF_n, endF_r, endF_x, endF_if, w_run, seal_if, cs_World___init___clock_looked_at, cs_World___init___World_two_hands, cs_World___init___way_looked_at, cs__law_ways__law_stream, cs__law_ways__law_amount, cs_World_way_World_two_hands, cs_Take_own_bounds_World_way, cs__law_row__law_number, cs_Sight___init___Happening___init__, cs_Send___init___Happening___init__, cs_Take___init___Happening___init__, cs_all_whole_is_whole, cs_is_name_all_whole, cs_happening_all_whole, cs_happening_Happening___init__, cs_happening_Sight___init__, cs_happening_is_whole, cs_happening_Send___init__, cs_happening_is_name, cs_happening_Take___init__, cr_law__law_cell_at, cs_law__law_cell_at, cr_law__law_ways, cs_law__law_ways, cr_law_World___init__, cs_law_World___init__, cr_law__law_row, cs_law__law_row, cr_law_happening, cs_law_happening, cr_law_Take___init__, cs_law_Take___init__, cr_law_Happening_own_bounds, cs_law_Happening_own_bounds, cr_law_Sight_own_bounds, cs_law_Sight_own_bounds, cr_law_Take_own_bounds, cs_law_Take_own_bounds, cr_law__law_due, cs_law__law_due, cr_law__law_kinds, cs_law__law_kinds, ck_Sight___init___Happening___init__, cm_Sight___init___Happening___init__, ck_Send___init___Happening___init__, cm_Send___init___Happening___init__, ck_Take___init___Happening___init__, cm_Take___init___Happening___init__, ck_happening_Happening___init__, cm_happening_Happening___init__, ck_happening_Sight___init__, cm_happening_Sight___init__, ck_happening_Send___init__, cm_happening_Send___init__, ck_happening_Take___init__, cm_happening_Take___init__, ck_law_World___init__, cm_law_World___init__, ck_law_Take___init__, cm_law_Take___init__, xf_0, xf_1, xf_2, xf_3, cl_0, cl_1, cl_2, cl_3, mt_0_11, mt_1_11, mt_2_11, mt_3_11, mt_4_11, mt_5_2, mt_5_5, in_1, in_2, in_3, in_4, in_5, fa_0_6, fa_0_8, fa_1_6, fa_1_8, fa_2_3, fa_2_4, fa_2_6, fa_2_8, fa_3_6, fa_3_8, fa_3_10, fa_4_6, fa_4_7, fa_4_8, fa_5_0, fa_5_1, gv_0, gv_1, ↓cf_0, ↓cf_1, ↓cf_2, ↓cf_3, ↓cf_4, ↓cf_5, dv_3, dv_4, dv_5, dv_7, dv_8, dv_11, dv_16, dv_24, dv_35, dv_100, dv_120, dv_240, sh_0, se_0_1, se_0_2, se_0_3, sh_1, se_1_0, se_1_2, se_1_3, sh_2, se_2_0, se_2_1, se_2_3, sh_3, se_3_0, se_3_1, se_3_2, a_clocks, a_bonds, a_two_hands, a_early, a_late, a_way, a_hand, a_letter, a_reading, a___init__, a_to, a_own_bounds, c_Happening, c_Look, c_Sight, c_Send, c_Take, c_World, x_NoHand, x_NoClock, x_NoWay, x_NoHappening, List.take_length, y_clock_looked_at, y_way_looked_at, List.length_replicate, y__law_number, w_two, *])
theorem w_way (cs : List (Int × Int)) (ws : List Wy) (x y : Int) (st : Sto) (hl : cs.length < 1000) : Y_World_way [wdD cs ws, .int x, .int y] st = if hnBad cs.length x y then .exc x_NoHand [] st else match ws.find? (fun w => decide (w.one = x ∧ w.other = y)) with
    | some w => .ok w.b st
    | none => .exc x_NoWay [] st := by
  have e := fun st => w_two cs ws x y st hl
  by_cases h : hnBad cs.length x y
  · simp only [h, if_true] at e ⊢
    unfold wdD at *
    unfold Y_World_way X_World_way f_World_way s_World_way
    walk_at "den"
  · simp only [h, if_false] at e ⊢
    have h0 : 0 ≤ x := by unfold hnBad at h; omega
    have h1 : x < cs.length := by unfold hnBad at h; omega
    have eb := @bonds_get cs.length ws x h0 h1
    have ei := @inn_get ws x y
    cases hf : ws.find? (fun w => decide (w.one = x ∧ w.other = y)) with
    | none =>
      rw [hf] at ei
      simp only [Option.map_none] at ei
      unfold wdD at *
      unfold Y_World_way X_World_way f_World_way s_World_way
      walk_at "den"
    | some w =>
      rw [hf] at ei
      simp only [Option.map_some] at ei
      have hc := @wb_cl 0 w
      unfold wdD at *
      unfold Y_World_way X_World_way f_World_way s_World_way
      walk_at "den"
def keyW (w : Wy) : List Key := [.inl w.one, .inl w.other]
def waysD (ws : List Wy) : List (List Key × Den.D) := ws.map fun w => (keyW w, w.b)
theorem ways_get {ws : List Wy} {a b : Int} : dget (waysD ws) [.inl a, .inl b] = (ws.find? fun w => decide (w.one = a ∧ w.other = b)).map Wy.b := by
  unfold waysD dget
  rw [List.find?_map, Option.map_map]
  congr 1
  congr 1
  funext w
  simp only [Function.comp, keyW, List.cons.injEq, Sum.inl.injEq, and_true]
theorem ways_cl {n : Nat} : ∀ {ws : List Wy}, closedT n (waysD ws) = true
  | [] => rfl
  | w :: ws => by
    show (closed n w.b && closedT n (waysD ws)) = true
    rw [wb_cl, ways_cl]; rfl
theorem ways_snoc {ws : List Wy} {w : Wy} (h : ¬ told ws w.one w.other) : dput (waysD ws) [.inl w.one, .inl w.other] w.b = waysD (ws ++ [w]) := by
  rw [dput_new]
  · simp [waysD, keyW]
  · rw [ways_get]
    cases hf : ws.find? (fun v => decide (v.one = w.one ∧ v.other = w.other)) with
    | none => rfl
    | some v =>
      exfalso
      apply h
      have h1 := List.find?_some hf
      exact ⟨v, List.mem_of_find?_eq_some hf, by simpa using h1⟩
/-- a good way of a world of k hands -/
def wyG (k : Int) (w : Wy) : Prop := ¬ hnBad k w.one w.other ∧ 0 ≤ w.least ∧ ¬ most_bad w
theorem no_flt {k : Int} : ∀ (ws pre : List Wy), (∀ w ∈ ws, wyG k w) → ((pre ++ ws).map fun w => (w.one, w.other)).Nodup → flts (wyF k) pre ws = none
  | [], _, _, _ => rfl
  | w :: ws, pre, hg, hn => by
    have g := hg w List.mem_cons_self
    have ht : ¬ told pre w.one w.other := by
      rintro ⟨v, hv, e1, e2⟩
      rw [List.map_append, List.nodup_append] at hn
      exact hn.2.2 (v.one, v.other) (List.mem_map.mpr ⟨v, hv, rfl⟩) (w.one, w.other) (by simp) (by rw [e1, e2])
    have e : wyF k pre w = none := by
      unfold wyF
      rw [if_neg g.1, if_neg ht, if_neg]
      rintro (z | z)
      · have := g.2.1; omega
      · exact g.2.2 z
    unfold flts
    rw [e]
    exact no_flt ws (pre ++ [w]) (fun v hv => hg v (List.mem_cons_of_mem _ hv)) (by rw [List.append_assoc]; exact hn)
theorem find_key {ws : List Wy} (hn : (ws.map fun w => (w.one, w.other)).Nodup) {w : Wy} (hw : w ∈ ws) : ws.find? (fun v => decide (v.one = w.one ∧ v.other = w.other)) = some w := by
  induction ws with
  | nil => cases hw
  | cons v ws ih =>
    rw [List.map_cons, List.nodup_cons] at hn
    rw [List.find?_cons]
    by_cases q : v.one = w.one ∧ v.other = w.other
    · rw [decide_eq_true q]
      rcases List.mem_cons.mp hw with rfl | z
      · rfl
      · exact (hn.1 (List.mem_map.mpr ⟨w, z, by rw [q.1, q.2]⟩)).elim
    · rw [decide_eq_false q]
      rcases List.mem_cons.mp hw with rfl | z
      · exact (q ⟨rfl, rfl⟩).elim
      · exact ih hn.2 z
theorem find_no {ws : List Wy} {a b : Int} (h : ¬ told ws a b) : ws.find? (fun v => decide (v.one = a ∧ v.other = b)) = none := by
  rw [List.find?_eq_none]
  intro v hv
  simp only [decide_eq_true_eq]
  exact fun z => h ⟨v, hv, z⟩
def sf (n k : Int) : Int := (n * n + 48271 * n + k) % 2147483647
theorem sf_b (n k : Int) : 0 ≤ sf n k ∧ sf n k < 2147483647 := ⟨Int.emod_nonneg _ (by decide), Int.emod_lt_of_pos _ (by decide)⟩
theorem y__law_stream (c m : Int) (hm : 0 ≤ m ∧ m < 1000) : ∃ xs : List Int, (xs.length : Int) = m ∧ (∀ x ∈ xs, 0 ≤ x ∧ x < 2147483647) ∧ ∀ st, Y__law_stream [.int c, .int m] st = .ok (.lst (xs.map .int)) st := by
  obtain ⟨n, hn⟩ : ∃ n : Nat, (n : Int) = m + 1 := ⟨(m + 1).toNat, by omega⟩
  obtain ⟨n0, h0⟩ : ∃ n0 : Int, c % 2147483647 + 48271 = n0 := ⟨_, rfl⟩
  have hn0 : 0 ≤ n0 ∧ n0 < 2147483647 + 48271 := by omega
  have hb : ∀ k, 0 ≤ nrAt sf n0 k ∧ nrAt sf n0 k < 2147483647 + 48271 := fun k => by
    cases k with
    | zero => exact hn0
    | succ k => have := sf_b (nrAt sf n0 k) k; unfold nrAt; omega
  refine ⟨(strm sf n0 n).drop 1, by rw [List.length_drop, strm_len]; omega, fun x hx => strm_all (P := fun x => 0 ≤ x ∧ x < 2147483647) sf_b x (List.mem_of_mem_drop hx), fun st => ?_⟩
  have er : evIt .rng1 [.int (m + 1)] st = some (rangeD 0 n 1, []) := by
    rw [← hn]; exact it_rng1 (by omega)
  have er2 : evIt .rng1 [.int (m + 1)] (st ++ [.mu (.lst [])]) = some (rangeD 0 n 1, []) := by
    rw [← hn]; exact it_rng1 (by omega)
  obtain ⟨ρ', st', e, rfl, rfl⟩ := forD_pre (fun i : Nat => Den.D.int (0 + (i : Nat) * 1)) (body := forB P__law_stream st.length (T.nm 4) b__law_stream_1)
    (fun pre ρ st' => ρ = [.v (.int c), .v (.int m), .v (.loc st.length), .v (.int (nrAt sf n0 pre.length)), .no] ∧ st' = st ++ [.mu (.lst ((strm sf n0 pre.length).map .int))])
    (List.range n) (by
      rintro pre i post hq ρ st' ⟨rfl, rfl⟩
      have hi : i = pre.length := by
        have h1 : (List.range n)[pre.length]? = some i := by rw [hq]; simp
        rw [List.getElem?_range] at h1
        · simpa using h1.symm
        · have := congrArg List.length hq; simp at this; omega
      have hin : pre.length < n := by have := congrArg List.length hq; simp at this; omega
      subst hi
      have hb1 := hb pre.length
      obtain ⟨a, ha⟩ : ∃ a, nrAt sf n0 pre.length = a := ⟨_, rfl⟩
      rw [ha] at hb1
      have m1 : mulOk a a = true := mul_sm (by omega) (by omega) (by omega) (by omega)
      have m2 : mulOk 48271 a = true := mul_sm (by omega) (by omega) (by omega) (by omega)
      have hl : (strm sf n0 pre.length).length < 16777216 := by rw [strm_len]; omega
      have hs : (a * a + 48271 * a + (0 + (pre.length : Int) * 1)) % 2147483647 = nrAt sf n0 (pre.length + 1) := by
        show _ = sf (nrAt sf n0 pre.length) pre.length
        rw [ha]; unfold sf; simp
      refine ⟨_, _, .inl (by unfold forB b__law_stream_1; walk_at "den"; rfl), ?_, ?_⟩
      · simp
      · simp [strm_snoc])
    [.v (.int c), .v (.int m), .v (.loc st.length), .v (.int n0), .no] (st ++ [.mu (.lst [])]) ⟨rfl, rfl⟩
  rw [← rangeD_map] at e
  have ec := cut_from ((strm sf n0 n).map Den.D.int) 1 (by decide)
  have hn' : (List.range n).length = n := by simp
  simp only [hn'] at e
  have ecl := @cl_ints 0 ((strm sf n0 n).drop 1)
  have ed : ((strm sf n0 n).map Den.D.int).drop 1 = ((strm sf n0 n).drop 1).map Den.D.int := by rw [List.map_drop]
  rw [show Int.toNat 1 = 1 from rfl, ed] at ec
  unfold Y__law_stream X__law_stream f__law_stream s__law_stream
  walk_at "den"
section
variable {a b c d e : Den.D} {st : Sto}
theorem s13_3 : slcD (.tup [a, b, c]) (some 1) (some 3) st = .ok (.tup [b, c]) st := rfl
theorem s13_4 : slcD (.tup [a, b, c, d]) (some 1) (some 3) st = .ok (.tup [b, c]) st := rfl
theorem s13_5 : slcD (.tup [a, b, c, d, e]) (some 1) (some 3) st = .ok (.tup [b, c]) st := rfl
theorem s1_3 : slcD (.tup [a, b, c]) (some 1) none st = .ok (.tup [b, c]) st := rfl
theorem s1_4 : slcD (.tup [a, b, c, d]) (some 1) none st = .ok (.tup [b, c, d]) st := rfl
theorem s1_5 : slcD (.tup [a, b, c, d, e]) (some 1) none st = .ok (.tup [b, c, d, e]) st := rfl
theorem s3_5 : slcD (.tup [a, b, c, d, e]) (some 3) none st = .ok (.tup [d, e]) st := rfl
theorem s0_i {st : Sto} {c : Nat} {fs : List (Nat × Den.D)} (h : closed 0 (.ins c fs) = true) : sealP st.length (.ok (.loc st.length) (st ++ [.mu (.ins c fs)])) = .ok (.ins c fs) st := sl_loc0 rfl h
end
theorem y_is_whole (i : Int) (st : Sto) : Y_is_whole [.int i] st = .ok (.bl true) st := by
  unfold Y_is_whole X_is_whole f_is_whole s_is_whole
  walk_at "den"
theorem allBls_t : ∀ n : Nat, allBls (List.replicate n (Den.D.bl true)) = some (List.replicate n true)
  | 0 => rfl
  | n + 1 => by
    rw [List.replicate_succ, List.replicate_succ]
    show (allBls (List.replicate n (Den.D.bl true))).map (fun r => true :: r) = _
    rw [allBls_t n]; rfl
theorem all_t (n : Nat) (st : Sto) : prim .all [.lst (List.replicate n (.bl true))] st = .ok (.bl true) st := by
  show (match (allBls (List.replicate n (Den.D.bl true))) with
    | some xs => Res.ok (Den.D.bl (xs.all id)) st
    | none => .stk) = _
  rw [allBls_t]
  simp
local macro_rules | `(tactic| walk_at "den") => `(tactic| try simp -implicitDefEqProofs only [FI.fn, x_cst, x_and, x_or, x_and0, x_or0, x_revl, x_nil, x_o0, y_skip, y_retN, y_whl, y_brk, y_cnt, y_try, tryE_nx, tryE_rt, tryE_exc, h_skip, gone_nx, gone_rt, o_add, o_sub, o_mul, o_fdiv, o_mod, o_pow, o_neg, c_lt, c_le, c_gt, c_ge, c_isN, c_notN, c_eqI, c_neI, c_eqB, c_neB, o_addL, k_tup, k_lst, ix0, ix1, ix2, ix3, ix4, itl, itt, lk_nil, un_nx, un_rt, un_exc, for_nil, n_non, n_int, n_bl, n_str, n_tup, n_lst, n_loc, r_ite, r_iteN, lc_nil, lc_Ff, lc_Ft, wp_nil, wp_cons, c_isB, c_notB, p_abs, p_len_lst, p_len_scr, p_len_tup, p_max2, p_min2, i_non_bool, i_non_int, i_non_str, i_non_tuple, i_non_list, i_non_dict, i_bl_bool, i_bl_int, i_bl_str, i_bl_tuple, i_bl_list, i_bl_dict, i_int_bool, i_int_int, i_int_str, i_int_tuple, i_int_list, i_int_dict, i_str_bool, i_str_int, i_str_str, i_str_tuple, i_str_list, i_str_dict, i_tup_bool, i_tup_int, i_tup_str, i_tup_tuple, i_tup_list, i_tup_dict, i_lst_bool, i_lst_int, i_lst_str, i_lst_tuple, i_lst_list, i_lst_dict, List.length_cons, List.length_nil, List.length_map, List.map_cons, List.map_nil, List.cons_append, List.nil_append, List.replicate_zero, List.replicate_succ, List.getElem?_cons_zero, List.getElem?_cons_succ, List.set_cons_zero, List.set_cons_succ, asgT, asgTs, Option.bind_some, Nat.zero_add, Nat.reduceAdd, Nat.reduceSub, ↓reduceIte, if_true, if_false, decide_eq_true_eq, Nat.reduceLT, Int.reduceLT, Nat.reduceEqDiff, Bool.false_eq_true, Bool.not_true, Bool.not_false, Bool.and_true, Bool.true_and, Bool.and_false, Bool.false_and, Bool.or_true, Bool.true_or, Bool.or_false, Bool.false_or, decide_true, decide_false, Int.cast_ofNat_Int, Int.reduceEq, x_own, own_ok, y_kill, y_frz, sl_cl, sl_x0, sl_x1, sl_a, g_app, g_app0, s_app, s_app0, len_app, lk_app, lk_app0, lko_app, lko_app0, fit_o, fit_o0, cl_non, cl_bl, cl_int, cl_str, cl_scr, cl_tup, cl_lst, cl_ins, cl_nil, cl_cons, cl_fnil, cl_fcons, List.append_assoc, List.set_cons_zero, List.set_cons_succ, Nat.add_zero, Nat.reduceLeDiff, LIM, bind_ok, beq_self_eq_true, bmT_eq, bmC_l, bmC_k, bmC_t, bmC_s, lstM, dicM, strM, lm_append, lm_clear, lm_reverse, lm_append_o, lm_clear_o, lm_reverse_o, it_enum_l, ix5, ix6, ix7, ix8, ix9, ix10, ix11, it_seq_l, it_seq_s, slc_scr, mx_0, mx_1, mx_2t, mx_2f, si_eq, si_l, fd_eq, fd_i, cs_eq, cs_i, sf_eq, sf_i, pu_nil, pu_cons, mk_keep, mkK_o, nonL_o, nonL_x, ixm2, ixm3, ixm4, ixm5, ixm6, ixm7, ixm8, ixm9, ixm10, ixm11, ixm12, p_dm, isi_loc, isC_ll, isC_lt, isC_ld, isC_ls, isC_kd, p_lst_l, p_lst_t, p_tup_l, p_lst_loc, it_loc, itO_l, lk_1, un_1, un1_o, lcF_1, lcG_f, lcG_t, un_n1, un_r1, slc_l, slc_loc, slO_l, dn_tf, dn_tt, dn_ff, dn_ft, it_zip, it_rev, iso_i, iso_loc, isoC_i, dsp_i1, it_keys_K, it_keys_T, it_items_K, it_items_T, it_keys_loc, it_items_loc, itQ_kK, itQ_kT, itQ_iK, itQ_iT, dicW, im_loc, im_mu, si_k, si_t, lk_K, lk_T, lk_l, lk_t, lk_s, lk_i, dl_k, dl_s, dl_t, ix_k, ix_ks, ix_t, dp_k, dp_s, dp_t, dd_k, dd_t, ds_k, ds_t, ci_loc, ni_loc, io_K, io_T, ci_K, ni_K, ci_T, ni_T, dlO_o, gtR_o, lm_get1, lm_get2, sdP_o, sdP_if, sdP_n, sdQ_s, sdQ_n, sdR_o, lm_setdef, poQ_s, poR_o, lm_dpop1, ixR_o, plO_o, lm_index, rmR_o, lm_remove, lm_insert, p_len_o, ln_l, ln_K, ln_T, p_len_K, p_len_T, Option.map_some, Option.isSome_some, Option.isSome_none, Option.getD_some, Option.getD_none, Nat.le_add_right, idx_loc, idxO_l, idxO_K, idxO_T, mk_pure, mkP_o, sl_ap, sl_apx, sl_apx1, sl_x2, List.take_succ_cons, List.take_zero, List.take_nil, List.lookup_cons, List.lookup_nil, Nat.reduceBEq, Option.isNone_none, Option.isNone_some, and_true, true_and, and_self, kUn_o0, kUn_o1, kUn_if, z_un, kBin2_o0, kBin2_o1, kBin2_if, kBin1_o0, kBin1_o1, kBin1_if, z_bin, kCmp2_o0, kCmp2_o1, kCmp2_if, kCmp1_o0, kCmp1_o1, kCmp1_if, z_cmp, kChn3_b, kChn3_x, kChn3_if, kChn2_o0, kChn2_o1, kChn2_if, kChn1_o0, kChn1_o1, kChn1_if, z_chn, kNot_o0, kNot_o1, kNot_if, z_not, kAnd_b, kAnd_x, kAnd_if, z_andc, kOr_b, kOr_x, kOr_if, z_orc, kIfe_b, kIfe_x, kIfe_if, z_ife, kTup_o0, kTup_o1, kTup_if, z_tup, kLst_o0, kLst_o1, kLst_if, z_lst, kIdx2_o0, kIdx2_o1, kIdx2_if, kIdx1_o0, kIdx1_o1, kIdx1_if, z_idx, kSlc3_o0, kSlc3_o1, kSlc3_if, kSlc2_o0, kSlc2_o1, kSlc2_if, kSlc1_o0, kSlc1_o1, kSlc1_if, z_slc, kFld_o0, kFld_o1, kFld_if, z_fld, kCall_o0, kCall_o1, kCall_if, z_call, kMeth2_o0, kMeth2_o1, kMeth2_if, kMeth1_o0, kMeth1_o1, kMeth1_if, z_meth, kMake_o0, kMake_o1, kMake_if, z_make, kPr_o0, kPr_o1, kPr_if, z_pr, kIso_o0, kIso_o1, kIso_if, z_iso, kDsp_o0, kDsp_o1, kDsp_if, z_ddsp, kIx2_o0, kIx2_o1, kIx2_if, kIx1_o0, kIx1_o1, kIx1_if, z_idxx, kMx2_o0, kMx2_o1, kMx2_if, kMx1_o0, kMx1_o1, kMx1_if, z_mxd, kBm2_o0, kBm2_o1, kBm2_if, kBm1_o0, kBm1_o1, kBm1_if, z_bm, kIsi_o0, kIsi_o1, kIsi_if, z_isi, kA2_o0, kA2_o1, kA2_if, kA1_o0, kA1_o1, kA1_if, z_cons, kO_o0, kO_o1, kO_if, z_o1, getV_o, z_var, getG_o, z_gl, isxV_o, blO_o, z_isx, w_rais, xfO_o, w_raisA, z_fldx, kRais_o, kRais_x, kRais_if, xfA_o, fxV_o, fxO_o, w_exc, hO_t, hO_n, hO_f, w_excR, hR_t, hR_f, gR_x, gR_nx, gR_rt, gR_bk, gR_ct, gR_if, gn_nil, gn_v, gn_n, gn_x, gn_s, c_eqT, c_neT, kLc_o0, kLc_o1, kLc_if, z_lc, kLcE_s, kLcE_n, kLcE_if, z_lcc, kLcS_o, kLcT_b, kLcT_x, kLcT_if, z_lcB, kSeq_o0, kSeq_o1, kSeq_o2, kSeq_o3, kSeq_o4, kSeq_if, w_seq, kExpr_o0, kExpr_o1, kExpr_if, w_expr, nxO_o, kAsg_o0, kAsg_o1, kAsg_if, w_asg, stO_o, kSetf2_o0, kSetf2_o1, kSetf2_if, kSetf1_o0, kSetf1_o1, kSetf1_if, w_setf, kSeti3_o0, kSeti3_o1, kSeti3_if, kSeti2_o0, kSeti2_o1, kSeti2_if, kSeti1_o0, kSeti1_o1, kSeti1_if, w_seti, agF_o, kAgi4_o0, kAgi4_o1, kAgi4_if, kAgi3_o0, kAgi3_o1, kAgi3_if, kAgi2_o0, kAgi2_o1, kAgi2_if, kAgi1_o0, kAgi1_o1, kAgi1_if, w_augi, ixL_loc, augP_o, kAug_o0, kAug_o1, kAug_if, augV_o, w_aug, kRet_o0, kRet_o1, kRet_if, w_ret, kIfS_b, kIfS_x, kIfS_if, w_ife, kFor_o0, kFor_o1, kFor_if, w_for, kFork_0, kFork_1, kFork_2, kFork_3, kFork_4, kFork_if, w_forc, w_forB, un_if, gone_if, tryE_if, endF_n, endF_r, endF_x, endF_if, w_run, seal_if, cs_World___init___clock_looked_at, cs_World___init___World_two_hands, cs_World___init___way_looked_at, cs__law_ways__law_stream, cs__law_ways__law_amount, cs_World_way_World_two_hands, cs_Take_own_bounds_World_way, cs__law_row__law_number, cs_Sight___init___Happening___init__, cs_Send___init___Happening___init__, cs_Take___init___Happening___init__, cs_all_whole_is_whole, cs_is_name_all_whole, cs_happening_all_whole, cs_happening_Happening___init__, cs_happening_Sight___init__, cs_happening_is_whole, cs_happening_Send___init__, cs_happening_is_name, cs_happening_Take___init__, cr_law__law_cell_at, cs_law__law_cell_at, cr_law__law_ways, cs_law__law_ways, cr_law_World___init__, cs_law_World___init__, cr_law__law_row, cs_law__law_row, cr_law_happening, cs_law_happening, cr_law_Take___init__, cs_law_Take___init__, cr_law_Happening_own_bounds, cs_law_Happening_own_bounds, cr_law_Sight_own_bounds, cs_law_Sight_own_bounds, cr_law_Take_own_bounds, cs_law_Take_own_bounds, cr_law__law_due, cs_law__law_due, cr_law__law_kinds, cs_law__law_kinds, ck_Sight___init___Happening___init__, cm_Sight___init___Happening___init__, ck_Send___init___Happening___init__, cm_Send___init___Happening___init__, ck_Take___init___Happening___init__, cm_Take___init___Happening___init__, ck_happening_Happening___init__, cm_happening_Happening___init__, ck_happening_Sight___init__, cm_happening_Sight___init__, ck_happening_Send___init__, cm_happening_Send___init__, ck_happening_Take___init__, cm_happening_Take___init__, ck_law_World___init__, cm_law_World___init__, ck_law_Take___init__, cm_law_Take___init__, xf_0, xf_1, xf_2, xf_3, cl_0, cl_1, cl_2, cl_3, mt_0_11, mt_1_11, mt_2_11, mt_3_11, mt_4_11, mt_5_2, mt_5_5, in_1, in_2, in_3, in_4, in_5, fa_0_6, fa_0_8, fa_1_6, fa_1_8, fa_2_3, fa_2_4, fa_2_6, fa_2_8, fa_3_6, fa_3_8, fa_3_10, fa_4_6, fa_4_7, fa_4_8, fa_5_0, fa_5_1, gv_0, gv_1, ↓cf_0, ↓cf_1, ↓cf_2, ↓cf_3, ↓cf_4, ↓cf_5, dv_3, dv_4, dv_5, dv_7, dv_8, dv_11, dv_16, dv_24, dv_35, dv_100, dv_120, dv_240, sh_0, se_0_1, se_0_2, se_0_3, sh_1, se_1_0, se_1_2, se_1_3, sh_2, se_2_0, se_2_1, se_2_3, sh_3, se_3_0, se_3_1, se_3_2, a_clocks, a_bonds, a_two_hands, a_early, a_late, a_way, a_hand, a_letter, a_reading, a___init__, a_to, a_own_bounds, c_Happening, c_Look, c_Sight, c_Send, c_Take, c_World, x_NoHand, x_NoClock, x_NoWay, x_NoHappening, List.take_length, y_clock_looked_at, y_way_looked_at, List.length_replicate, y__law_number, w_two, y_is_whole, all_t, s13_3, s13_4, s13_5, s1_3, s1_4, s1_5, s3_5, *])
theorem y_all_whole (xs : List Int) (hl : xs.length < 100) (st : Sto) : Y_all_whole [.tup (xs.map .int)] st = .ok (.bl true) st := by
  have B : ∀ s2, lcD (lcB P_all_whole st.length (.nm 1) [1] (.cst (.bl true)) (.call 17 .pure (.cons (.var 1) .nil)) [.v (.tup (xs.map .int)), .no]) (xs.map .int) [] s2 = .ok (List.replicate xs.length (.bl true)) s2 := fun s2 => by
    rw [lcD_of (k := Den.D.int) (f := fun _ => some (.bl true)), List.nil_append]
    · congr 1
      clear hl
      induction xs with
      | nil => rfl
      | cons x xs ih => simp [List.replicate_succ, ih]
    · intro a _
      walk_at "den"
  have hl2 : xs.length ≤ 16777216 := by omega
  unfold Y_all_whole X_all_whole f_all_whole s_all_whole
  walk_at "den"
theorem y_is_name (a b : Int) (st : Sto) : Y_is_name [.tup [.int a, .int b]] st = .ok (.bl true) st := by
  have e := fun st => y_all_whole [a, b] (by simp) st
  simp only [List.map_cons, List.map_nil] at e
  unfold Y_is_name X_is_name f_is_name s_is_name
  walk_at "den"
/-- a happening as an instance -/
def hD : Rw → Den.D
  | .look h r => .ins c_Look [(a_hand, .int h), (a_reading, .int r)]
  | .sight h r e l => .ins c_Sight [(a_hand, .int h), (a_reading, .int r), (a_early, .int e), (a_late, .int l)]
  | .send h r t => .ins c_Send [(a_hand, .int h), (a_reading, .int r), (a_to, .int t)]
  | .take h r a b => .ins c_Take [(a_hand, .int h), (a_reading, .int r), (a_letter, .tup [.int a, .int b])]
theorem x_H (c : Nat) (f0 : ∀ i, (Ps i).fa c a_hand = true) (f1 : ∀ i, (Ps i).fa c a_reading = true) (h r : Int) (st : Sto) : X_Happening___init__ [.loc st.length, .int h, .int r] (st ++ [.mu (.ins c [])]) st.length = .ok .non (st ++ [.mu (.ins c [(a_hand, .int h), (a_reading, .int r)])]) := by
  unfold X_Happening___init__ f_Happening___init__ s_Happening___init__
  walk_at "den"
theorem z_look (h r : Int) (st : Sto) : sealP st.length (nonL st.length (X_Happening___init__ [.loc st.length, .int h, .int r] (st ++ [.mu (.ins c_Look [])]) st.length)) = .ok (hD (.look h r)) st := by
  have sx := @s0_i st c_Look [(a_hand, .int h), (a_reading, .int r)] rfl
  have e := x_H c_Look (fun _ => rfl) (fun _ => rfl) h r st
  rw [e]
  unfold hD
  walk_at "den"
theorem z_sight (h r e l : Int) (st : Sto) : sealP st.length (nonL st.length (X_Sight___init__ [.loc st.length, .int h, .int r, .int e, .int l] (st ++ [.mu (.ins c_Sight [])]) st.length)) = .ok (hD (.sight h r e l)) st := by
  have sx := @s0_i st c_Sight [(a_hand, .int h), (a_reading, .int r), (a_early, .int e), (a_late, .int l)] rfl
  have x := x_H c_Sight (fun _ => rfl) (fun _ => rfl) h r st
  unfold X_Sight___init__ f_Sight___init__ s_Sight___init__ hD
  walk_at "den"
theorem z_send (h r t : Int) (st : Sto) : sealP st.length (nonL st.length (X_Send___init__ [.loc st.length, .int h, .int r, .int t] (st ++ [.mu (.ins c_Send [])]) st.length)) = .ok (hD (.send h r t)) st := by
  have sx := @s0_i st c_Send [(a_hand, .int h), (a_reading, .int r), (a_to, .int t)] rfl
  have x := x_H c_Send (fun _ => rfl) (fun _ => rfl) h r st
  unfold X_Send___init__ f_Send___init__ s_Send___init__ hD
  walk_at "den"
theorem z_take (h r a b : Int) (st : Sto) : sealP st.length (nonL st.length (X_Take___init__ [.loc st.length, .int h, .int r, .tup [.int a, .int b]] (st ++ [.mu (.ins c_Take [])]) st.length)) = .ok (hD (.take h r a b)) st := by
  have sx := @s0_i st c_Take [(a_hand, .int h), (a_reading, .int r), (a_letter, .tup [.int a, .int b])] rfl
  have x := x_H c_Take (fun _ => rfl) (fun _ => rfl) h r st
  unfold X_Take___init__ f_Take___init__ s_Take___init__ hD
  walk_at "den"
local macro_rules | `(tactic| walk_at "den") => `(tactic| try simp -implicitDefEqProofs only [FI.fn, x_cst, x_and, x_or, x_and0, x_or0, x_revl, x_nil, x_o0, y_skip, y_retN, y_whl, y_brk, y_cnt, y_try, tryE_nx, tryE_rt, tryE_exc, h_skip, gone_nx, gone_rt, o_add, o_sub, o_mul, o_fdiv, o_mod, o_pow, o_neg, c_lt, c_le, c_gt, c_ge, c_isN, c_notN, c_eqI, c_neI, c_eqB, c_neB, o_addL, k_tup, k_lst, ix0, ix1, ix2, ix3, ix4, itl, itt, lk_nil, un_nx, un_rt, un_exc, for_nil, n_non, n_int, n_bl, n_str, n_tup, n_lst, n_loc, r_ite, r_iteN, lc_nil, lc_Ff, lc_Ft, wp_nil, wp_cons, c_isB, c_notB, p_abs, p_len_lst, p_len_scr, p_len_tup, p_max2, p_min2, i_non_bool, i_non_int, i_non_str, i_non_tuple, i_non_list, i_non_dict, i_bl_bool, i_bl_int, i_bl_str, i_bl_tuple, i_bl_list, i_bl_dict, i_int_bool, i_int_int, i_int_str, i_int_tuple, i_int_list, i_int_dict, i_str_bool, i_str_int, i_str_str, i_str_tuple, i_str_list, i_str_dict, i_tup_bool, i_tup_int, i_tup_str, i_tup_tuple, i_tup_list, i_tup_dict, i_lst_bool, i_lst_int, i_lst_str, i_lst_tuple, i_lst_list, i_lst_dict, List.length_cons, List.length_nil, List.length_map, List.map_cons, List.map_nil, List.cons_append, List.nil_append, List.replicate_zero, List.replicate_succ, List.getElem?_cons_zero, List.getElem?_cons_succ, List.set_cons_zero, List.set_cons_succ, asgT, asgTs, Option.bind_some, Nat.zero_add, Nat.reduceAdd, Nat.reduceSub, ↓reduceIte, if_true, if_false, decide_eq_true_eq, Nat.reduceLT, Int.reduceLT, Nat.reduceEqDiff, Bool.false_eq_true, Bool.not_true, Bool.not_false, Bool.and_true, Bool.true_and, Bool.and_false, Bool.false_and, Bool.or_true, Bool.true_or, Bool.or_false, Bool.false_or, decide_true, decide_false, Int.cast_ofNat_Int, Int.reduceEq, x_own, own_ok, y_kill, y_frz, sl_cl, sl_x0, sl_x1, sl_a, g_app, g_app0, s_app, s_app0, len_app, lk_app, lk_app0, lko_app, lko_app0, fit_o, fit_o0, cl_non, cl_bl, cl_int, cl_str, cl_scr, cl_tup, cl_lst, cl_ins, cl_nil, cl_cons, cl_fnil, cl_fcons, List.append_assoc, List.set_cons_zero, List.set_cons_succ, Nat.add_zero, Nat.reduceLeDiff, LIM, bind_ok, beq_self_eq_true, bmT_eq, bmC_l, bmC_k, bmC_t, bmC_s, lstM, dicM, strM, lm_append, lm_clear, lm_reverse, lm_append_o, lm_clear_o, lm_reverse_o, it_enum_l, ix5, ix6, ix7, ix8, ix9, ix10, ix11, it_seq_l, it_seq_s, slc_scr, mx_0, mx_1, mx_2t, mx_2f, si_eq, si_l, fd_eq, fd_i, cs_eq, cs_i, sf_eq, sf_i, pu_nil, pu_cons, mk_keep, mkK_o, nonL_o, nonL_x, ixm2, ixm3, ixm4, ixm5, ixm6, ixm7, ixm8, ixm9, ixm10, ixm11, ixm12, p_dm, isi_loc, isC_ll, isC_lt, isC_ld, isC_ls, isC_kd, p_lst_l, p_lst_t, p_tup_l, p_lst_loc, it_loc, itO_l, lk_1, un_1, un1_o, lcF_1, lcG_f, lcG_t, un_n1, un_r1, slc_l, slc_loc, slO_l, dn_tf, dn_tt, dn_ff, dn_ft, it_zip, it_rev, iso_i, iso_loc, isoC_i, dsp_i1, it_keys_K, it_keys_T, it_items_K, it_items_T, it_keys_loc, it_items_loc, itQ_kK, itQ_kT, itQ_iK, itQ_iT, dicW, im_loc, im_mu, si_k, si_t, lk_K, lk_T, lk_l, lk_t, lk_s, lk_i, dl_k, dl_s, dl_t, ix_k, ix_ks, ix_t, dp_k, dp_s, dp_t, dd_k, dd_t, ds_k, ds_t, ci_loc, ni_loc, io_K, io_T, ci_K, ni_K, ci_T, ni_T, dlO_o, gtR_o, lm_get1, lm_get2, sdP_o, sdP_if, sdP_n, sdQ_s, sdQ_n, sdR_o, lm_setdef, poQ_s, poR_o, lm_dpop1, ixR_o, plO_o, lm_index, rmR_o, lm_remove, lm_insert, p_len_o, ln_l, ln_K, ln_T, p_len_K, p_len_T, Option.map_some, Option.isSome_some, Option.isSome_none, Option.getD_some, Option.getD_none, Nat.le_add_right, idx_loc, idxO_l, idxO_K, idxO_T, mk_pure, mkP_o, sl_ap, sl_apx, sl_apx1, sl_x2, List.take_succ_cons, List.take_zero, List.take_nil, List.lookup_cons, List.lookup_nil, Nat.reduceBEq, Option.isNone_none, Option.isNone_some, and_true, true_and, and_self, kUn_o0, kUn_o1, kUn_if, z_un, kBin2_o0, kBin2_o1, kBin2_if, kBin1_o0, kBin1_o1, kBin1_if, z_bin, kCmp2_o0, kCmp2_o1, kCmp2_if, kCmp1_o0, kCmp1_o1, kCmp1_if, z_cmp, kChn3_b, kChn3_x, kChn3_if, kChn2_o0, kChn2_o1, kChn2_if, kChn1_o0, kChn1_o1, kChn1_if, z_chn, kNot_o0, kNot_o1, kNot_if, z_not, kAnd_b, kAnd_x, kAnd_if, z_andc, kOr_b, kOr_x, kOr_if, z_orc, kIfe_b, kIfe_x, kIfe_if, z_ife, kTup_o0, kTup_o1, kTup_if, z_tup, kLst_o0, kLst_o1, kLst_if, z_lst, kIdx2_o0, kIdx2_o1, kIdx2_if, kIdx1_o0, kIdx1_o1, kIdx1_if, z_idx, kSlc3_o0, kSlc3_o1, kSlc3_if, kSlc2_o0, kSlc2_o1, kSlc2_if, kSlc1_o0, kSlc1_o1, kSlc1_if, z_slc, kFld_o0, kFld_o1, kFld_if, z_fld, kCall_o0, kCall_o1, kCall_if, z_call, kMeth2_o0, kMeth2_o1, kMeth2_if, kMeth1_o0, kMeth1_o1, kMeth1_if, z_meth, kMake_o0, kMake_o1, kMake_if, z_make, kPr_o0, kPr_o1, kPr_if, z_pr, kIso_o0, kIso_o1, kIso_if, z_iso, kDsp_o0, kDsp_o1, kDsp_if, z_ddsp, kIx2_o0, kIx2_o1, kIx2_if, kIx1_o0, kIx1_o1, kIx1_if, z_idxx, kMx2_o0, kMx2_o1, kMx2_if, kMx1_o0, kMx1_o1, kMx1_if, z_mxd, kBm2_o0, kBm2_o1, kBm2_if, kBm1_o0, kBm1_o1, kBm1_if, z_bm, kIsi_o0, kIsi_o1, kIsi_if, z_isi, kA2_o0, kA2_o1, kA2_if, kA1_o0, kA1_o1, kA1_if, z_cons, kO_o0, kO_o1, kO_if, z_o1, getV_o, z_var, getG_o, z_gl, isxV_o, blO_o, z_isx, w_rais, xfO_o, w_raisA, z_fldx, kRais_o, kRais_x, kRais_if, xfA_o, fxV_o, fxO_o, w_exc, hO_t, hO_n, hO_f, w_excR, hR_t, hR_f, gR_x, gR_nx, gR_rt, gR_bk, gR_ct, gR_if, gn_nil, gn_v, gn_n, gn_x, gn_s, c_eqT, c_neT, kLc_o0, kLc_o1, kLc_if, z_lc, kLcE_s, kLcE_n, kLcE_if, z_lcc, kLcS_o, kLcT_b, kLcT_x, kLcT_if, z_lcB, kSeq_o0, kSeq_o1, kSeq_o2, kSeq_o3, kSeq_o4, kSeq_if, w_seq, kExpr_o0, kExpr_o1, kExpr_if, w_expr, nxO_o, kAsg_o0, kAsg_o1, kAsg_if, w_asg, stO_o, kSetf2_o0, kSetf2_o1, kSetf2_if, kSetf1_o0, kSetf1_o1, kSetf1_if, w_setf, kSeti3_o0, kSeti3_o1, kSeti3_if, kSeti2_o0, kSeti2_o1, kSeti2_if, kSeti1_o0, kSeti1_o1, kSeti1_if, w_seti, agF_o, kAgi4_o0, kAgi4_o1, kAgi4_if, kAgi3_o0, kAgi3_o1, kAgi3_if, kAgi2_o0, kAgi2_o1, kAgi2_if, kAgi1_o0, kAgi1_o1, kAgi1_if, w_augi, ixL_loc, augP_o, kAug_o0, kAug_o1, kAug_if, augV_o, w_aug, kRet_o0, kRet_o1, kRet_if, w_ret, kIfS_b, kIfS_x, kIfS_if, w_ife, kFor_o0, kFor_o1, kFor_if, w_for, kFork_0, kFork_1, kFork_2, kFork_3, kFork_4, kFork_if, w_forc, w_forB, un_if, gone_if, tryE_if, endF_n, endF_r, endF_x, endF_if, w_run, seal_if, cs_World___init___clock_looked_at, cs_World___init___World_two_hands, cs_World___init___way_looked_at, cs__law_ways__law_stream, cs__law_ways__law_amount, cs_World_way_World_two_hands, cs_Take_own_bounds_World_way, cs__law_row__law_number, cs_Sight___init___Happening___init__, cs_Send___init___Happening___init__, cs_Take___init___Happening___init__, cs_all_whole_is_whole, cs_is_name_all_whole, cs_happening_all_whole, cs_happening_Happening___init__, cs_happening_Sight___init__, cs_happening_is_whole, cs_happening_Send___init__, cs_happening_is_name, cs_happening_Take___init__, cr_law__law_cell_at, cs_law__law_cell_at, cr_law__law_ways, cs_law__law_ways, cr_law_World___init__, cs_law_World___init__, cr_law__law_row, cs_law__law_row, cr_law_happening, cs_law_happening, cr_law_Take___init__, cs_law_Take___init__, cr_law_Happening_own_bounds, cs_law_Happening_own_bounds, cr_law_Sight_own_bounds, cs_law_Sight_own_bounds, cr_law_Take_own_bounds, cs_law_Take_own_bounds, cr_law__law_due, cs_law__law_due, cr_law__law_kinds, cs_law__law_kinds, ck_Sight___init___Happening___init__, cm_Sight___init___Happening___init__, ck_Send___init___Happening___init__, cm_Send___init___Happening___init__, ck_Take___init___Happening___init__, cm_Take___init___Happening___init__, ck_happening_Happening___init__, cm_happening_Happening___init__, ck_happening_Sight___init__, cm_happening_Sight___init__, ck_happening_Send___init__, cm_happening_Send___init__, ck_happening_Take___init__, cm_happening_Take___init__, ck_law_World___init__, cm_law_World___init__, ck_law_Take___init__, cm_law_Take___init__, xf_0, xf_1, xf_2, xf_3, cl_0, cl_1, cl_2, cl_3, mt_0_11, mt_1_11, mt_2_11, mt_3_11, mt_4_11, mt_5_2, mt_5_5, in_1, in_2, in_3, in_4, in_5, fa_0_6, fa_0_8, fa_1_6, fa_1_8, fa_2_3, fa_2_4, fa_2_6, fa_2_8, fa_3_6, fa_3_8, fa_3_10, fa_4_6, fa_4_7, fa_4_8, fa_5_0, fa_5_1, gv_0, gv_1, ↓cf_0, ↓cf_1, ↓cf_2, ↓cf_3, ↓cf_4, ↓cf_5, dv_3, dv_4, dv_5, dv_7, dv_8, dv_11, dv_16, dv_24, dv_35, dv_100, dv_120, dv_240, sh_0, se_0_1, se_0_2, se_0_3, sh_1, se_1_0, se_1_2, se_1_3, sh_2, se_2_0, se_2_1, se_2_3, sh_3, se_3_0, se_3_1, se_3_2, a_clocks, a_bonds, a_two_hands, a_early, a_late, a_way, a_hand, a_letter, a_reading, a___init__, a_to, a_own_bounds, c_Happening, c_Look, c_Sight, c_Send, c_Take, c_World, x_NoHand, x_NoClock, x_NoWay, x_NoHappening, List.take_length, y_clock_looked_at, y_way_looked_at, List.length_replicate, y__law_number, w_two, y_is_whole, all_t, s13_3, s13_4, s13_5, s1_3, s1_4, s1_5, s3_5, z_look, z_sight, z_send, z_take, y_is_name, *])
theorem y_happening (w : Rw) (st : Sto) : Y_happening [w.d] st = .ok (hD w) st := by
  cases w with
  | look h r =>
    have e := fun st => y_all_whole [h, r] (by simp) st
    have hc : closed 0 (hD (.look h r)) = true := rfl
    simp only [List.map_cons, List.map_nil] at e
    unfold Y_happening X_happening f_happening s_happening Rw.d
    walk_at "den"
  | sight h r a l =>
    have e := fun st => y_all_whole [h, r] (by simp) st
    have e2 := fun st => y_all_whole [a, l] (by simp) st
    have hc : closed 0 (hD (.sight h r a l)) = true := rfl
    simp only [List.map_cons, List.map_nil] at e e2
    unfold Y_happening X_happening f_happening s_happening Rw.d
    walk_at "den"
  | send h r t =>
    have e := fun st => y_all_whole [h, r] (by simp) st
    have hc : closed 0 (hD (.send h r t)) = true := rfl
    simp only [List.map_cons, List.map_nil] at e
    unfold Y_happening X_happening f_happening s_happening Rw.d
    walk_at "den"
  | take h r a b =>
    have e := fun st => y_all_whole [h, r] (by simp) st
    have hc : closed 0 (hD (.take h r a b)) = true := rfl
    simp only [List.map_cons, List.map_nil] at e
    unfold Y_happening X_happening f_happening s_happening Rw.d
    walk_at "den"
theorem sf_new {st : Sto} {d : Den.D} (hc : closed st.length d = true) : sealF st.length (.ok (.loc st.length) (st ++ [.mu d])) = .ok (.loc st.length) (st ++ [.mu d]) := by
  show (if st.length < st.length then Res.stk else match (st ++ [Cell.mu d])[st.length]? with
    | some (.mu c) => match deep ((st ++ [Cell.mu d]).set st.length .dead) st.length c with
      | some c' => Res.ok (Den.D.loc ((st ++ [Cell.mu d]).take st.length).length) ((st ++ [Cell.mu d]).take st.length ++ [.mu c'])
      | none => .stk
    | _ => .stk) = _
  rw [if_neg (by omega)]
  have hg : (st ++ [Cell.mu d])[st.length]? = some (Cell.mu d) := by simp
  rw [hg]
  dsimp only
  rw [deep_cl hc, tk_app]
/-- a bound -/
structure Bd where
  x : Int × Int
  y : Int × Int
  n : Int
  deriving DecidableEq
def Bd.d (b : Bd) : Den.D := .tup [prD b.x, prD b.y, .int b.n]
def Bd.q (b : Bd) : PyData := .tuple [.tuple [.int b.x.1, .int b.x.2], .tuple [.int b.y.1, .int b.y.2], .int b.n]
def encBd : Enc Bd.d 2 where
  q := Bd.q
  to := fun b => rfl
  lay := fun b => rfl
  dep := fun b => by simp [Bd.q, PyData.depth, PyData.depthAll]
  eq := fun a b => by
    obtain ⟨⟨a1, a2⟩, ⟨a3, a4⟩, a5⟩ := a
    obtain ⟨⟨b1, b2⟩, ⟨b3, b4⟩, b5⟩ := b
    simp [Bd.q, PyData.eqv, PyData.eqvAll, Bool.beq_eq_decide_eq, Bool.decide_and, Bool.and_assoc]
def bds (w : Rw) (nm : Int × Int) (wy : Wy) : List Bd := match w with
  | .sight _ _ e l => [⟨(-1, 0), nm, l⟩, ⟨nm, (-1, 0), 0 - e⟩]
  | .take _ _ a b => ⟨nm, (a, b), 0 - wy.least⟩ :: (match wy.most with
    | some m => [⟨(a, b), nm, m⟩]
    | none => [])
  | _ => []
theorem cl_bds {n : Nat} {l : List Bd} : closed n (.lst (l.map Bd.d)) = true := cl_map _ (fun _ => rfl) l
theorem z_Hb (d a b : Den.D) (st : Sto) : Z_Happening_own_bounds [d, a, b] st = .ok (.loc st.length) (st ++ [.mu (.lst [])]) := by
  have hs := @sf_new st (.lst []) rfl
  unfold Z_Happening_own_bounds X_Happening_own_bounds f_Happening_own_bounds s_Happening_own_bounds
  walk_at "den"
theorem z_Sb (h r e l : Int) (W : Den.D) (nm : Int × Int) (wy : Wy) (st : Sto) : Z_Sight_own_bounds [hD (.sight h r e l), W, prD nm] st = .ok (.loc st.length) (st ++ [.mu (.lst ((bds (.sight h r e l) nm wy).map Bd.d))]) := by
  have hs := @sf_new st (.lst ((bds (.sight h r e l) nm wy).map Bd.d)) cl_bds
  unfold bds hD at *
  simp only [List.map_cons, List.map_nil, Bd.d, prD] at hs ⊢
  unfold Z_Sight_own_bounds X_Sight_own_bounds f_Sight_own_bounds s_Sight_own_bounds
  walk_at "den"
theorem z_Tb (h r a b : Int) (cs : List (Int × Int)) (ws : List Wy) (nm : Int × Int) (wy : Wy) (hl : cs.length < 1000) (hb : ¬ hnBad cs.length a h) (hf : ws.find? (fun w => decide (w.one = a ∧ w.other = h)) = some wy) (st : Sto) : Z_Take_own_bounds [hD (.take h r a b), wdD cs ws, prD nm] st = .ok (.loc st.length) (st ++ [.mu (.lst ((bds (.take h r a b) nm wy).map Bd.d))]) := by
  have hs := @sf_new st (.lst ((bds (.take h r a b) nm wy).map Bd.d)) cl_bds
  have ew := fun st => w_way cs ws a h st hl
  simp only [hb, if_false, hf] at ew
  obtain ⟨w1, w2, w3, w4⟩ := wy
  clear hf hb hl
  unfold wdD at *
  unfold bds hD at *
  cases w4 with
  | none =>
    simp only [List.map_cons, List.map_nil, Bd.d, prD, Wy.b, ov] at hs ew ⊢
    unfold Z_Take_own_bounds X_Take_own_bounds f_Take_own_bounds s_Take_own_bounds
    walk_at "den"
  | some m =>
    simp only [List.map_cons, List.map_nil, Bd.d, prD, Wy.b, ov] at hs ew ⊢
    unfold Z_Take_own_bounds X_Take_own_bounds f_Take_own_bounds s_Take_own_bounds
    walk_at "den"
theorem y__law_due (w : Rw) (nm : Int × Int) (ws : List Wy) (wy : Wy) (hf : ∀ h r a b, w = .take h r a b → ws.find? (fun v => decide (v.one = a ∧ v.other = h)) = some wy) (st : Sto) : Y__law_due [w.d, prD nm, .dT (waysD ws)] st = .ok (.lst ((bds w nm wy).map Bd.d)) st := by
  have hc : closed 0 (.lst ((bds w nm wy).map Bd.d)) = true := cl_bds
  cases w with
  | look h r =>
    unfold bds at *
    unfold Y__law_due X__law_due f__law_due s__law_due Rw.d
    walk_at "den"
  | sight h r e l =>
    unfold bds at *
    simp only [List.map_cons, List.map_nil, Bd.d, prD] at hc ⊢
    unfold Y__law_due X__law_due f__law_due s__law_due Rw.d
    walk_at "den"
  | send h r t =>
    unfold bds at *
    unfold Y__law_due X__law_due f__law_due s__law_due Rw.d
    walk_at "den"
  | take h r a b =>
    have gw := @ways_get ws a h
    rw [hf h r a b rfl] at gw
    simp only [Option.map_some] at gw
    obtain ⟨w1, w2, w3, w4⟩ := wy
    clear hf
    have sl : sealP st.length (.ok (.loc st.length) (st ++ [.mu (.lst ((bds (.take h r a b) nm ⟨w1, w2, w3, w4⟩).map Bd.d))])) = .ok (.lst ((bds (.take h r a b) nm ⟨w1, w2, w3, w4⟩).map Bd.d)) st := sl_loc0 rfl hc
    unfold bds at *
    cases w4 with
    | none =>
      simp only [List.map_cons, List.map_nil, Bd.d, prD, Wy.b, ov] at hc gw sl ⊢
      unfold Y__law_due X__law_due f__law_due s__law_due Rw.d
      walk_at "den"
    | some m =>
      simp only [List.map_cons, List.map_nil, Bd.d, prD, Wy.b, ov] at hc gw sl ⊢
      unfold Y__law_due X__law_due f__law_due s__law_due Rw.d
      walk_at "den"
section
variable {a b c d e : Den.D} {st : Sto}
theorem t22 : opB .add (.tup [a, b]) (.tup [c, d]) st = .ok (.tup [a, b, c, d]) st := rfl
theorem t41 : opB .add (.tup [a, b, c, d]) (.tup [e]) st = .ok (.tup [a, b, c, d, e]) st := rfl
theorem s2_3 : slcD (.tup [a, b, c]) (some 2) none st = .ok (.tup [c]) st := rfl
end
local macro_rules | `(tactic| walk_at "den") => `(tactic| try simp -implicitDefEqProofs only [FI.fn, x_cst, x_and, x_or, x_and0, x_or0, x_revl, x_nil, x_o0, y_skip, y_retN, y_whl, y_brk, y_cnt, y_try, tryE_nx, tryE_rt, tryE_exc, h_skip, gone_nx, gone_rt, o_add, o_sub, o_mul, o_fdiv, o_mod, o_pow, o_neg, c_lt, c_le, c_gt, c_ge, c_isN, c_notN, c_eqI, c_neI, c_eqB, c_neB, o_addL, k_tup, k_lst, ix0, ix1, ix2, ix3, ix4, itl, itt, lk_nil, un_nx, un_rt, un_exc, for_nil, n_non, n_int, n_bl, n_str, n_tup, n_lst, n_loc, r_ite, r_iteN, lc_nil, lc_Ff, lc_Ft, wp_nil, wp_cons, c_isB, c_notB, p_abs, p_len_lst, p_len_scr, p_len_tup, p_max2, p_min2, i_non_bool, i_non_int, i_non_str, i_non_tuple, i_non_list, i_non_dict, i_bl_bool, i_bl_int, i_bl_str, i_bl_tuple, i_bl_list, i_bl_dict, i_int_bool, i_int_int, i_int_str, i_int_tuple, i_int_list, i_int_dict, i_str_bool, i_str_int, i_str_str, i_str_tuple, i_str_list, i_str_dict, i_tup_bool, i_tup_int, i_tup_str, i_tup_tuple, i_tup_list, i_tup_dict, i_lst_bool, i_lst_int, i_lst_str, i_lst_tuple, i_lst_list, i_lst_dict, List.length_cons, List.length_nil, List.length_map, List.map_cons, List.map_nil, List.cons_append, List.nil_append, List.replicate_zero, List.replicate_succ, List.getElem?_cons_zero, List.getElem?_cons_succ, List.set_cons_zero, List.set_cons_succ, asgT, asgTs, Option.bind_some, Nat.zero_add, Nat.reduceAdd, Nat.reduceSub, ↓reduceIte, if_true, if_false, decide_eq_true_eq, Nat.reduceLT, Int.reduceLT, Nat.reduceEqDiff, Bool.false_eq_true, Bool.not_true, Bool.not_false, Bool.and_true, Bool.true_and, Bool.and_false, Bool.false_and, Bool.or_true, Bool.true_or, Bool.or_false, Bool.false_or, decide_true, decide_false, Int.cast_ofNat_Int, Int.reduceEq, x_own, own_ok, y_kill, y_frz, sl_cl, sl_x0, sl_x1, sl_a, g_app, g_app0, s_app, s_app0, len_app, lk_app, lk_app0, lko_app, lko_app0, fit_o, fit_o0, cl_non, cl_bl, cl_int, cl_str, cl_scr, cl_tup, cl_lst, cl_ins, cl_nil, cl_cons, cl_fnil, cl_fcons, List.append_assoc, List.set_cons_zero, List.set_cons_succ, Nat.add_zero, Nat.reduceLeDiff, LIM, bind_ok, beq_self_eq_true, bmT_eq, bmC_l, bmC_k, bmC_t, bmC_s, lstM, dicM, strM, lm_append, lm_clear, lm_reverse, lm_append_o, lm_clear_o, lm_reverse_o, it_enum_l, ix5, ix6, ix7, ix8, ix9, ix10, ix11, it_seq_l, it_seq_s, slc_scr, mx_0, mx_1, mx_2t, mx_2f, si_eq, si_l, fd_eq, fd_i, cs_eq, cs_i, sf_eq, sf_i, pu_nil, pu_cons, mk_keep, mkK_o, nonL_o, nonL_x, ixm2, ixm3, ixm4, ixm5, ixm6, ixm7, ixm8, ixm9, ixm10, ixm11, ixm12, p_dm, isi_loc, isC_ll, isC_lt, isC_ld, isC_ls, isC_kd, p_lst_l, p_lst_t, p_tup_l, p_lst_loc, it_loc, itO_l, lk_1, un_1, un1_o, lcF_1, lcG_f, lcG_t, un_n1, un_r1, slc_l, slc_loc, slO_l, dn_tf, dn_tt, dn_ff, dn_ft, it_zip, it_rev, iso_i, iso_loc, isoC_i, dsp_i1, it_keys_K, it_keys_T, it_items_K, it_items_T, it_keys_loc, it_items_loc, itQ_kK, itQ_kT, itQ_iK, itQ_iT, dicW, im_loc, im_mu, si_k, si_t, lk_K, lk_T, lk_l, lk_t, lk_s, lk_i, dl_k, dl_s, dl_t, ix_k, ix_ks, ix_t, dp_k, dp_s, dp_t, dd_k, dd_t, ds_k, ds_t, ci_loc, ni_loc, io_K, io_T, ci_K, ni_K, ci_T, ni_T, dlO_o, gtR_o, lm_get1, lm_get2, sdP_o, sdP_if, sdP_n, sdQ_s, sdQ_n, sdR_o, lm_setdef, poQ_s, poR_o, lm_dpop1, ixR_o, plO_o, lm_index, rmR_o, lm_remove, lm_insert, p_len_o, ln_l, ln_K, ln_T, p_len_K, p_len_T, Option.map_some, Option.isSome_some, Option.isSome_none, Option.getD_some, Option.getD_none, Nat.le_add_right, idx_loc, idxO_l, idxO_K, idxO_T, mk_pure, mkP_o, sl_ap, sl_apx, sl_apx1, sl_x2, List.take_succ_cons, List.take_zero, List.take_nil, List.lookup_cons, List.lookup_nil, Nat.reduceBEq, Option.isNone_none, Option.isNone_some, and_true, true_and, and_self, kUn_o0, kUn_o1, kUn_if, z_un, kBin2_o0, kBin2_o1, kBin2_if, kBin1_o0, kBin1_o1, kBin1_if, z_bin, kCmp2_o0, kCmp2_o1, kCmp2_if, kCmp1_o0, kCmp1_o1, kCmp1_if, z_cmp, kChn3_b, kChn3_x, kChn3_if, kChn2_o0, kChn2_o1, kChn2_if, kChn1_o0, kChn1_o1, kChn1_if, z_chn, kNot_o0, kNot_o1, kNot_if, z_not, kAnd_b, kAnd_x, kAnd_if, z_andc, kOr_b, kOr_x, kOr_if, z_orc, kIfe_b, kIfe_x, kIfe_if, z_ife, kTup_o0, kTup_o1, kTup_if, z_tup, kLst_o0, kLst_o1, kLst_if, z_lst, kIdx2_o0, kIdx2_o1, kIdx2_if, kIdx1_o0, kIdx1_o1, kIdx1_if, z_idx, kSlc3_o0, kSlc3_o1, kSlc3_if, kSlc2_o0, kSlc2_o1, kSlc2_if, kSlc1_o0, kSlc1_o1, kSlc1_if, z_slc, kFld_o0, kFld_o1, kFld_if, z_fld, kCall_o0, kCall_o1, kCall_if, z_call, kMeth2_o0, kMeth2_o1, kMeth2_if, kMeth1_o0, kMeth1_o1, kMeth1_if, z_meth, kMake_o0, kMake_o1, kMake_if, z_make, kPr_o0, kPr_o1, kPr_if, z_pr, kIso_o0, kIso_o1, kIso_if, z_iso, kDsp_o0, kDsp_o1, kDsp_if, z_ddsp, kIx2_o0, kIx2_o1, kIx2_if, kIx1_o0, kIx1_o1, kIx1_if, z_idxx, kMx2_o0, kMx2_o1, kMx2_if, kMx1_o0, kMx1_o1, kMx1_if, z_mxd, kBm2_o0, kBm2_o1, kBm2_if, kBm1_o0, kBm1_o1, kBm1_if, z_bm, kIsi_o0, kIsi_o1, kIsi_if, z_isi, kA2_o0, kA2_o1, kA2_if, kA1_o0, kA1_o1, kA1_if, z_cons, kO_o0, kO_o1, kO_if, z_o1, getV_o, z_var, getG_o, z_gl, isxV_o, blO_o, z_isx, w_rais, xfO_o, w_raisA, z_fldx, kRais_o, kRais_x, kRais_if, xfA_o, fxV_o, fxO_o, w_exc, hO_t, hO_n, hO_f, w_excR, hR_t, hR_f, gR_x, gR_nx, gR_rt, gR_bk, gR_ct, gR_if, gn_nil, gn_v, gn_n, gn_x, gn_s, c_eqT, c_neT, kLc_o0, kLc_o1, kLc_if, z_lc, kLcE_s, kLcE_n, kLcE_if, z_lcc, kLcS_o, kLcT_b, kLcT_x, kLcT_if, z_lcB, kSeq_o0, kSeq_o1, kSeq_o2, kSeq_o3, kSeq_o4, kSeq_if, w_seq, kExpr_o0, kExpr_o1, kExpr_if, w_expr, nxO_o, kAsg_o0, kAsg_o1, kAsg_if, w_asg, stO_o, kSetf2_o0, kSetf2_o1, kSetf2_if, kSetf1_o0, kSetf1_o1, kSetf1_if, w_setf, kSeti3_o0, kSeti3_o1, kSeti3_if, kSeti2_o0, kSeti2_o1, kSeti2_if, kSeti1_o0, kSeti1_o1, kSeti1_if, w_seti, agF_o, kAgi4_o0, kAgi4_o1, kAgi4_if, kAgi3_o0, kAgi3_o1, kAgi3_if, kAgi2_o0, kAgi2_o1, kAgi2_if, kAgi1_o0, kAgi1_o1, kAgi1_if, w_augi, ixL_loc, augP_o, kAug_o0, kAug_o1, kAug_if, augV_o, w_aug, kRet_o0, kRet_o1, kRet_if, w_ret, kIfS_b, kIfS_x, kIfS_if, w_ife, kFor_o0, kFor_o1, kFor_if, w_for, kFork_0, kFork_1, kFork_2, kFork_3, kFork_4, kFork_if, w_forc, w_forB, un_if, gone_if, tryE_if, endF_n, endF_r, endF_x, endF_if, w_run, seal_if, cs_World___init___clock_looked_at, cs_World___init___World_two_hands, cs_World___init___way_looked_at, cs__law_ways__law_stream, cs__law_ways__law_amount, cs_World_way_World_two_hands, cs_Take_own_bounds_World_way, cs__law_row__law_number, cs_Sight___init___Happening___init__, cs_Send___init___Happening___init__, cs_Take___init___Happening___init__, cs_all_whole_is_whole, cs_is_name_all_whole, cs_happening_all_whole, cs_happening_Happening___init__, cs_happening_Sight___init__, cs_happening_is_whole, cs_happening_Send___init__, cs_happening_is_name, cs_happening_Take___init__, cr_law__law_cell_at, cs_law__law_cell_at, cr_law__law_ways, cs_law__law_ways, cr_law_World___init__, cs_law_World___init__, cr_law__law_row, cs_law__law_row, cr_law_happening, cs_law_happening, cr_law_Take___init__, cs_law_Take___init__, cr_law_Happening_own_bounds, cs_law_Happening_own_bounds, cr_law_Sight_own_bounds, cs_law_Sight_own_bounds, cr_law_Take_own_bounds, cs_law_Take_own_bounds, cr_law__law_due, cs_law__law_due, cr_law__law_kinds, cs_law__law_kinds, ck_Sight___init___Happening___init__, cm_Sight___init___Happening___init__, ck_Send___init___Happening___init__, cm_Send___init___Happening___init__, ck_Take___init___Happening___init__, cm_Take___init___Happening___init__, ck_happening_Happening___init__, cm_happening_Happening___init__, ck_happening_Sight___init__, cm_happening_Sight___init__, ck_happening_Send___init__, cm_happening_Send___init__, ck_happening_Take___init__, cm_happening_Take___init__, ck_law_World___init__, cm_law_World___init__, ck_law_Take___init__, cm_law_Take___init__, xf_0, xf_1, xf_2, xf_3, cl_0, cl_1, cl_2, cl_3, mt_0_11, mt_1_11, mt_2_11, mt_3_11, mt_4_11, mt_5_2, mt_5_5, in_1, in_2, in_3, in_4, in_5, fa_0_6, fa_0_8, fa_1_6, fa_1_8, fa_2_3, fa_2_4, fa_2_6, fa_2_8, fa_3_6, fa_3_8, fa_3_10, fa_4_6, fa_4_7, fa_4_8, fa_5_0, fa_5_1, gv_0, gv_1, ↓cf_0, ↓cf_1, ↓cf_2, ↓cf_3, ↓cf_4, ↓cf_5, dv_3, dv_4, dv_5, dv_7, dv_8, dv_11, dv_16, dv_24, dv_35, dv_100, dv_120, dv_240, sh_0, se_0_1, se_0_2, se_0_3, sh_1, se_1_0, se_1_2, se_1_3, sh_2, se_2_0, se_2_1, se_2_3, sh_3, se_3_0, se_3_1, se_3_2, a_clocks, a_bonds, a_two_hands, a_early, a_late, a_way, a_hand, a_letter, a_reading, a___init__, a_to, a_own_bounds, c_Happening, c_Look, c_Sight, c_Send, c_Take, c_World, x_NoHand, x_NoClock, x_NoWay, x_NoHappening, List.take_length, y_clock_looked_at, y_way_looked_at, List.length_replicate, y__law_number, w_two, y_is_whole, all_t, s13_3, s13_4, s13_5, s1_3, s1_4, s1_5, s3_5, z_look, z_sight, z_send, z_take, y_is_name, t22, t41, s2_3, *])
theorem y__law_kinds (S : Sto) (g : Nat) (bl : List Bd) (hl : bl.length < 1000) (hg : S[g]? = some (.mu (.lst (bl.map Bd.d)))) : Y__law_kinds [.loc g] S = .ok (.bl true) S := by
  have q1 := ob_look hg
  have q2 := ob_lock hg
  have q3 := ob_get hg
  have q4 := ob_back hg
  have hl2 : bl.length ≤ 16777216 := by omega
  have B : ∀ S2 : Sto, forD (forB P__law_kinds S.length (T.nm 1) b__law_kinds_1) (bl.map Bd.d) [.v (.loc g), .no, .no] S2 = .nx [.v (.loc g), .no, .no] S2 := fun S2 => forD_same fun x hx => by
    obtain ⟨b, _, rfl⟩ := List.mem_map.mp hx
    obtain ⟨⟨b1, b2⟩, ⟨b3, b4⟩, b5⟩ := b
    clear hg q1 q2 q3 q4
    unfold forB b__law_kinds_1 b__law_kinds_2 Bd.d prD
    walk_at "den"
  clear hg
  unfold Y__law_kinds X__law_kinds f__law_kinds s__law_kinds
  walk_at "den"
def am (n : Int) : Int := if n % 4 = 0 then n / 4 % 5 else if n % 4 = 1 then n / 4 % 1000 else if n % 4 = 2 then n / 4 * 1000000000000000000007 else 0
theorem am_b (n : Int) (h : 0 ≤ n) : 0 ≤ am n := by unfold am; split <;> (try split) <;> (try split) <;> omega
theorem y__law_amount (n : Int) (h : 0 ≤ n ∧ n < 2147483647) (st : Sto) : Y__law_amount [.int n] st = .ok (.int (am n)) st := by
  have m : mulOk (n / 4) 1000000000000000000007 = true := mul_sm (by omega) (by omega) (by omega) (by omega)
  clear h
  unfold Y__law_amount X__law_amount f__law_amount s__law_amount am
  walk_at "auto"
theorem y__law_row (k : Nat) (hk : 2 ≤ k ∧ k ≤ 6) (c : Int) : ∃ w : Rw, 0 ≤ w.hand ∧ w.hand < k ∧ (∀ h r a b, w = .take h r a b → 0 ≤ a ∧ a < k ∧ a ≠ h) ∧ ∀ st, Y__law_row [.int k, .int c] st = .ok w.d st := by
  obtain ⟨h, hh⟩ : ∃ h, c / 4 % k = h := ⟨_, rfl⟩
  have hb : 0 ≤ h ∧ h < k := by rw [← hh]; exact ⟨Int.emod_nonneg _ (by omega), Int.emod_lt_of_pos _ (by omega)⟩
  obtain ⟨m, hm⟩ : ∃ m, c / 24 % ((k : Int) - 1) = m := ⟨_, rfl⟩
  have mb : 0 ≤ m ∧ m < (k : Int) - 1 := by rw [← hm]; exact ⟨Int.emod_nonneg _ (by omega), Int.emod_lt_of_pos _ (by omega)⟩
  obtain ⟨o, ho⟩ : ∃ o, (h + 1 + m) % k = o := ⟨_, rfl⟩
  have ob : 0 ≤ o ∧ o < k := by rw [← ho]; exact ⟨Int.emod_nonneg _ (by omega), Int.emod_lt_of_pos _ (by omega)⟩
  have on : o ≠ h := by
    have e : o = h + 1 + m ∨ o = h + 1 + m - k := by
      by_cases z : h + 1 + m < k
      · left; rw [← ho]; exact Int.emod_eq_of_lt (by omega) z
      · right
        rw [← ho, ← Int.emod_eq_of_lt (a := h + 1 + m - k) (b := k) (by omega) (by omega), Int.sub_emod, Int.emod_self, Int.sub_zero, Int.emod_emod]
    omega
  have k0 : 0 < (k : Int) := by omega
  have k1 : 0 < (k : Int) - 1 := by omega
  by_cases c0 : c % 4 = 0
  · refine ⟨.look h (num (c / 120)), hb.1, hb.2, (by intro _ _ _ _ e; cases e), fun st => ?_⟩
    clear hb mb ob on hk
    unfold Y__law_row X__law_row f__law_row s__law_row Rw.d
    walk_at "den"
  · by_cases c1 : c % 4 = 1
    · refine ⟨.sight h (num (c / 120)) (num (c / 7)) (num (c / 7) + (if num (c / 35) < 0 then -num (c / 35) else num (c / 35))), hb.1, hb.2, (by intro _ _ _ _ e; cases e), fun st => ?_⟩
      clear hb mb ob on hk
      unfold Y__law_row X__law_row f__law_row s__law_row Rw.d
      walk_at "den"
    · by_cases c2 : c % 4 = 2 ∧ c / 120 % 2 = 0
      · refine ⟨.send h (num (c / 120)) o, hb.1, hb.2, (by intro _ _ _ _ e; cases e), fun st => ?_⟩
        obtain ⟨c2, c3⟩ := c2
        clear hb mb ob on hk
        unfold Y__law_row X__law_row f__law_row s__law_row Rw.d
        walk_at "den"
      · refine ⟨.take h (num (c / 120)) o (c / 240 % 60), hb.1, hb.2, fun _ _ _ _ e => (by cases e; exact ⟨ob.1, ob.2, on⟩), fun st => ?_⟩
        clear hb mb ob on hk
        by_cases c3 : c % 4 = 2
        · have c4 : ¬ c / 120 % 2 = 0 := fun z => c2 ⟨c3, z⟩
          unfold Y__law_row X__law_row f__law_row s__law_row Rw.d
          walk_at "den"
        · unfold Y__law_row X__law_row f__law_row s__law_row Rw.d
          walk_at "den"
abbrev eV (k : Nat) (c : Int) (xs : List Int) (n : Nat) (v4 : Sl) : DEnv := [.v (.int k), .v (.int c), .v (.lst (xs.map .int)), .v (.loc n), v4, .no, .no, .no, .no]
theorem told_snoc {ws : List Wy} {w : Wy} {a b : Int} : told (ws ++ [w]) a b ↔ told ws a b ∨ (w.one = a ∧ w.other = b) := by
  unfold told
  constructor
  · rintro ⟨v, hv, e⟩
    rcases List.mem_append.mp hv with hv | hv
    · exact .inl ⟨v, hv, e⟩
    · simp only [List.mem_cons, List.not_mem_nil, or_false] at hv
      subst hv; exact .inr e
  · rintro (⟨v, hv, e⟩ | e)
    · exact ⟨v, List.mem_append_left _ hv, e⟩
    · exact ⟨w, by simp, e⟩
local macro_rules | `(tactic| walk_at "den") => `(tactic| try simp -implicitDefEqProofs only [FI.fn, x_cst, x_and, x_or, x_and0, x_or0, x_revl, x_nil, x_o0, y_skip, y_retN, y_whl, y_brk, y_cnt, y_try, tryE_nx, tryE_rt, tryE_exc, h_skip, gone_nx, gone_rt, o_add, o_sub, o_mul, o_fdiv, o_mod, o_pow, o_neg, c_lt, c_le, c_gt, c_ge, c_isN, c_notN, c_eqI, c_neI, c_eqB, c_neB, o_addL, k_tup, k_lst, ix0, ix1, ix2, ix3, ix4, itl, itt, lk_nil, un_nx, un_rt, un_exc, for_nil, n_non, n_int, n_bl, n_str, n_tup, n_lst, n_loc, r_ite, r_iteN, lc_nil, lc_Ff, lc_Ft, wp_nil, wp_cons, c_isB, c_notB, p_abs, p_len_lst, p_len_scr, p_len_tup, p_max2, p_min2, i_non_bool, i_non_int, i_non_str, i_non_tuple, i_non_list, i_non_dict, i_bl_bool, i_bl_int, i_bl_str, i_bl_tuple, i_bl_list, i_bl_dict, i_int_bool, i_int_int, i_int_str, i_int_tuple, i_int_list, i_int_dict, i_str_bool, i_str_int, i_str_str, i_str_tuple, i_str_list, i_str_dict, i_tup_bool, i_tup_int, i_tup_str, i_tup_tuple, i_tup_list, i_tup_dict, i_lst_bool, i_lst_int, i_lst_str, i_lst_tuple, i_lst_list, i_lst_dict, List.length_cons, List.length_nil, List.length_map, List.map_cons, List.map_nil, List.cons_append, List.nil_append, List.replicate_zero, List.replicate_succ, List.getElem?_cons_zero, List.getElem?_cons_succ, List.set_cons_zero, List.set_cons_succ, asgT, asgTs, Option.bind_some, Nat.zero_add, Nat.reduceAdd, Nat.reduceSub, ↓reduceIte, if_true, if_false, decide_eq_true_eq, Nat.reduceLT, Int.reduceLT, Nat.reduceEqDiff, Bool.false_eq_true, Bool.not_true, Bool.not_false, Bool.and_true, Bool.true_and, Bool.and_false, Bool.false_and, Bool.or_true, Bool.true_or, Bool.or_false, Bool.false_or, decide_true, decide_false, Int.cast_ofNat_Int, Int.reduceEq, x_own, own_ok, y_kill, y_frz, sl_cl, sl_x0, sl_x1, sl_a, g_app, g_app0, s_app, s_app0, len_app, lk_app, lk_app0, lko_app, lko_app0, fit_o, fit_o0, cl_non, cl_bl, cl_int, cl_str, cl_scr, cl_tup, cl_lst, cl_ins, cl_nil, cl_cons, cl_fnil, cl_fcons, List.append_assoc, List.set_cons_zero, List.set_cons_succ, Nat.add_zero, Nat.reduceLeDiff, LIM, bind_ok, beq_self_eq_true, bmT_eq, bmC_l, bmC_k, bmC_t, bmC_s, lstM, dicM, strM, lm_append, lm_clear, lm_reverse, lm_append_o, lm_clear_o, lm_reverse_o, it_enum_l, ix5, ix6, ix7, ix8, ix9, ix10, ix11, it_seq_l, it_seq_s, slc_scr, mx_0, mx_1, mx_2t, mx_2f, si_eq, si_l, fd_eq, fd_i, cs_eq, cs_i, sf_eq, sf_i, pu_nil, pu_cons, mk_keep, mkK_o, nonL_o, nonL_x, ixm2, ixm3, ixm4, ixm5, ixm6, ixm7, ixm8, ixm9, ixm10, ixm11, ixm12, p_dm, isi_loc, isC_ll, isC_lt, isC_ld, isC_ls, isC_kd, p_lst_l, p_lst_t, p_tup_l, p_lst_loc, it_loc, itO_l, lk_1, un_1, un1_o, lcF_1, lcG_f, lcG_t, un_n1, un_r1, slc_l, slc_loc, slO_l, dn_tf, dn_tt, dn_ff, dn_ft, it_zip, it_rev, iso_i, iso_loc, isoC_i, dsp_i1, it_keys_K, it_keys_T, it_items_K, it_items_T, it_keys_loc, it_items_loc, itQ_kK, itQ_kT, itQ_iK, itQ_iT, dicW, im_loc, im_mu, si_k, si_t, lk_K, lk_T, lk_l, lk_t, lk_s, lk_i, dl_k, dl_s, dl_t, ix_k, ix_ks, ix_t, dp_k, dp_s, dp_t, dd_k, dd_t, ds_k, ds_t, ci_loc, ni_loc, io_K, io_T, ci_K, ni_K, ci_T, ni_T, dlO_o, gtR_o, lm_get1, lm_get2, sdP_o, sdP_if, sdP_n, sdQ_s, sdQ_n, sdR_o, lm_setdef, poQ_s, poR_o, lm_dpop1, ixR_o, plO_o, lm_index, rmR_o, lm_remove, lm_insert, p_len_o, ln_l, ln_K, ln_T, p_len_K, p_len_T, Option.map_some, Option.isSome_some, Option.isSome_none, Option.getD_some, Option.getD_none, Nat.le_add_right, idx_loc, idxO_l, idxO_K, idxO_T, mk_pure, mkP_o, sl_ap, sl_apx, sl_apx1, sl_x2, List.take_succ_cons, List.take_zero, List.take_nil, List.lookup_cons, List.lookup_nil, Nat.reduceBEq, Option.isNone_none, Option.isNone_some, and_true, true_and, and_self, kUn_o0, kUn_o1, kUn_if, z_un, kBin2_o0, kBin2_o1, kBin2_if, kBin1_o0, kBin1_o1, kBin1_if, z_bin, kCmp2_o0, kCmp2_o1, kCmp2_if, kCmp1_o0, kCmp1_o1, kCmp1_if, z_cmp, kChn3_b, kChn3_x, kChn3_if, kChn2_o0, kChn2_o1, kChn2_if, kChn1_o0, kChn1_o1, kChn1_if, z_chn, kNot_o0, kNot_o1, kNot_if, z_not, kAnd_b, kAnd_x, kAnd_if, z_andc, kOr_b, kOr_x, kOr_if, z_orc, kIfe_b, kIfe_x, kIfe_if, z_ife, kTup_o0, kTup_o1, kTup_if, z_tup, kLst_o0, kLst_o1, kLst_if, z_lst, kIdx2_o0, kIdx2_o1, kIdx2_if, kIdx1_o0, kIdx1_o1, kIdx1_if, z_idx, kSlc3_o0, kSlc3_o1, kSlc3_if, kSlc2_o0, kSlc2_o1, kSlc2_if, kSlc1_o0, kSlc1_o1, kSlc1_if, z_slc, kFld_o0, kFld_o1, kFld_if, z_fld, kCall_o0, kCall_o1, kCall_if, z_call, kMeth2_o0, kMeth2_o1, kMeth2_if, kMeth1_o0, kMeth1_o1, kMeth1_if, z_meth, kMake_o0, kMake_o1, kMake_if, z_make, kPr_o0, kPr_o1, kPr_if, z_pr, kIso_o0, kIso_o1, kIso_if, z_iso, kDsp_o0, kDsp_o1, kDsp_if, z_ddsp, kIx2_o0, kIx2_o1, kIx2_if, kIx1_o0, kIx1_o1, kIx1_if, z_idxx, kMx2_o0, kMx2_o1, kMx2_if, kMx1_o0, kMx1_o1, kMx1_if, z_mxd, kBm2_o0, kBm2_o1, kBm2_if, kBm1_o0, kBm1_o1, kBm1_if, z_bm, kIsi_o0, kIsi_o1, kIsi_if, z_isi, kA2_o0, kA2_o1, kA2_if, kA1_o0, kA1_o1, kA1_if, z_cons, kO_o0, kO_o1, kO_if, z_o1, getV_o, z_var, getG_o, z_gl, isxV_o, blO_o, z_isx, w_rais, xfO_o, w_raisA, z_fldx, kRais_o, kRais_x, kRais_if, xfA_o, fxV_o, fxO_o, w_exc, hO_t, hO_n, hO_f, w_excR, hR_t, hR_f, gR_x, gR_nx, gR_rt, gR_bk, gR_ct, gR_if, gn_nil, gn_v, gn_n, gn_x, gn_s, c_eqT, c_neT, kLc_o0, kLc_o1, kLc_if, z_lc, kLcE_s, kLcE_n, kLcE_if, z_lcc, kLcS_o, kLcT_b, kLcT_x, kLcT_if, z_lcB, kSeq_o0, kSeq_o1, kSeq_o2, kSeq_o3, kSeq_o4, kSeq_if, w_seq, kExpr_o0, kExpr_o1, kExpr_if, w_expr, nxO_o, kAsg_o0, kAsg_o1, kAsg_if, w_asg, stO_o, kSetf2_o0, kSetf2_o1, kSetf2_if, kSetf1_o0, kSetf1_o1, kSetf1_if, w_setf, kSeti3_o0, kSeti3_o1, kSeti3_if, kSeti2_o0, kSeti2_o1, kSeti2_if, kSeti1_o0, kSeti1_o1, kSeti1_if, w_seti, agF_o, kAgi4_o0, kAgi4_o1, kAgi4_if, kAgi3_o0, kAgi3_o1, kAgi3_if, kAgi2_o0, kAgi2_o1, kAgi2_if, kAgi1_o0, kAgi1_o1, kAgi1_if, w_augi, ixL_loc, augP_o, kAug_o0, kAug_o1, kAug_if, augV_o, w_aug, kRet_o0, kRet_o1, kRet_if, w_ret, kIfS_b, kIfS_x, kIfS_if, w_ife, kFor_o0, kFor_o1, kFor_if, w_for, kFork_0, kFork_1, kFork_2, kFork_3, kFork_4, kFork_if, w_forc, w_forB, un_if, gone_if, tryE_if, endF_n, endF_r, endF_x, endF_if, w_run, seal_if, cs_World___init___clock_looked_at, cs_World___init___World_two_hands, cs_World___init___way_looked_at, cs__law_ways__law_stream, cs__law_ways__law_amount, cs_World_way_World_two_hands, cs_Take_own_bounds_World_way, cs__law_row__law_number, cs_Sight___init___Happening___init__, cs_Send___init___Happening___init__, cs_Take___init___Happening___init__, cs_all_whole_is_whole, cs_is_name_all_whole, cs_happening_all_whole, cs_happening_Happening___init__, cs_happening_Sight___init__, cs_happening_is_whole, cs_happening_Send___init__, cs_happening_is_name, cs_happening_Take___init__, cr_law__law_cell_at, cs_law__law_cell_at, cr_law__law_ways, cs_law__law_ways, cr_law_World___init__, cs_law_World___init__, cr_law__law_row, cs_law__law_row, cr_law_happening, cs_law_happening, cr_law_Take___init__, cs_law_Take___init__, cr_law_Happening_own_bounds, cs_law_Happening_own_bounds, cr_law_Sight_own_bounds, cs_law_Sight_own_bounds, cr_law_Take_own_bounds, cs_law_Take_own_bounds, cr_law__law_due, cs_law__law_due, cr_law__law_kinds, cs_law__law_kinds, ck_Sight___init___Happening___init__, cm_Sight___init___Happening___init__, ck_Send___init___Happening___init__, cm_Send___init___Happening___init__, ck_Take___init___Happening___init__, cm_Take___init___Happening___init__, ck_happening_Happening___init__, cm_happening_Happening___init__, ck_happening_Sight___init__, cm_happening_Sight___init__, ck_happening_Send___init__, cm_happening_Send___init__, ck_happening_Take___init__, cm_happening_Take___init__, ck_law_World___init__, cm_law_World___init__, ck_law_Take___init__, cm_law_Take___init__, xf_0, xf_1, xf_2, xf_3, cl_0, cl_1, cl_2, cl_3, mt_0_11, mt_1_11, mt_2_11, mt_3_11, mt_4_11, mt_5_2, mt_5_5, in_1, in_2, in_3, in_4, in_5, fa_0_6, fa_0_8, fa_1_6, fa_1_8, fa_2_3, fa_2_4, fa_2_6, fa_2_8, fa_3_6, fa_3_8, fa_3_10, fa_4_6, fa_4_7, fa_4_8, fa_5_0, fa_5_1, gv_0, gv_1, ↓cf_0, ↓cf_1, ↓cf_2, ↓cf_3, ↓cf_4, ↓cf_5, dv_3, dv_4, dv_5, dv_7, dv_8, dv_11, dv_16, dv_24, dv_35, dv_100, dv_120, dv_240, sh_0, se_0_1, se_0_2, se_0_3, sh_1, se_1_0, se_1_2, se_1_3, sh_2, se_2_0, se_2_1, se_2_3, sh_3, se_3_0, se_3_1, se_3_2, a_clocks, a_bonds, a_two_hands, a_early, a_late, a_way, a_hand, a_letter, a_reading, a___init__, a_to, a_own_bounds, c_Happening, c_Look, c_Sight, c_Send, c_Take, c_World, x_NoHand, x_NoClock, x_NoWay, x_NoHappening, List.take_length, y_clock_looked_at, y_way_looked_at, List.length_replicate, y__law_number, w_two, y_is_whole, all_t, s13_3, s13_4, s13_5, s1_3, s1_4, s1_5, s3_5, z_look, z_sight, z_send, z_take, y_is_name, t22, t41, s2_3, y__law_amount, *])
theorem lp_w2 (c : Int) (xs : List Int) (hx : xs.length = 36) (hxb : ∀ x ∈ xs, 0 ≤ x ∧ x < 2147483647) (k : Nat) (hk : k ≤ 6) (one : Nat) (ho : one < k) (ws : List Wy) (hw : ws.length ≤ 36) (hg : ∀ w ∈ ws, wyG k w ∧ w.one < one) (hn : (ws.map fun w => (w.one, w.other)).Nodup) (ht : ∀ a b : Int, 0 ≤ a → a < one → 0 ≤ b → b < k → a ≠ b → told ws a b) (st : Sto) :
    ∃ ws' : List Wy, ws'.length ≤ ws.length + k ∧ (∀ w ∈ ws', wyG k w ∧ w.one < one + 1) ∧ (ws'.map fun w => (w.one, w.other)).Nodup ∧ (∀ a b : Int, 0 ≤ a → a < one + 1 → 0 ≤ b → b < k → a ≠ b → told ws' a b) ∧
    forD (forB P__law_ways st.length (T.nm 5) b__law_ways_2) (rangeD 0 k 1) (eV k c xs st.length (.v (.int one))) (st ++ [.mu (.dT (waysD ws))])
      = .nx (eV k c xs st.length (.v (.int one))) (st ++ [.mu (.dT (waysD ws'))]) := by
  obtain ⟨ρ', st', e, ws', h1, h2, h3, h4, rfl, rfl⟩ := forD_pre (fun i : Nat => Den.D.int (0 + (i : Nat) * 1)) (body := forB P__law_ways st.length (T.nm 5) b__law_ways_2)
    (fun pre ρ st' => ∃ ws' : List Wy, ws'.length ≤ ws.length + pre.length ∧ (∀ w ∈ ws', wyG k w ∧ (w.one < one ∨ w.one = one ∧ w.other < pre.length)) ∧ (ws'.map fun w => (w.one, w.other)).Nodup ∧ (∀ a b : Int, 0 ≤ a → (a < one ∧ b < k ∨ a = one ∧ b < pre.length) → 0 ≤ b → a ≠ b → told ws' a b) ∧ ρ = eV k c xs st.length (.v (.int one)) ∧ st' = st ++ [.mu (.dT (waysD ws'))])
    (List.range k) (by
      rintro pre i post hq ρ st' ⟨ws', q1, q2, q3, q4, rfl, rfl⟩
      obtain ⟨rfl, hin⟩ := range_i hq
      obtain ⟨o, hoo⟩ : ∃ o : Int, 0 + (pre.length : Int) * 1 = o := ⟨_, rfl⟩
      have ho0 : 0 ≤ o ∧ o < 6 := by omega
      obtain ⟨z, hz⟩ : ∃ z : Int, (one : Int) = z := ⟨_, rfl⟩
      have hz0 : 0 ≤ z ∧ z < 6 := by omega
      have ex := fun st => ix_ints xs (6 * z + o) st (by omega) (by omega)
      obtain ⟨x, hxx⟩ : ∃ x, xs.getD (6 * z + o).toNat 0 = x := ⟨_, rfl⟩
      have xb : 0 ≤ x ∧ x < 2147483647 := by
        rw [← hxx, List.getD_eq_getElem?_getD, List.getElem?_eq_getElem (by omega)]
        exact hxb _ (List.getElem_mem _)
      rw [hxx] at ex
      clear hxx
      have m1 : mulOk 6 z = true := mul_sm (by omega) (by omega) (by omega) (by omega)
      have hwl : (waysD ws').length < 16777216 := by unfold waysD; rw [List.length_map]; omega
      have x100 : 0 ≤ x / 100 ∧ x / 100 < 2147483647 := by omega
      have ea := fun st => y__law_amount x xb st
      have eb := fun st => y__law_amount (x / 100) x100 st
      have b1 := am_b x xb.1
      have b2 := am_b (x / 100) x100.1
      simp only [hz, hoo]
      by_cases g : z = o
      · refine ⟨eV k c xs st.length (.v (.int z)), st ++ [.mu (.dT (waysD ws'))], .inl ?_, ws', by simp; omega, fun w hw => ⟨(q2 w hw).1, ?_⟩, q3, fun a b h1 h2 h3 h4 => ?_, rfl, rfl⟩
        · subst g
          unfold forB b__law_ways_2
          clear q1 q2 q3 q4 hg hn ht xb x100 b1 b2
          walk_at "den"
        · simp only [List.length_append, List.length_cons, List.length_nil]
          rcases (q2 w hw).2 with y1 | y1 <;> omega
        · simp only [List.length_append, List.length_cons, List.length_nil] at h2
          exact q4 a b h1 (by omega) h3 h4
      · have nt : ¬ told ws' z o := by
          rintro ⟨v, hv, e1, e2⟩
          rcases (q2 v hv).2 with y1 | y1 <;> omega
        have fin : ∀ (m : Option Int), (∀ j, m = some j → am x ≤ j) → ∃ ws'' : List Wy, ws''.length ≤ ws.length + (pre ++ [pre.length]).length ∧ (∀ w ∈ ws'', wyG k w ∧ (w.one < z ∨ w.one = z ∧ w.other < (pre ++ [pre.length]).length)) ∧ (ws''.map fun w => (w.one, w.other)).Nodup ∧ (∀ a b : Int, 0 ≤ a → (a < z ∧ b < k ∨ a = z ∧ b < (pre ++ [pre.length]).length) → 0 ≤ b → a ≠ b → told ws'' a b) ∧ dput (waysD ws') [.inl z, .inl o] (.tup [.int (am x), ov m]) = waysD ws'' := fun m hm => by
          refine ⟨ws' ++ [⟨z, o, am x, m⟩], by simp; omega, fun w hw => ?_, ?_, fun a b h1 h2 h3 h4 => ?_, by exact ways_snoc (w := ⟨z, o, am x, m⟩) nt⟩
          · rcases List.mem_append.mp hw with hw | hw
            · refine ⟨(q2 w hw).1, ?_⟩
              simp only [List.length_append, List.length_cons, List.length_nil]
              rcases (q2 w hw).2 with y1 | y1 <;> omega
            · simp only [List.mem_cons, List.not_mem_nil, or_false] at hw
              subst hw
              refine ⟨⟨?_, b1, ?_⟩, .inr ⟨rfl, by show o < _; simp; omega⟩⟩
              · show ¬ hnBad k z o
                unfold hnBad; omega
              · unfold most_bad
                cases m with
                | none => exact id
                | some j => have := hm j rfl; show ¬ j < am x; omega
          · rw [List.map_append, List.nodup_append]
            refine ⟨q3, by simp, ?_⟩
            rintro p hp p2 hp2 rfl
            simp only [List.map_cons, List.map_nil, List.mem_cons, List.not_mem_nil, or_false] at hp2
            obtain ⟨v, hv, e⟩ := List.mem_map.mp hp
            rw [hp2] at e
            exact nt ⟨v, hv, congrArg Prod.fst e, congrArg Prod.snd e⟩
          · rw [told_snoc]
            simp only [List.length_append, List.length_cons, List.length_nil] at h2
            by_cases y : a = z ∧ b = o
            · exact .inr ⟨y.1.symm, y.2.symm⟩
            · exact .inl (q4 a b h1 (by omega) h3 h4)
        by_cases g3 : x / 16 % 4 = 0
        · obtain ⟨ws'', w1, w2, w3, w5, w4⟩ := fin none (fun j e => nomatch e)
          refine ⟨_, _, .inl (by unfold forB b__law_ways_2; clear fin q1 q2 q3 q4 hg hn ht xb x100 b1 b2; simp only [ov] at w4; walk_at "den"), ws'', w1, w2, w3, w5, rfl, rfl⟩
        · obtain ⟨ws'', w1, w2, w3, w5, w4⟩ := fin (some (am x + am (x / 100))) (fun j e => by cases e; omega)
          refine ⟨_, _, .inl (by unfold forB b__law_ways_2; clear fin q1 q2 q3 q4 hg hn ht xb x100 b1 b2; simp only [ov] at w4; walk_at "den"), ws'', w1, w2, w3, w5, rfl, rfl⟩)
    (eV k c xs st.length (.v (.int one))) (st ++ [.mu (.dT (waysD ws))]) ⟨ws, by simp, fun w hw => ⟨(hg w hw).1, .inl (hg w hw).2⟩, hn, fun a b h1 h2 h3 h4 => ht a b h1 (by simp at h2; omega) h3 (by simp at h2; omega) h4, rfl, rfl⟩
  rw [← rangeD_map] at e
  refine ⟨ws', by simpa using h1, fun w hw => ⟨(h2 w hw).1, ?_⟩, h3, fun a b y1 y2 y3 y4 y5 => h4 a b y1 (by rw [List.length_range]; omega) y3 y5, e⟩
  rcases (h2 w hw).2 with y1 | y1 <;> omega
theorem y__law_ways (k : Nat) (hk : 2 ≤ k ∧ k ≤ 6) (c : Int) (st : Sto) : ∃ ws : List Wy, ws.length ≤ 36 ∧ (∀ w ∈ ws, wyG k w) ∧ (ws.map fun w => (w.one, w.other)).Nodup ∧ (∀ a b : Int, 0 ≤ a → a < k → 0 ≤ b → b < k → a ≠ b → told ws a b) ∧ Y__law_ways [.int k, .int c] st = .ok (.dT (waysD ws)) st := by
  obtain ⟨xs, hx, hxb, es⟩ := y__law_stream c 36 (by decide)
  have hx : xs.length = 36 := by omega
  obtain ⟨ρ', st', e, ws, h1, h2, h3, h4, rfl, rfl⟩ := forD_pre (fun i : Nat => Den.D.int (0 + (i : Nat) * 1)) (body := forB P__law_ways st.length (T.nm 4) b__law_ways_1)
    (fun pre ρ st' => ∃ ws : List Wy, ws.length ≤ 6 * pre.length ∧ (∀ w ∈ ws, wyG k w ∧ w.one < pre.length) ∧ (ws.map fun w => (w.one, w.other)).Nodup ∧ (∀ a b : Int, 0 ≤ a → a < pre.length → 0 ≤ b → b < k → a ≠ b → told ws a b) ∧ ρ = eV k c xs st.length .no ∧ st' = st ++ [.mu (.dT (waysD ws))])
    (List.range k) (by
      rintro pre i post hq ρ st' ⟨ws, q2, q4, q5, q6, rfl, rfl⟩
      obtain ⟨rfl, hin⟩ := range_i hq
      obtain ⟨ws', w1, w2, w3, w5, w4⟩ := lp_w2 c xs hx hxb k hk.2 pre.length hin ws (by omega) q4 q5 q6 st
      have er : ∀ st, evIt .rng1 [.int k] st = some (rangeD 0 k 1, []) := fun st => it_rng1 (by omega)
      have hrl : (rangeD 0 k 1).length = k := rangeD_len
      have hk2 : k ≤ 16777216 := by omega
      have hz : (0 : Int) + (pre.length : Int) * 1 = pre.length := by omega
      refine ⟨eV k c xs st.length .no, st ++ [.mu (.dT (waysD ws'))], .inl ?_, ws', by simp; omega, fun w hw => ?_, w3, fun a b y1 y2 y3 y4 y5 => w5 a b y1 (by simp at y2; omega) y3 y4 y5, rfl, rfl⟩
      · clear hk q2 q4 q5 q6 w1 w2 w3 w5
        unfold forB b__law_ways_1
        rw [hz]
        walk_at "den"
      · have := w2 w hw
        exact ⟨this.1, by simp; omega⟩)
    (eV k c xs st.length .no) (st ++ [.mu (.dT [])]) ⟨[], by simp, by simp, by simp, fun a b y1 y2 => by simp at y2; omega, rfl, rfl⟩
  rw [← rangeD_map] at e
  rw [List.length_range] at h1 h4
  have er : ∀ st, evIt .rng1 [.int k] st = some (rangeD 0 k 1, []) := fun st => it_rng1 (by omega)
  have hrl : (rangeD 0 k 1).length = k := rangeD_len
  have hk2 : k ≤ 16777216 := by omega
  have hcl : closed 0 (.dT (waysD ws)) = true := ways_cl
  have sl : sealP st.length (.ok (.loc st.length) (st ++ [.mu (.dT (waysD ws))])) = .ok (.dT (waysD ws)) st := sl_loc0 rfl hcl
  refine ⟨ws, by omega, fun w hw => (h2 w hw).1, h3, h4, ?_⟩
  have es := es st
  clear h2 h3 h4 hxb h1 hk
  unfold Y__law_ways X__law_ways f__law_ways s__law_ways
  walk_at "den"
theorem ones (k : Nat) (hk : k ≤ 6) (st : Sto) : opB .mul (.lst [.tup [.int 1, .int 1]]) (.int k) st = .ok (.lst ((List.replicate k ((1 : Int), (1 : Int))).map prD)) st := by
  show (if 0 ≤ (k : Int) ∧ (k : Int) ≤ 1000 ∧ [Den.D.tup [.int 1, .int 1]].length * (k : Int).toNat ≤ LIM then Res.ok (Den.D.lst (List.replicate (k : Int).toNat [Den.D.tup [.int 1, .int 1]]).flatten) st else .stk) = _
  rw [if_pos ⟨by omega, by omega, by simp [LIM]; omega⟩, Int.toNat_natCast]
  congr 2
  clear hk
  induction k with
  | zero => rfl
  | succ k ih => simp_all [List.replicate_succ, prD]
theorem l_ways (ns : List Int) (k : Nat) (ws : List Wy) (a3 : Sl) (bs : Nat) (st : Sto) : lcD (lcB (Ps 24) bs (.tp (.cons (.nm 4) (.cons (.nm 5) .nil))) [4, 5] (.cst (.bl true)) (.bin .add (.var 4) (.var 5)) [.v (.scr ns), .v (.int k), .v (.dT (waysD ws)), a3, .no, .no, .no, .no, .no, .no, .no]) ((waysD ws).map fun kv => .tup [.tup (kv.1.map ofK), kv.2]) [] st = .ok (ws.map Wy.d) st := by
  unfold waysD
  rw [List.map_map]
  rw [lcD_of (k := (fun kv : List Key × Den.D => Den.D.tup [.tup (kv.1.map ofK), kv.2]) ∘ fun w => (keyW w, w.b)) (f := fun w => some w.d)]
  · rw [List.nil_append]
    show Res.ok (List.filterMap (some ∘ Wy.d) ws) st = _
    rw [List.filterMap_eq_map]
  · rintro ⟨w1, w2, w3, w4⟩ _
    have t : ∀ (a b c d : Den.D) (st : Sto), opB .add (.tup [a, b]) (.tup [c, d]) st = .ok (.tup [a, b, c, d]) st := fun _ _ _ _ _ => rfl
    unfold Wy.d Wy.b
    simp only [Function.comp, keyW, List.map_cons, List.map_nil, ofK]
    walk_at "den"
local macro_rules | `(tactic| walk_at "den") => `(tactic| try simp -implicitDefEqProofs only [FI.fn, x_cst, x_and, x_or, x_and0, x_or0, x_revl, x_nil, x_o0, y_skip, y_retN, y_whl, y_brk, y_cnt, y_try, tryE_nx, tryE_rt, tryE_exc, h_skip, gone_nx, gone_rt, o_add, o_sub, o_mul, o_fdiv, o_mod, o_pow, o_neg, c_lt, c_le, c_gt, c_ge, c_isN, c_notN, c_eqI, c_neI, c_eqB, c_neB, o_addL, k_tup, k_lst, ix0, ix1, ix2, ix3, ix4, itl, itt, lk_nil, un_nx, un_rt, un_exc, for_nil, n_non, n_int, n_bl, n_str, n_tup, n_lst, n_loc, r_ite, r_iteN, lc_nil, lc_Ff, lc_Ft, wp_nil, wp_cons, c_isB, c_notB, p_abs, p_len_lst, p_len_scr, p_len_tup, p_max2, p_min2, i_non_bool, i_non_int, i_non_str, i_non_tuple, i_non_list, i_non_dict, i_bl_bool, i_bl_int, i_bl_str, i_bl_tuple, i_bl_list, i_bl_dict, i_int_bool, i_int_int, i_int_str, i_int_tuple, i_int_list, i_int_dict, i_str_bool, i_str_int, i_str_str, i_str_tuple, i_str_list, i_str_dict, i_tup_bool, i_tup_int, i_tup_str, i_tup_tuple, i_tup_list, i_tup_dict, i_lst_bool, i_lst_int, i_lst_str, i_lst_tuple, i_lst_list, i_lst_dict, List.length_cons, List.length_nil, List.length_map, List.map_cons, List.map_nil, List.cons_append, List.nil_append, List.replicate_zero, List.replicate_succ, List.getElem?_cons_zero, List.getElem?_cons_succ, List.set_cons_zero, List.set_cons_succ, asgT, asgTs, Option.bind_some, Nat.zero_add, Nat.reduceAdd, Nat.reduceSub, ↓reduceIte, if_true, if_false, decide_eq_true_eq, Nat.reduceLT, Int.reduceLT, Nat.reduceEqDiff, Bool.false_eq_true, Bool.not_true, Bool.not_false, Bool.and_true, Bool.true_and, Bool.and_false, Bool.false_and, Bool.or_true, Bool.true_or, Bool.or_false, Bool.false_or, decide_true, decide_false, Int.cast_ofNat_Int, Int.reduceEq, x_own, own_ok, y_kill, y_frz, sl_cl, sl_x0, sl_x1, sl_a, g_app, g_app0, s_app, s_app0, len_app, lk_app, lk_app0, lko_app, lko_app0, fit_o, fit_o0, cl_non, cl_bl, cl_int, cl_str, cl_scr, cl_tup, cl_lst, cl_ins, cl_nil, cl_cons, cl_fnil, cl_fcons, List.append_assoc, List.set_cons_zero, List.set_cons_succ, Nat.add_zero, Nat.reduceLeDiff, LIM, bind_ok, beq_self_eq_true, bmT_eq, bmC_l, bmC_k, bmC_t, bmC_s, lstM, dicM, strM, lm_append, lm_clear, lm_reverse, lm_append_o, lm_clear_o, lm_reverse_o, it_enum_l, ix5, ix6, ix7, ix8, ix9, ix10, ix11, it_seq_l, it_seq_s, slc_scr, mx_0, mx_1, mx_2t, mx_2f, si_eq, si_l, fd_eq, fd_i, cs_eq, cs_i, sf_eq, sf_i, pu_nil, pu_cons, mk_keep, mkK_o, nonL_o, nonL_x, ixm2, ixm3, ixm4, ixm5, ixm6, ixm7, ixm8, ixm9, ixm10, ixm11, ixm12, p_dm, isi_loc, isC_ll, isC_lt, isC_ld, isC_ls, isC_kd, p_lst_l, p_lst_t, p_tup_l, p_lst_loc, it_loc, itO_l, lk_1, un_1, un1_o, lcF_1, lcG_f, lcG_t, un_n1, un_r1, slc_l, slc_loc, slO_l, dn_tf, dn_tt, dn_ff, dn_ft, it_zip, it_rev, iso_i, iso_loc, isoC_i, dsp_i1, it_keys_K, it_keys_T, it_items_K, it_items_T, it_keys_loc, it_items_loc, itQ_kK, itQ_kT, itQ_iK, itQ_iT, dicW, im_loc, im_mu, si_k, si_t, lk_K, lk_T, lk_l, lk_t, lk_s, lk_i, dl_k, dl_s, dl_t, ix_k, ix_ks, ix_t, dp_k, dp_s, dp_t, dd_k, dd_t, ds_k, ds_t, ci_loc, ni_loc, io_K, io_T, ci_K, ni_K, ci_T, ni_T, dlO_o, gtR_o, lm_get1, lm_get2, sdP_o, sdP_if, sdP_n, sdQ_s, sdQ_n, sdR_o, lm_setdef, poQ_s, poR_o, lm_dpop1, ixR_o, plO_o, lm_index, rmR_o, lm_remove, lm_insert, p_len_o, ln_l, ln_K, ln_T, p_len_K, p_len_T, Option.map_some, Option.isSome_some, Option.isSome_none, Option.getD_some, Option.getD_none, Nat.le_add_right, idx_loc, idxO_l, idxO_K, idxO_T, mk_pure, mkP_o, sl_ap, sl_apx, sl_apx1, sl_x2, List.take_succ_cons, List.take_zero, List.take_nil, List.lookup_cons, List.lookup_nil, Nat.reduceBEq, Option.isNone_none, Option.isNone_some, and_true, true_and, and_self, kUn_o0, kUn_o1, kUn_if, z_un, kBin2_o0, kBin2_o1, kBin2_if, kBin1_o0, kBin1_o1, kBin1_if, z_bin, kCmp2_o0, kCmp2_o1, kCmp2_if, kCmp1_o0, kCmp1_o1, kCmp1_if, z_cmp, kChn3_b, kChn3_x, kChn3_if, kChn2_o0, kChn2_o1, kChn2_if, kChn1_o0, kChn1_o1, kChn1_if, z_chn, kNot_o0, kNot_o1, kNot_if, z_not, kAnd_b, kAnd_x, kAnd_if, z_andc, kOr_b, kOr_x, kOr_if, z_orc, kIfe_b, kIfe_x, kIfe_if, z_ife, kTup_o0, kTup_o1, kTup_if, z_tup, kLst_o0, kLst_o1, kLst_if, z_lst, kIdx2_o0, kIdx2_o1, kIdx2_if, kIdx1_o0, kIdx1_o1, kIdx1_if, z_idx, kSlc3_o0, kSlc3_o1, kSlc3_if, kSlc2_o0, kSlc2_o1, kSlc2_if, kSlc1_o0, kSlc1_o1, kSlc1_if, z_slc, kFld_o0, kFld_o1, kFld_if, z_fld, kCall_o0, kCall_o1, kCall_if, z_call, kMeth2_o0, kMeth2_o1, kMeth2_if, kMeth1_o0, kMeth1_o1, kMeth1_if, z_meth, kMake_o0, kMake_o1, kMake_if, z_make, kPr_o0, kPr_o1, kPr_if, z_pr, kIso_o0, kIso_o1, kIso_if, z_iso, kDsp_o0, kDsp_o1, kDsp_if, z_ddsp, kIx2_o0, kIx2_o1, kIx2_if, kIx1_o0, kIx1_o1, kIx1_if, z_idxx, kMx2_o0, kMx2_o1, kMx2_if, kMx1_o0, kMx1_o1, kMx1_if, z_mxd, kBm2_o0, kBm2_o1, kBm2_if, kBm1_o0, kBm1_o1, kBm1_if, z_bm, kIsi_o0, kIsi_o1, kIsi_if, z_isi, kA2_o0, kA2_o1, kA2_if, kA1_o0, kA1_o1, kA1_if, z_cons, kO_o0, kO_o1, kO_if, z_o1, getV_o, z_var, getG_o, z_gl, isxV_o, blO_o, z_isx, w_rais, xfO_o, w_raisA, z_fldx, kRais_o, kRais_x, kRais_if, xfA_o, fxV_o, fxO_o, w_exc, hO_t, hO_n, hO_f, w_excR, hR_t, hR_f, gR_x, gR_nx, gR_rt, gR_bk, gR_ct, gR_if, gn_nil, gn_v, gn_n, gn_x, gn_s, c_eqT, c_neT, kLc_o0, kLc_o1, kLc_if, z_lc, kLcE_s, kLcE_n, kLcE_if, z_lcc, kLcS_o, kLcT_b, kLcT_x, kLcT_if, z_lcB, kSeq_o0, kSeq_o1, kSeq_o2, kSeq_o3, kSeq_o4, kSeq_if, w_seq, kExpr_o0, kExpr_o1, kExpr_if, w_expr, nxO_o, kAsg_o0, kAsg_o1, kAsg_if, w_asg, stO_o, kSetf2_o0, kSetf2_o1, kSetf2_if, kSetf1_o0, kSetf1_o1, kSetf1_if, w_setf, kSeti3_o0, kSeti3_o1, kSeti3_if, kSeti2_o0, kSeti2_o1, kSeti2_if, kSeti1_o0, kSeti1_o1, kSeti1_if, w_seti, agF_o, kAgi4_o0, kAgi4_o1, kAgi4_if, kAgi3_o0, kAgi3_o1, kAgi3_if, kAgi2_o0, kAgi2_o1, kAgi2_if, kAgi1_o0, kAgi1_o1, kAgi1_if, w_augi, ixL_loc, augP_o, kAug_o0, kAug_o1, kAug_if, augV_o, w_aug, kRet_o0, kRet_o1, kRet_if, w_ret, kIfS_b, kIfS_x, kIfS_if, w_ife, kFor_o0, kFor_o1, kFor_if, w_for, kFork_0, kFork_1, kFork_2, kFork_3, kFork_4, kFork_if, w_forc, w_forB, un_if, gone_if, tryE_if, endF_n, endF_r, endF_x, endF_if, w_run, seal_if, cs_World___init___clock_looked_at, cs_World___init___World_two_hands, cs_World___init___way_looked_at, cs__law_ways__law_stream, cs__law_ways__law_amount, cs_World_way_World_two_hands, cs_Take_own_bounds_World_way, cs__law_row__law_number, cs_Sight___init___Happening___init__, cs_Send___init___Happening___init__, cs_Take___init___Happening___init__, cs_all_whole_is_whole, cs_is_name_all_whole, cs_happening_all_whole, cs_happening_Happening___init__, cs_happening_Sight___init__, cs_happening_is_whole, cs_happening_Send___init__, cs_happening_is_name, cs_happening_Take___init__, cr_law__law_cell_at, cs_law__law_cell_at, cr_law__law_ways, cs_law__law_ways, cr_law_World___init__, cs_law_World___init__, cr_law__law_row, cs_law__law_row, cr_law_happening, cs_law_happening, cr_law_Take___init__, cs_law_Take___init__, cr_law_Happening_own_bounds, cs_law_Happening_own_bounds, cr_law_Sight_own_bounds, cs_law_Sight_own_bounds, cr_law_Take_own_bounds, cs_law_Take_own_bounds, cr_law__law_due, cs_law__law_due, cr_law__law_kinds, cs_law__law_kinds, ck_Sight___init___Happening___init__, cm_Sight___init___Happening___init__, ck_Send___init___Happening___init__, cm_Send___init___Happening___init__, ck_Take___init___Happening___init__, cm_Take___init___Happening___init__, ck_happening_Happening___init__, cm_happening_Happening___init__, ck_happening_Sight___init__, cm_happening_Sight___init__, ck_happening_Send___init__, cm_happening_Send___init__, ck_happening_Take___init__, cm_happening_Take___init__, ck_law_World___init__, cm_law_World___init__, ck_law_Take___init__, cm_law_Take___init__, xf_0, xf_1, xf_2, xf_3, cl_0, cl_1, cl_2, cl_3, mt_0_11, mt_1_11, mt_2_11, mt_3_11, mt_4_11, mt_5_2, mt_5_5, in_1, in_2, in_3, in_4, in_5, fa_0_6, fa_0_8, fa_1_6, fa_1_8, fa_2_3, fa_2_4, fa_2_6, fa_2_8, fa_3_6, fa_3_8, fa_3_10, fa_4_6, fa_4_7, fa_4_8, fa_5_0, fa_5_1, gv_0, gv_1, ↓cf_0, ↓cf_1, ↓cf_2, ↓cf_3, ↓cf_4, ↓cf_5, dv_3, dv_4, dv_5, dv_7, dv_8, dv_11, dv_16, dv_24, dv_35, dv_100, dv_120, dv_240, sh_0, se_0_1, se_0_2, se_0_3, sh_1, se_1_0, se_1_2, se_1_3, sh_2, se_2_0, se_2_1, se_2_3, sh_3, se_3_0, se_3_1, se_3_2, a_clocks, a_bonds, a_two_hands, a_early, a_late, a_way, a_hand, a_letter, a_reading, a___init__, a_to, a_own_bounds, c_Happening, c_Look, c_Sight, c_Send, c_Take, c_World, x_NoHand, x_NoClock, x_NoWay, x_NoHappening, List.take_length, y_clock_looked_at, y_way_looked_at, List.length_replicate, y__law_number, w_two, y_is_whole, all_t, s13_3, s13_4, s13_5, s1_3, s1_4, s1_5, s3_5, z_look, z_sight, z_send, z_take, y_is_name, t22, t41, s2_3, y__law_amount, z_Hb, y__law_cell_at, rw0, rw1, rw2, rw3s, rw3t, rw3i, rw4i, rwc, rwcn, Rw.hand, Rw.read, Rw.word, hD, cl_bds, *])
abbrev eL (ns : List Int) (k : Nat) (cs : List (Int × Int)) (ws : List Wy) (v6 : Sl) : DEnv := [.v (.scr ns), .v (.int k), .v (.dT (waysD ws)), .v (wdD cs ws), .no, .no, v6, .no, .no, .no, .no]
theorem cut_last (X : List Den.D) : cutD (X ++ [Den.D.non]) none (some (-1)) = X := by
  unfold cutD HT.sIx
  simp
  rw [show (-1 + ((X.length : Int) + 1)).toNat = X.length by omega, List.take_left]
theorem b_law (ns : List Int) (k : Nat) (hk : 2 ≤ k ∧ k ≤ 6) (cs : List (Int × Int)) (hcs : cs.length = k) (ws : List Wy) (hg : ∀ w ∈ ws, wyG k w) (hn : (ws.map fun w => (w.one, w.other)).Nodup) (ht : ∀ a b : Int, 0 ≤ a → a < k → 0 ≤ b → b < k → a ≠ b → told ws a b)
    (c : Int) (bs : Nat) (S : Sto) (hb : bs ≤ S.length) : ∃ l : List Cell, evS (Ps 24) bs b_law_1 (eL ns k cs ws (.v (.int c))) S = .nx (eL ns k cs ws .no) (S ++ l) := by
  obtain ⟨w, w0, w1, w2, ew⟩ := y__law_row k hk c
  obtain ⟨nm, hnm⟩ : ∃ nm : Int × Int, (w.hand, c / 11 % 60) = nm := ⟨_, rfl⟩
  have hnm2 : Den.D.tup [.int w.hand, .int (c / 11 % 60)] = prD nm := by rw [← hnm]; rfl
  obtain ⟨wy, hwy⟩ : ∃ wy : Wy, ∀ h r a b, w = .take h r a b → ¬ hnBad cs.length a h ∧ ws.find? (fun v => decide (v.one = a ∧ v.other = h)) = some wy := by
    cases w with
    | take h r a b =>
      obtain ⟨a0, a1, a2⟩ := w2 h r a b rfl
      obtain ⟨v, hv, rfl, rfl⟩ := ht a h a0 a1 w0 w1 a2
      refine ⟨v, fun h r a b e => ?_⟩
      cases e
      refine ⟨?_, find_key hn hv⟩
      rw [hcs]
      exact (hg v hv).1
    | look h r => exact ⟨⟨0, 0, 0, none⟩, fun h r a b e => nomatch e⟩
    | sight h r e l => exact ⟨⟨0, 0, 0, none⟩, fun h r a b e => nomatch e⟩
    | send h r t => exact ⟨⟨0, 0, 0, none⟩, fun h r a b e => nomatch e⟩
  have ed := fun st => y__law_due w nm ws wy (fun h r a b e => (hwy h r a b e).2) st
  have hbl : (bds w nm wy).length < 1000 := by
    cases w <;> simp [bds] <;> split <;> simp
  have ek := fun S g hg => y__law_kinds S g (bds w nm wy) hbl hg
  have e1 := ek (S ++ [.mu (.lst ((bds w nm wy).map Bd.d))]) S.length (by simp)
  have n1 := Enc.c_neL encBd.list (by decide) (bds w nm wy) (bds w nm wy) (x := .loc S.length) (y := .lst ((bds w nm wy).map Bd.d)) (st := S ++ [.mu (.lst ((bds w nm wy).map Bd.d))]) (by unfold look; simp) rfl
  have n2 := Enc.c_neL encBd.list (by decide) (bds w nm wy) (bds w nm wy) (x := .loc (S.length + 1)) (y := .lst ((bds w nm wy).map Bd.d)) (st := S ++ [Cell.mu (.lst ((bds w nm wy).map Bd.d ++ [.non])), Cell.mu (.lst ((bds w nm wy).map Bd.d))]) (by
    unfold look; dsimp only; rw [List.getElem?_append_right (by omega), Nat.add_sub_cancel_left]; rfl) rfl
  have hft : fits bs S.length .non = true := by unfold fits; simp [closed]
  have hct : cutD ((bds w nm wy).map Bd.d ++ [Den.D.non]) none (some (-1)) = (bds w nm wy).map Bd.d := by
    generalize (bds w nm wy).map Bd.d = X
    exact cut_last X
  simp only [decide_true, Bool.not_true] at n1 n2
  have hbl2 : (bds w nm wy).length < 16777216 := by omega
  refine ⟨[.mu (.lst ((bds w nm wy).map Bd.d ++ [.non])), .mu (.lst ((bds w nm wy).map Bd.d))], ?_⟩
  have y1 := fun st => y_happening w st
  cases w with
  | look h r =>
    simp only [hD, Rw.hand, bds, List.map_nil, List.nil_append] at *
    clear hwy w0 w1 w2 hg hn ht hnm
    unfold b_law_1
    walk_at "den"
  | send h r t =>
    simp only [hD, Rw.hand, bds, List.map_nil, List.nil_append] at *
    clear hwy w0 w1 w2 hg hn ht hnm
    unfold b_law_1
    walk_at "den"
  | sight h r e l =>
    have ez := fun st => z_Sb h r e l (wdD cs ws) nm wy st
    simp only [hD, Rw.hand] at *
    generalize bds (.sight h r e l) nm wy = bl at *
    clear hwy w0 w1 w2 hg hn ht hnm
    unfold b_law_1
    walk_at "den"
  | take h r a b =>
    obtain ⟨v1, v2⟩ := hwy h r a b rfl
    have ez := fun st => z_Tb h r a b cs ws nm wy (by omega) v1 v2 st
    simp only [hD, Rw.hand] at *
    generalize bds (.take h r a b) nm wy = bl at *
    clear hwy w0 w1 w2 hg hn ht hnm v1 v2
    unfold b_law_1
    by_cases q : c / 8 % 2 = 1 <;> walk_at "den"
local macro_rules | `(tactic| walk_at "den") => `(tactic| try simp -implicitDefEqProofs only [FI.fn, x_cst, x_and, x_or, x_and0, x_or0, x_revl, x_nil, x_o0, y_skip, y_retN, y_whl, y_brk, y_cnt, y_try, tryE_nx, tryE_rt, tryE_exc, h_skip, gone_nx, gone_rt, o_add, o_sub, o_mul, o_fdiv, o_mod, o_pow, o_neg, c_lt, c_le, c_gt, c_ge, c_isN, c_notN, c_eqI, c_neI, c_eqB, c_neB, o_addL, k_tup, k_lst, ix0, ix1, ix2, ix3, ix4, itl, itt, lk_nil, un_nx, un_rt, un_exc, for_nil, n_non, n_int, n_bl, n_str, n_tup, n_lst, n_loc, r_ite, r_iteN, lc_nil, lc_Ff, lc_Ft, wp_nil, wp_cons, c_isB, c_notB, p_abs, p_len_lst, p_len_scr, p_len_tup, p_max2, p_min2, i_non_bool, i_non_int, i_non_str, i_non_tuple, i_non_list, i_non_dict, i_bl_bool, i_bl_int, i_bl_str, i_bl_tuple, i_bl_list, i_bl_dict, i_int_bool, i_int_int, i_int_str, i_int_tuple, i_int_list, i_int_dict, i_str_bool, i_str_int, i_str_str, i_str_tuple, i_str_list, i_str_dict, i_tup_bool, i_tup_int, i_tup_str, i_tup_tuple, i_tup_list, i_tup_dict, i_lst_bool, i_lst_int, i_lst_str, i_lst_tuple, i_lst_list, i_lst_dict, List.length_cons, List.length_nil, List.length_map, List.map_cons, List.map_nil, List.cons_append, List.nil_append, List.replicate_zero, List.replicate_succ, List.getElem?_cons_zero, List.getElem?_cons_succ, List.set_cons_zero, List.set_cons_succ, asgT, asgTs, Option.bind_some, Nat.zero_add, Nat.reduceAdd, Nat.reduceSub, ↓reduceIte, if_true, if_false, decide_eq_true_eq, Nat.reduceLT, Int.reduceLT, Nat.reduceEqDiff, Bool.false_eq_true, Bool.not_true, Bool.not_false, Bool.and_true, Bool.true_and, Bool.and_false, Bool.false_and, Bool.or_true, Bool.true_or, Bool.or_false, Bool.false_or, decide_true, decide_false, Int.cast_ofNat_Int, Int.reduceEq, x_own, own_ok, y_kill, y_frz, sl_cl, sl_x0, sl_x1, sl_a, g_app, g_app0, s_app, s_app0, len_app, lk_app, lk_app0, lko_app, lko_app0, fit_o, fit_o0, cl_non, cl_bl, cl_int, cl_str, cl_scr, cl_tup, cl_lst, cl_ins, cl_nil, cl_cons, cl_fnil, cl_fcons, List.append_assoc, List.set_cons_zero, List.set_cons_succ, Nat.add_zero, Nat.reduceLeDiff, LIM, bind_ok, beq_self_eq_true, bmT_eq, bmC_l, bmC_k, bmC_t, bmC_s, lstM, dicM, strM, lm_append, lm_clear, lm_reverse, lm_append_o, lm_clear_o, lm_reverse_o, it_enum_l, ix5, ix6, ix7, ix8, ix9, ix10, ix11, it_seq_l, it_seq_s, slc_scr, mx_0, mx_1, mx_2t, mx_2f, si_eq, si_l, fd_eq, fd_i, cs_eq, cs_i, sf_eq, sf_i, pu_nil, pu_cons, mk_keep, mkK_o, nonL_o, nonL_x, ixm2, ixm3, ixm4, ixm5, ixm6, ixm7, ixm8, ixm9, ixm10, ixm11, ixm12, p_dm, isi_loc, isC_ll, isC_lt, isC_ld, isC_ls, isC_kd, p_lst_l, p_lst_t, p_tup_l, p_lst_loc, it_loc, itO_l, lk_1, un_1, un1_o, lcF_1, lcG_f, lcG_t, un_n1, un_r1, slc_l, slc_loc, slO_l, dn_tf, dn_tt, dn_ff, dn_ft, it_zip, it_rev, iso_i, iso_loc, isoC_i, dsp_i1, it_keys_K, it_keys_T, it_items_K, it_items_T, it_keys_loc, it_items_loc, itQ_kK, itQ_kT, itQ_iK, itQ_iT, dicW, im_loc, im_mu, si_k, si_t, lk_K, lk_T, lk_l, lk_t, lk_s, lk_i, dl_k, dl_s, dl_t, ix_k, ix_ks, ix_t, dp_k, dp_s, dp_t, dd_k, dd_t, ds_k, ds_t, ci_loc, ni_loc, io_K, io_T, ci_K, ni_K, ci_T, ni_T, dlO_o, gtR_o, lm_get1, lm_get2, sdP_o, sdP_if, sdP_n, sdQ_s, sdQ_n, sdR_o, lm_setdef, poQ_s, poR_o, lm_dpop1, ixR_o, plO_o, lm_index, rmR_o, lm_remove, lm_insert, p_len_o, ln_l, ln_K, ln_T, p_len_K, p_len_T, Option.map_some, Option.isSome_some, Option.isSome_none, Option.getD_some, Option.getD_none, Nat.le_add_right, idx_loc, idxO_l, idxO_K, idxO_T, mk_pure, mkP_o, sl_ap, sl_apx, sl_apx1, sl_x2, List.take_succ_cons, List.take_zero, List.take_nil, List.lookup_cons, List.lookup_nil, Nat.reduceBEq, Option.isNone_none, Option.isNone_some, and_true, true_and, and_self, kUn_o0, kUn_o1, kUn_if, z_un, kBin2_o0, kBin2_o1, kBin2_if, kBin1_o0, kBin1_o1, kBin1_if, z_bin, kCmp2_o0, kCmp2_o1, kCmp2_if, kCmp1_o0, kCmp1_o1, kCmp1_if, z_cmp, kChn3_b, kChn3_x, kChn3_if, kChn2_o0, kChn2_o1, kChn2_if, kChn1_o0, kChn1_o1, kChn1_if, z_chn, kNot_o0, kNot_o1, kNot_if, z_not, kAnd_b, kAnd_x, kAnd_if, z_andc, kOr_b, kOr_x, kOr_if, z_orc, kIfe_b, kIfe_x, kIfe_if, z_ife, kTup_o0, kTup_o1, kTup_if, z_tup, kLst_o0, kLst_o1, kLst_if, z_lst, kIdx2_o0, kIdx2_o1, kIdx2_if, kIdx1_o0, kIdx1_o1, kIdx1_if, z_idx, kSlc3_o0, kSlc3_o1, kSlc3_if, kSlc2_o0, kSlc2_o1, kSlc2_if, kSlc1_o0, kSlc1_o1, kSlc1_if, z_slc, kFld_o0, kFld_o1, kFld_if, z_fld, kCall_o0, kCall_o1, kCall_if, z_call, kMeth2_o0, kMeth2_o1, kMeth2_if, kMeth1_o0, kMeth1_o1, kMeth1_if, z_meth, kMake_o0, kMake_o1, kMake_if, z_make, kPr_o0, kPr_o1, kPr_if, z_pr, kIso_o0, kIso_o1, kIso_if, z_iso, kDsp_o0, kDsp_o1, kDsp_if, z_ddsp, kIx2_o0, kIx2_o1, kIx2_if, kIx1_o0, kIx1_o1, kIx1_if, z_idxx, kMx2_o0, kMx2_o1, kMx2_if, kMx1_o0, kMx1_o1, kMx1_if, z_mxd, kBm2_o0, kBm2_o1, kBm2_if, kBm1_o0, kBm1_o1, kBm1_if, z_bm, kIsi_o0, kIsi_o1, kIsi_if, z_isi, kA2_o0, kA2_o1, kA2_if, kA1_o0, kA1_o1, kA1_if, z_cons, kO_o0, kO_o1, kO_if, z_o1, getV_o, z_var, getG_o, z_gl, isxV_o, blO_o, z_isx, w_rais, xfO_o, w_raisA, z_fldx, kRais_o, kRais_x, kRais_if, xfA_o, fxV_o, fxO_o, w_exc, hO_t, hO_n, hO_f, w_excR, hR_t, hR_f, gR_x, gR_nx, gR_rt, gR_bk, gR_ct, gR_if, gn_nil, gn_v, gn_n, gn_x, gn_s, c_eqT, c_neT, kLc_o0, kLc_o1, kLc_if, z_lc, kLcE_s, kLcE_n, kLcE_if, z_lcc, kLcS_o, kLcT_b, kLcT_x, kLcT_if, z_lcB, kSeq_o0, kSeq_o1, kSeq_o2, kSeq_o3, kSeq_o4, kSeq_if, w_seq, kExpr_o0, kExpr_o1, kExpr_if, w_expr, nxO_o, kAsg_o0, kAsg_o1, kAsg_if, w_asg, stO_o, kSetf2_o0, kSetf2_o1, kSetf2_if, kSetf1_o0, kSetf1_o1, kSetf1_if, w_setf, kSeti3_o0, kSeti3_o1, kSeti3_if, kSeti2_o0, kSeti2_o1, kSeti2_if, kSeti1_o0, kSeti1_o1, kSeti1_if, w_seti, agF_o, kAgi4_o0, kAgi4_o1, kAgi4_if, kAgi3_o0, kAgi3_o1, kAgi3_if, kAgi2_o0, kAgi2_o1, kAgi2_if, kAgi1_o0, kAgi1_o1, kAgi1_if, w_augi, ixL_loc, augP_o, kAug_o0, kAug_o1, kAug_if, augV_o, w_aug, kRet_o0, kRet_o1, kRet_if, w_ret, kIfS_b, kIfS_x, kIfS_if, w_ife, kFor_o0, kFor_o1, kFor_if, w_for, kFork_0, kFork_1, kFork_2, kFork_3, kFork_4, kFork_if, w_forc, w_forB, un_if, gone_if, tryE_if, endF_n, endF_r, endF_x, endF_if, w_run, seal_if, cs_World___init___clock_looked_at, cs_World___init___World_two_hands, cs_World___init___way_looked_at, cs__law_ways__law_stream, cs__law_ways__law_amount, cs_World_way_World_two_hands, cs_Take_own_bounds_World_way, cs__law_row__law_number, cs_Sight___init___Happening___init__, cs_Send___init___Happening___init__, cs_Take___init___Happening___init__, cs_all_whole_is_whole, cs_is_name_all_whole, cs_happening_all_whole, cs_happening_Happening___init__, cs_happening_Sight___init__, cs_happening_is_whole, cs_happening_Send___init__, cs_happening_is_name, cs_happening_Take___init__, cr_law__law_cell_at, cs_law__law_cell_at, cr_law__law_ways, cs_law__law_ways, cr_law_World___init__, cs_law_World___init__, cr_law__law_row, cs_law__law_row, cr_law_happening, cs_law_happening, cr_law_Take___init__, cs_law_Take___init__, cr_law_Happening_own_bounds, cs_law_Happening_own_bounds, cr_law_Sight_own_bounds, cs_law_Sight_own_bounds, cr_law_Take_own_bounds, cs_law_Take_own_bounds, cr_law__law_due, cs_law__law_due, cr_law__law_kinds, cs_law__law_kinds, ck_Sight___init___Happening___init__, cm_Sight___init___Happening___init__, ck_Send___init___Happening___init__, cm_Send___init___Happening___init__, ck_Take___init___Happening___init__, cm_Take___init___Happening___init__, ck_happening_Happening___init__, cm_happening_Happening___init__, ck_happening_Sight___init__, cm_happening_Sight___init__, ck_happening_Send___init__, cm_happening_Send___init__, ck_happening_Take___init__, cm_happening_Take___init__, ck_law_World___init__, cm_law_World___init__, ck_law_Take___init__, cm_law_Take___init__, xf_0, xf_1, xf_2, xf_3, cl_0, cl_1, cl_2, cl_3, mt_0_11, mt_1_11, mt_2_11, mt_3_11, mt_4_11, mt_5_2, mt_5_5, in_1, in_2, in_3, in_4, in_5, fa_0_6, fa_0_8, fa_1_6, fa_1_8, fa_2_3, fa_2_4, fa_2_6, fa_2_8, fa_3_6, fa_3_8, fa_3_10, fa_4_6, fa_4_7, fa_4_8, fa_5_0, fa_5_1, gv_0, gv_1, ↓cf_0, ↓cf_1, ↓cf_2, ↓cf_3, ↓cf_4, ↓cf_5, dv_3, dv_4, dv_5, dv_7, dv_8, dv_11, dv_16, dv_24, dv_35, dv_100, dv_120, dv_240, sh_0, se_0_1, se_0_2, se_0_3, sh_1, se_1_0, se_1_2, se_1_3, sh_2, se_2_0, se_2_1, se_2_3, sh_3, se_3_0, se_3_1, se_3_2, a_clocks, a_bonds, a_two_hands, a_early, a_late, a_way, a_hand, a_letter, a_reading, a___init__, a_to, a_own_bounds, c_Happening, c_Look, c_Sight, c_Send, c_Take, c_World, x_NoHand, x_NoClock, x_NoWay, x_NoHappening, List.take_length, y_clock_looked_at, y_way_looked_at, List.length_replicate, y__law_number, w_two, y_is_whole, all_t, s13_3, s13_4, s13_5, s1_3, s1_4, s1_5, s3_5, z_look, z_sight, z_send, z_take, y_is_name, t22, t41, s2_3, y__law_amount, z_Hb, y__law_cell_at, rw0, rw1, rw2, rw3s, rw3t, rw3i, rw4i, rwc, rwcn, Rw.hand, Rw.read, Rw.word, hD, cl_bds, Int.reduceLE, Int.le_refl, *])
theorem x_law (ns : List Int) (hns : ns.length ≤ 63) (st : Sto) : ∃ st', X_law [.scr ns] st st.length = .ok (.bl true) st' := by
  obtain ⟨k, hk⟩ : ∃ k : Nat, 2 + ns.getD (0 : Int).toNat 0 % 5 = (k : Int) := ⟨(2 + ns.getD (0 : Int).toNat 0 % 5).toNat, by omega⟩
  have hk1 : 2 ≤ k ∧ k ≤ 6 := by omega
  obtain ⟨ws, hw, hg, hn, ht, ew⟩ := y__law_ways k hk1 (ns.getD (0 : Int).toNat 0 / 5) st
  have hcs : (List.replicate k ((1 : Int), (1 : Int))).length = k := by simp
  obtain ⟨cs, hcs'⟩ : ∃ cs, List.replicate k ((1 : Int), (1 : Int)) = cs := ⟨_, rfl⟩
  have eo := fun st => ones k hk1.2 st
  rw [hcs'] at hcs eo
  have zw := z_World cs ws st (by omega) (by omega)
  have hR : worldR cs ws st = .ok (wdD cs ws) st := by
    unfold worldR worldF
    rw [if_neg (by omega)]
    have c1 : flts ckF [] cs = none := by
      rw [← hcs']
      have : ∀ (n : Nat) (pre : List (Int × Int)), flts ckF pre (List.replicate n ((1 : Int), (1 : Int))) = none := by
        intro n
        induction n with
        | zero => intro pre; rfl
        | succ n ih => intro pre; rw [List.replicate_succ]; unfold flts ckF; simp; exact ih _
      exact this k []
    rw [c1]
    dsimp only
    rw [no_flt ws [] (fun w hw => by rw [hcs]; exact hg w hw) hn]
  rw [hR] at zw
  have lw := fun a3 st => l_ways ns k ws a3 st.length st
  have lw := lw .no st
  obtain ⟨ρ', st', e, rfl, l, rfl⟩ := forD_pre Den.D.int (body := forB P_law st.length (T.nm 6) b_law_1)
    (fun pre ρ st' => ρ = eL ns k cs ws .no ∧ ∃ l, st' = st ++ l) (cutD ns (some 1) (some 31)) (by
      rintro pre c post hq ρ st' ⟨rfl, l, rfl⟩
      obtain ⟨l2, e⟩ := b_law ns k hk1 cs hcs ws hg hn ht c st.length (st ++ l) (by simp)
      exact ⟨_, _, .inl e, rfl, l ++ l2, List.append_assoc _ _ _⟩)
    (eL ns k cs ws .no) st ⟨rfl, [], by simp⟩
  have n0 := fun st => Enc.c_eq (Enc.int.pair Enc.int) (by decide) ((-1 : Int), (0 : Int)) (-1, 0) st
  simp only [decide_true] at n0
  have hwl : (waysD ws).length ≤ 16777216 := by unfold waysD; rw [List.length_map]; omega
  refine ⟨st ++ l, ?_⟩
  clear hg hn ht hcs hcs' hk1 hR hw
  unfold X_law f_law s_law
  walk_at "den"
theorem law_run (ns : List Int) (hn : ns.length ≤ 63) : ∃ st, run td.cl (td.fs.map FI.fn) 24 [.scr ns] [] 0 = .ok (.bl true) st := by
  rw [run_law]; exact x_law ns hn []
end K15
open PySem PySem.W PySem.Calls PyProof.Rows
set_option maxRecDepth 100000 in
set_option maxHeartbeats 8000000 in
theorem PySem.Challenge.cw_driftmeet_k15_own_bounds_holds : PySem.Challenge.rw_driftmeet_k15_own_bounds.Holds := by
  w_on; o_law
  refine HandSHeadRun.head_any (r := OpenLaw.row PySem.Challenge.rw_driftmeet_k15_own_bounds) (q := view (OpenLaw.row PySem.Challenge.rw_driftmeet_k15_own_bounds).prog [33]) (H := K15.hk) (ob := K15.ob) (M := 4000) (loose := K15.names) (d := HandSHeadRun.topDef (OpenLaw.row PySem.Challenge.rw_driftmeet_k15_own_bounds).prog 33) (kwd := []) K15.ob_eq
    (by kernel_rfl) (fun s => by kernel_rfl) K15.runs (by kernel_rfl) (by kernel_rfl) (by kernel_rfl) (by rfl) (by first | assumption | decide +kernel) (by decide +kernel) ⟨rfl, rfl, rfl, rfl, rfl, by decide +kernel⟩ ?hw ?hc
  case hw => w_witness2
  case hc =>
    refine Den.walk_end (Gg := K15.td.gm) (l := PySem.Challenge.rw_driftmeet_k15_own_bounds) (n := 63) (k := 5) (x := "_law_script") rfl (by decide) (by kernel_rfl) ⟨rfl, by decide, by decide⟩ ?F
    intro w mg fa h Y G hmg0
    have e : (HandSHeadRun.topDef (OpenLaw.row PySem.Challenge.rw_driftmeet_k15_own_bounds).prog 33).name = ("law" : PySem.Str) := by kernel_rfl
    exact Den.TD.end (t := K15.td) (f := K15.f_law) (r := K15.td.fs.drop 1) (d := HandSHeadRun.topDef (OpenLaw.row PySem.Challenge.rw_driftmeet_k15_own_bounds).prog 33) rfl rfl (by rw [e]; rfl) K15.glOk K15.chk K15.noDfl K15.binds (by rw [e]; decide +kernel) K15.law_run w mg fa h Y G hmg0
