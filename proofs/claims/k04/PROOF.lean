import PyProof.Rows.All
import Wide.All
import OpenK.AllK
import Wide.FinOn
import HandS.ForMost
import HandS.ForExc
import HandS.Wide
import HandS.IsInst
import HandS.ExcIs
import HandS.ExcCtx
import HandS.CallSlots
import HandS.HotCalls
import HandS.TupAny
import HandS.TupMul
import KE.KEqDict
import KE.SortCalls
import KE.LtData
import KE.DataCmp
import HandS.SortInts
import HandS.More
import HandS.WideBits
import HandS.Text
import KE.IntTextLaws
import HandS.Base
import HandS.Call
import HandS.Comp
import HandS.Exc
import HandS.ExcOwn
import HandS.Hot
import HandS.ClsMeth
import HandS.Iter
import HandS.Style
import HandS.SetFor
import HandS.Small
import HandS.Zip
import HandS.Rev
import HandS.StrMore
import HandS.FStr
import HandS.RaiseMore
import KE.KIntText
import HandS.Set
import HandS.SetKeys
import HandS.Sort
import HandS.Conv
import HandS.Defaults
import HandS.HeadHook4
import HandS.Head2
import HandS.HeadEnd
import HandS.HeadWalk
import HandS.HeadNt
import KE.KStateDown
import HandS.Head0
import HandS.Head1
import HandS.HeadHook1
import HandS.HeadHook2
import PySem.Challenge.RW_coinroll_k04_months_told
set_option Elab.async false
set_option linter.all false
set_option maxRecDepth 100001
set_option maxHeartbeats 0
/-! VM0: a small machine over values: what a Python text does, as a total function. -/
namespace VM

/-- a dict's key -/
inductive Key where
  | i (n : Int) | s (t : List Nat)
  deriving DecidableEq

/-- values: data by value; scr: a list that is locked; cell i: the i-th shared object; exc: the exception that is handled; fn: a def; dlk: a shared dict that is walked -/
inductive D where
  | non | bl (b : Bool) | int (i : Int) | str (s : List Nat) | tup (ds : List D) | lst (ds : List D) | scr (ds : List D) | dct (ks : List Key) (vs : List D)
  | cell (i : Nat) | ins (C : Nat) (fs : List Nat) (vs : List D) | exc | fn (f : Nat) | dlk (ks : List Key) (vs : List D)
abbrev Mem := List D
/-- a slot: unset, a value, an own list or dict -/
inductive SV where
  | u | v (d : D) | o (d : D)
/-- how a result stands: for good, new and nobody's, borrowed of an own slot -/
inductive Kd where
  | f | n | b
  deriving DecidableEq
inductive Rs (α : Type) where
  | ok (a : α) (M : Mem) | ex (C : Nat) (M : Mem) | stk
def Rs.bind {α β : Type} : Rs α → (α → Mem → Rs β) → Rs β
  | .ok a M, f => f a M
  | .ex C M, _ => .ex C M
  | .stk, _ => .stk
structure KD where
  k : Kd
  d : D
/-- an operand that is kept -/
def Rs.fz : Rs KD → Rs D
  | .ok ⟨.b, _⟩ _ => .stk
  | .ok ⟨_, d⟩ M => .ok d M
  | .ex C M => .ex C M
  | .stk => .stk
/-- an operand that is looked at -/
def Rs.bw : Rs KD → Rs D
  | .ok ⟨_, d⟩ M => .ok d M
  | .ex C M => .ex C M
  | .stk => .stk

/-- a dict that is walked -/
def D.isDlk : D → Bool
  | .dlk _ _ => true
  | _ => false
def line : Nat := 16777216
def deref (M : Mem) : D → D
  | .cell i => M.getD i .non
  | d => d

/-! ### deep equality -/
mutual
def D.eq : D → D → Bool
  | .non, .non => true
  | .bl a, .bl b => a == b
  | .bl a, .int j => (if a then 1 else 0) == j
  | .int i, .bl b => i == (if b then 1 else 0)
  | .int i, .int j => i == j
  | .str x, .str y => x == y
  | .lst xs, .lst ys => eqs xs ys
  | .tup xs, .tup ys => eqs xs ys
  | _, _ => false
def eqs : List D → List D → Bool
  | [], [] => true
  | x :: xs, y :: ys => x.eq y && eqs xs ys
  | _, _ => false
end
mutual
/-- data of at most so many levels -/
def D.dp : Nat → D → Bool
  | _, .non => true
  | _, .bl _ => true
  | _, .int _ => true
  | _, .str _ => true
  | 0, _ => false
  | n + 1, .lst xs => dps n xs
  | n + 1, .tup xs => dps n xs
  | _, _ => false
def dps : Nat → List D → Bool
  | _, [] => true
  | n, x :: xs => x.dp n && dps n xs
end

/-! ### operators -/
inductive Bop where
  | add | sub | mul | fdiv | mod | pow
  deriving DecidableEq
inductive Cop where
  | eq | ne | lt | le | gt | ge | is | isn | isin | notin
  deriving DecidableEq
def smallI (i : Int) : Bool := decide (i.natAbs < 18446744073709551616)
def mulOk (i j : Int) : Bool := smallI i || smallI j || decide (i.natAbs.log2 + j.natAbs.log2 < 1000000)
def ok1 (d : D) (M : Mem) : Rs KD := .ok ⟨.f, d⟩ M
def okn (d : D) (M : Mem) : Rs KD := .ok ⟨.n, d⟩ M
def rep {α : Type} (xs : List α) : Nat → List α
  | 0 => []
  | n + 1 => xs ++ rep xs n
def addop (x y : D) (M : Mem) : Rs KD :=
  match x, y with
  | .int i, .int j => ok1 (.int (i + j)) M
  | .str a, .str b => if a.length + b.length < line then ok1 (.str (a ++ b)) M else .stk
  | x, y => (match deref M x, deref M y with
    | .lst xs, .lst ys => if xs.length + ys.length < line then okn (.lst (xs ++ ys)) M else .stk
    | .tup xs, .tup ys => if xs.length + ys.length < line then ok1 (.tup (xs ++ ys)) M else .stk
    | _, _ => .stk)
def mulop (x y : D) (M : Mem) : Rs KD :=
  match x, y with
  | .int i, .int j => if mulOk i j then ok1 (.int (i * j)) M else .stk
  | .str s, .int j => if j.natAbs < 1000000 ∧ s.length * j.toNat < line then ok1 (.str (rep s j.toNat)) M else .stk
  | x, .int j => (match deref M x with
    | .lst xs => if j.natAbs < 1000000 ∧ xs.length * j.toNat < line then okn (.lst (rep xs j.toNat)) M else .stk
    | .tup xs => if j.natAbs < 1000 ∧ xs.length < 1000 then ok1 (.tup (rep xs j.toNat)) M else .stk
    | _ => .stk)
  | _, _ => .stk
def intop (f : Int → Int → Rs KD) (x y : D) : Rs KD :=
  match x, y with
  | .int i, .int j => f i j
  | _, _ => .stk
def binop (o : Bop) (x y : D) (M : Mem) : Rs KD :=
  match o with
  | .add => addop x y M
  | .mul => mulop x y M
  | .sub => intop (fun i j => ok1 (.int (i - j)) M) x y
  | .fdiv => intop (fun i j => if 0 < j ∧ j.natAbs.log2 < 9000 then ok1 (.int (i / j)) M else .stk) x y
  | .mod => intop (fun i j => if 0 < j then ok1 (.int (i % j)) M else .stk) x y
  | .pow => intop (fun i j => if 0 ≤ j ∧ j ≤ 1000000 ∧ i.natAbs < 18446744073709551616 then ok1 (.int (i ^ j.toNat)) M else .stk) x y
def isN : D → Bool
  | .non => true
  | _ => false
/-- flat things: what may be looked for -/
def D.flat : D → Bool
  | .non => true
  | .bl _ => true
  | .int _ => true
  | .str _ => true
  | _ => false
def inL (x : D) : List D → Bool
  | [] => false
  | y :: ys => y.eq x || inL x ys
def subAt : List Nat → List Nat → Bool
  | s, [] => s.isEmpty
  | s, c :: t => s.isPrefixOf (c :: t) || subAt s t
/-! what stands in the shared objects, put in -/
mutual
def D.put (f : Nat → D) : D → D
  | .cell i => f i
  | .lst ds => .lst (puts f ds)
  | .tup ds => .tup (puts f ds)
  | d => d
def puts (f : Nat → D) : List D → List D
  | [] => []
  | d :: ds => d.put f :: puts f ds
end
def res (M : Mem) : Nat → D → D
  | 0, d => d
  | n + 1, d => d.put fun i => res M n (M.getD i .non)
/-- a dict, looked for among texts -/
def dctIn (x : D) (zs : List D) : Option Bool :=
  match x with
  | .dct _ _ => if dps 59 zs && zs.all (fun z => match z with
    | .str _ => true
    | _ => false) then some false else none
  | _ => none
/-- x in y, data of any depth -/
def isinG (x y : D) (M : Mem) : Option Bool :=
  match res M 4 y with
  | .lst zs => if (res M 4 (deref M x)).dp 60 && dps 59 zs then some (inL (res M 4 (deref M x)) zs) else dctIn (deref M x) zs
  | .tup zs => if (res M 4 (deref M x)).dp 60 && dps 59 zs then some (inL (res M 4 (deref M x)) zs) else dctIn (deref M x) zs
  | _ => none
def isin (x y : D) (M : Mem) : Option Bool :=
  match y with
  | .str t => (match x with
    | .str [c] => some (decide (c ∈ t))
    | _ => none)
  | y => (match deref M y with
    | .lst ys => if x.flat && ys.all D.flat then some (inL x ys) else isinG x (.lst ys) M
    | .tup ys => if x.flat && ys.all D.flat then some (inL x ys) else isinG x (.tup ys) M
    | .dct ks _ => (match x with
      | .int i => some (decide (Key.i i ∈ ks))
      | .str s => some (decide (Key.s s ∈ ks))
      | _ => none)
    | _ => none)
/-- == of two -/
def eqop (x y : D) (M : Mem) : Option Bool :=
  if (res M 4 (deref M x)).dp 60 && (res M 4 (deref M y)).dp 60 then some ((res M 4 (deref M x)).eq (res M 4 (deref M y))) else none
def ltS : List Nat → List Nat → Bool
  | _, [] => false
  | [], _ :: _ => true
  | a :: s, b :: t => if a = b then ltS s t else decide (a < b)
mutual
/-- before, in the order of Python, of things of one shape -/
def D.lt : D → D → Bool
  | .int i, .int j => decide (i < j)
  | .str s, .str t => ltS s t
  | .tup xs, .tup ys => lts xs ys
  | _, _ => false
def lts : List D → List D → Bool
  | _, [] => false
  | [], _ :: _ => true
  | x :: xs, y :: ys => if x.eq y then lts xs ys else x.lt y
end
/-- a thing's shape: an int, a text, a tuple of such -/
def shp1 : D → Option Nat
  | .int _ => some 1
  | .str _ => some 2
  | _ => none
def shps : List D → Option (List Nat)
  | [] => some []
  | d :: r => (match shp1 d, shps r with
    | some n, some ns => some (n :: ns)
    | _, _ => none)
def shp : D → Option (List Nat)
  | .tup ds => (shps ds).map (0 :: ·)
  | d => (shp1 d).map fun n => [n]
def cmpG (f : Int → Int → Bool) (g : D → D → Bool) (x y : D) : Option Bool :=
  match x, y with
  | .int i, .int j => some (f i j)
  | .tup xs, .tup ys => if (shp (.tup xs)).isSome && decide (shp (.tup xs) = shp (.tup ys)) then some (g (.tup xs) (.tup ys)) else none
  | _, _ => none
def isop (x y : D) : Option Bool :=
  match y with
  | .non => some (isN x)
  | _ => none
def cmpop (o : Cop) (x y : D) (M : Mem) : Option Bool :=
  match o with
  | .is => isop x y
  | .isn => (isop x y).map (!·)
  | .eq => eqop x y M
  | .ne => (eqop x y M).map (!·)
  | .lt => cmpG (fun i j => decide (i < j)) (fun x y => x.lt y) x y
  | .le => cmpG (fun i j => decide (i ≤ j)) (fun x y => !y.lt x) x y
  | .gt => cmpG (fun i j => decide (j < i)) (fun x y => y.lt x) x y
  | .ge => cmpG (fun i j => decide (j ≤ i)) (fun x y => !x.lt y) x y
  | .isin => isin x y M
  | .notin => (isin x y M).map (!·)
def okB (r : Option Bool) (M : Mem) : Rs KD :=
  match r with
  | some b => ok1 (.bl b) M
  | none => .stk

/-! ### built-ins -/
inductive Ty where
  | int | bool | str | list | tuple | dict | cls (C : Nat) | valueError | kls (C : Nat)
  deriving DecidableEq
inductive Pf where
  | len | sum | abs | int | divmod | all | list | tuple | max | min | sorted
  deriving DecidableEq
def sumI : List D → Option Int
  | [] => some 0
  | .int i :: r => (sumI r).map (i + ·)
  | _ => none
def allB : List D → Option Bool
  | [] => some true
  | .bl b :: r => (allB r).map (b && ·)
  | _ => none
def okI (r : Option Int) (M : Mem) : Rs KD :=
  match r with
  | some i => ok1 (.int i) M
  | none => .stk
def lenD : D → Option Int
  | .str s => some s.length
  | .lst xs => some xs.length
  | .tup xs => some xs.length
  | .scr xs => some xs.length
  | .dct ks _ => some ks.length
  | _ => none
def pfHot : Pf → Bool
  | .sum => false
  | .all => false
  | .divmod => false
  | .max => false
  | .min => false
  | .list => false
  | .sorted => false
  | _ => true
def pfAbs (as : List D) (M : Mem) : Rs KD :=
  match as with
  | [.int i] => ok1 (.int (if i < 0 then -i else i)) M
  | _ => .stk
/-- the number of figures -/
def dgv (s : List Nat) : Nat := s.foldl (fun a c => a * 10 + (c - 48)) 0
def isDg (s : List Nat) : Bool := !s.isEmpty && s.all fun c => decide (48 ≤ c ∧ c ≤ 57)
def pfInt (as : List D) (M : Mem) : Rs KD :=
  match as with
  | [.int i] => ok1 (.int i) M
  | [.str s] => if isDg s = true ∧ s.length ≤ 640 then ok1 (.int (dgv s)) M else .stk
  | [.bl b] => ok1 (.int (if b then 1 else 0)) M
  | _ => .stk
def pfDivmod (as : List D) (M : Mem) : Rs KD :=
  match as with
  | [.int i, .int j] => if 0 < j ∧ j.natAbs.log2 < 9000 then ok1 (.tup [.int (i / j), .int (i % j)]) M else .stk
  | _ => .stk
def pfLen (as : List D) (M : Mem) : Rs KD :=
  match as with
  | [a] => okI (lenD (deref M a)) M
  | _ => .stk
def pfSum (as : List D) (M : Mem) : Rs KD :=
  match as with
  | [a] => (match deref M a with
    | .lst xs => okI (sumI xs) M
    | _ => .stk)
  | _ => .stk
def pfAll (as : List D) (M : Mem) : Rs KD :=
  match as with
  | [a] => (match deref M a with
    | .lst xs => okB (allB xs) M
    | _ => .stk)
  | _ => .stk
def lstOf (d : D) (M : Mem) : Option (List D) :=
  match deref M d with
  | .lst xs => some xs
  | .scr xs => some xs
  | _ => none
def intsOf : List D → Option (List Int)
  | [] => some []
  | .int i :: r => (intsOf r).map (i :: ·)
  | _ => none
def insI (i : Int) : List Int → List Int
  | [] => [i]
  | j :: r => if i ≤ j then i :: j :: r else j :: insI i r
def sortI : List Int → List Int
  | [] => []
  | i :: r => insI i (sortI r)
def insD (x : D) : List D → List D
  | [] => [x]
  | y :: r => if y.lt x then y :: insD x r else x :: y :: r
def sortDs : List D → List D
  | [] => []
  | x :: r => insD x (sortDs r)
def sortD (xs : List D) : Option (List D) :=
  match xs with
  | [] => some []
  | x :: r => if ((shp x).isSome && shp x != some [0]) && r.all (fun y => decide (shp y = shp x)) then some (sortDs (x :: r)) else none
def maxI : Int → List Int → Int
  | i, [] => i
  | i, j :: r => maxI (if i < j then j else i) r
def minI : Int → List Int → Int
  | i, [] => i
  | i, j :: r => minI (if j < i then j else i) r
def okLs (r : Option (List D)) (M : Mem) : Rs KD :=
  match r with
  | some xs => okn (.lst xs) M
  | none => .stk
def kD : Key → D
  | .i n => .int n
  | .s t => .str t
def pfList (as : List D) (M : Mem) : Rs KD :=
  match as with
  | [a] => (match deref M a with
    | .tup xs => okn (.lst xs) M
    | .dct ks _ => if ks.length < line then okn (.lst (ks.map kD)) M else .stk
    | _ => okLs (lstOf a M) M)
  | _ => .stk
def pfTuple (as : List D) (M : Mem) : Rs KD :=
  match as with
  | [a] => (match deref M a with
    | .tup xs => ok1 (.tup xs) M
    | _ => (match lstOf a M with
      | some xs => ok1 (.tup xs) M
      | none => .stk))
  | _ => .stk
def Key.isS : Key → Bool
  | .s _ => true
  | _ => false
def pfSorted (as : List D) (M : Mem) : Rs KD :=
  match as with
  | [a] => (match deref M a with
    | .dct ks _ => if ks.length < 64 || (decide (ks.length < 4000) && ks.all Key.isS) then okLs (sortD (ks.map kD)) M else .stk
    | _ => okLs ((lstOf a M).bind sortD) M)
  | _ => .stk
def pfMax (as : List D) (M : Mem) : Rs KD :=
  match as with
  | [.int i, .int j] => ok1 (.int (if j > i then j else i)) M
  | [a] => (match (lstOf a M).bind intsOf with
    | some (i :: r) => ok1 (.int (maxI i r)) M
    | _ => .stk)
  | _ => .stk
def pfMin (as : List D) (M : Mem) : Rs KD :=
  match as with
  | [.int i, .int j] => ok1 (.int (if j < i then j else i)) M
  | [a] => (match (lstOf a M).bind intsOf with
    | some (i :: r) => ok1 (.int (minI i r)) M
    | _ => .stk)
  | _ => .stk
def pf (p : Pf) (as : List D) (M : Mem) : Rs KD :=
  match p with
  | .abs => pfAbs as M
  | .int => pfInt as M
  | .divmod => pfDivmod as M
  | .len => pfLen as M
  | .sum => pfSum as M
  | .all => pfAll as M
  | .list => pfList as M
  | .tuple => pfTuple as M
  | .max => pfMax as M
  | .min => pfMin as M
  | .sorted => pfSorted as M
def getK (k : Key) : List Key → List D → Option D
  | j :: ks, v :: vs => if j = k then some v else getK k ks vs
  | _, _ => none
def replK (k : Key) (v : D) : List Key → List D → List D
  | j :: ks, w :: vs => (if j = k then v else w) :: replK k v ks vs
  | _, _ => []
def putK' (k : Key) (v : D) (ks : List Key) (vs : List D) : List Key × List D := if k ∈ ks then (ks, replK k v ks vs) else (ks ++ [k], vs ++ [v])
def keyOf : D → Option Key
  | .int i => some (.i i)
  | .str s => some (.s s)
  | _ => none
def getF (f : Nat) : List Nat → List D → Option D
  | j :: ks, v :: vs => if j = f then some v else getF f ks vs
  | _, _ => none
def putF' (f : Nat) (v : D) : List Nat → List D → List Nat × List D
  | j :: ks, w :: vs => if j = f then (j :: ks, v :: vs) else ((j :: (putF' f v ks vs).1), (w :: (putF' f v ks vs).2))
  | ks, vs => (ks ++ [f], vs ++ [v])
/-- the place of an index in a sequence of so many -/
def place (n : Nat) (i : Int) : Option Nat := if 0 ≤ i then (if i < n then some i.toNat else none) else if -(n : Int) ≤ i then some (i + n).toNat else none
def at? {α : Type} (xs : List α) (i : Int) : Option α := (place xs.length i).bind fun j => xs[j]?
def okO (r : Option D) (M : Mem) : Rs KD :=
  match r with
  | some d => ok1 d M
  | none => .stk
def index (a i : D) (M : Mem) : Rs KD :=
  match i with
  | .int i => (match deref M a with
    | .lst xs => okO (at? xs i) M
    | .scr xs => okO (at? xs i) M
    | .tup xs => okO (at? xs i) M
    | .str xs => okO ((at? xs i).map fun c => .str [c]) M
    | .dct ks vs => okO (getK (.i i) ks vs) M
    | .dlk ks vs => okO (getK (.i i) ks vs) M
    | _ => .stk)
  | .str s => (match deref M a with
    | .dct ks vs => okO (getK (.s s) ks vs) M
    | .dlk ks vs => okO (getK (.s s) ks vs) M
    | _ => .stk)
  | _ => .stk
def attr (a : D) (f : Nat) (M : Mem) : Rs KD :=
  match deref M a with
  | .ins _ fs vs => okO (getF f fs vs) M
  | _ => .stk
def clsOf (M : Mem) (a : D) : Option Nat :=
  match deref M a with
  | .ins C _ _ => some C
  | _ => none
/-- what is changed in place: xs[i] = y, d[k] = y -/
def setAt (o i y : D) : Option D :=
  match o, i with
  | .lst xs, .int i => (place xs.length i).map fun j => .lst (xs.set j y)
  | .dct ks vs, i => (keyOf i).bind fun k => if ks.length < line then some (.dct (putK' k y ks vs).1 (putK' k y ks vs).2) else none
  | _, _ => none

/-! ### texts -/
/-- the methods of a text -/
inductive Tm where
  | join | split | part | sw | rst | lj | rj | zf
  deriving DecidableEq
def joinS (S : List Nat) : List (List Nat) → List Nat
  | [] => []
  | [p] => p
  | p :: q :: r => p ++ (S ++ joinS S (q :: r))
/-- cut at each c -/
def cut1 (c : Nat) : List Nat → List Nat → List (List Nat)
  | acc, [] => [acc]
  | acc, x :: r => if x = c then acc :: cut1 c [] r else cut1 c (acc ++ [x]) r
/-- cut at each sign sequence S: so many signs are still passed over -/
def cutAt (S : List Nat) : Nat → List Nat → List Nat → List (List Nat)
  | _, acc, [] => [acc]
  | 0, acc, c :: r => if ((c :: r).take S.length == S) = true then acc :: cutAt S (S.length - 1) [] r else cutAt S 0 (acc ++ [c]) r
  | n + 1, acc, _ :: r => cutAt S n acc r
def cutW (S a : List Nat) : List (List Nat) := match S with
  | [c] => cut1 c [] a
  | S => cutAt S 0 [] a
def par1 (c : Nat) : List Nat → List Nat → Option (List Nat × List Nat)
  | _, [] => none
  | acc, x :: r => if x = c then some (acc, r) else par1 c (acc ++ [x]) r
def numS (n : Nat) : List Nat := (Nat.toDigits 10 n).map Char.toNat
def intS (i : Int) : List Nat := if i < 0 then 45 :: numS i.natAbs else numS i.natAbs
def strsOf : List D → Option (List (List Nat))
  | [] => some []
  | .str s :: r => (strsOf r).map fun q => s :: q
  | _ => none
def padN (n : Nat) (i : Int) : Nat := i.toNat - n
def signed : List Nat → Bool
  | 43 :: _ => true
  | 45 :: _ => true
  | _ => false
def tmD (m : Tm) (a : List Nat) (ds : List D) (M : Mem) : Rs KD :=
  match m, ds with
  | .join, [y] => (match (lstOf y M).bind strsOf with
    | some ps => if (ps.map List.length).sum + ps.length * a.length < line then ok1 (.str (joinS a ps)) M else .stk
    | none => .stk)
  | .split, [.str S] => if S.isEmpty = false ∧ S.all (fun c => decide (c < 256)) = true ∧ a.length + 2 ≤ line then okn (.lst ((cutW S a).map .str)) M else .stk
  | .part, [.str [c]] => if c < 256 ∧ a.length ≤ line then (match par1 c [] a with
    | some (l, r) => ok1 (.tup [.str l, .str [c], .str r]) M
    | none => ok1 (.tup [.str a, .str [], .str []]) M) else .stk
  | .sw, [.str b] => ok1 (.bl (b.isPrefixOf a)) M
  | .rst, [.str b] => if a.length ≤ line then ok1 (.str (a.reverse.dropWhile fun x => b.contains x).reverse) M else .stk
  | .lj, [.int i] => if i < 100000 ∧ -100000 < i then ok1 (.str (a ++ List.replicate (padN a.length i) 32)) M else .stk
  | .rj, [.int i] => if i < 100000 ∧ -100000 < i then ok1 (.str (List.replicate (padN a.length i) 32 ++ a)) M else .stk
  | .zf, [.int i] => if i < 100000 ∧ -100000 < i ∧ signed a = false then ok1 (.str (List.replicate (padN a.length i) 48 ++ a)) M else .stk
  | _, _ => .stk
/-- an int's text, for ints that are not too great -/
def txtOf : D → Option (List Nat)
  | .str s => some s
  | .int i => if i.natAbs < 10 ^ 200 then some (intS i) else none
  | _ => none
def ppStr (ds : List D) (M : Mem) : Rs KD :=
  match ds with
  | [d] => (match txtOf d with
    | some s => ok1 (.str s) M
    | none => .stk)
  | _ => .stk
/-! ### more built-ins -/
inductive Pp where
  | sl (lo hi : Bool) | rvl | sset | lset | dct1 | str1 | inr (neg : Bool) | litems
  deriving DecidableEq
def clampI (n : Nat) (i : Int) : Nat := if i < 0 then (i + n).toNat else min i.toNat n
def cutL {α : Type} (xs : List α) (lo hi : Option Int) : List α :=
  let l := match lo with
    | some i => clampI xs.length i
    | none => 0
  let h := match hi with
    | some i => clampI xs.length i
    | none => xs.length
  (xs.drop l).take (h - l)
def bnds (lo hi : Bool) (ds : List D) : Option (Option Int × Option Int) :=
  match lo, hi, ds with
  | true, false, [.int i] => some (some i, none)
  | false, true, [.int j] => some (none, some j)
  | false, false, [] => some (none, none)
  | _, _, _ => none
/-- xs[lo:hi] -/
def slD (d : D) (lo hi : Option Int) (M : Mem) : Rs KD :=
  match deref M d with
  | .lst xs => okn (.lst (cutL xs lo hi)) M
  | .scr xs => okn (.lst (cutL xs lo hi)) M
  | .tup xs => ok1 (.tup (cutL xs lo hi)) M
  | .str xs => ok1 (.str (cutL xs lo hi)) M
  | _ => .stk
def ppSl (lo hi : Bool) (ds : List D) (M : Mem) : Rs KD :=
  match ds with
  | x :: r => (match bnds lo hi r with
    | some (l, h) => slD x l h M
    | none => .stk)
  | _ => .stk
def dctOf (d : D) (M : Mem) : Option (List Key × List D) :=
  match deref M d with
  | .dct ks vs => some (ks, vs)
  | .dlk ks vs => some (ks, vs)
  | _ => none
def pairsOf : List D → Option (List Key × List D)
  | [] => some ([], [])
  | .tup [k, v] :: r => (match keyOf k, pairsOf r with
    | some k, some (ks, vs) => some (k :: ks, v :: vs)
    | _, _ => none)
  | _ => none
def mergeD : List Key → List D → List Key → List D → List Key × List D
  | ks, vs, k :: r, v :: s => mergeD (putK' k v ks vs).1 (putK' k v ks vs).2 r s
  | ks, vs, _, _ => (ks, vs)
/-- dict(xs) of a list of pairs -/
def ppDct (ds : List D) (M : Mem) : Rs KD :=
  match ds with
  | [a] => (match (lstOf a M).bind pairsOf with
    | some (ks, vs) => okn (.dct (mergeD [] [] ks vs).1 (mergeD [] [] ks vs).2) M
    | none => .stk)
  | _ => .stk
def keysOf : List D → Option (List Key)
  | [] => some []
  | d :: r => (match keyOf d, keysOf r with
    | some k, some ks => some (k :: ks)
    | _, _ => none)
def dedup : List Key → List Key
  | [] => []
  | k :: r => if k ∈ r then dedup r else k :: dedup r
def ppLset (ds : List D) (M : Mem) : Rs KD :=
  match ds with
  | [a] => (match (lstOf a M).bind keysOf with
    | some ks => if ks.length < 4000 then ok1 (.int (dedup ks).length) M else .stk
    | none => .stk)
  | _ => .stk
def ppSset (ds : List D) (M : Mem) : Rs KD :=
  match ds with
  | [a] => (match (lstOf a M).bind keysOf with
    | some ks => if ks.length < 4000 ∧ (dedup ks).length < 64 then okLs (sortD ((dedup ks).map kD)) M else .stk
    | none => .stk)
  | _ => .stk
/-- x in range(a, b) -/
def ppInr (neg : Bool) (ds : List D) (M : Mem) : Rs KD :=
  match ds with
  | [.int x, .int a, .int b] => ok1 (.bl (if neg then !decide (a ≤ x ∧ x < b) else decide (a ≤ x ∧ x < b))) M
  | _ => .stk
def itemD (k : Key) (v : D) : D := .tup [kD k, v]
/-- list(d.items()) -/
def ppLit (ds : List D) (M : Mem) : Rs KD :=
  match ds with
  | [a] => (match deref M a with
    | .dct ks vs => if ks.length < line ∧ ks.length = vs.length then okn (.lst (List.zipWith itemD ks vs)) M else .stk
    | _ => .stk)
  | _ => .stk
/-- xs[::-1] -/
def ppRvl (ds : List D) (M : Mem) : Rs KD :=
  match ds with
  | [a] => (match lstOf a M with
    | some xs => okn (.lst xs.reverse) M
    | none => .stk)
  | _ => .stk
def prim (p : Pp) (ds : List D) (M : Mem) : Rs KD :=
  match p with
  | .sl lo hi => ppSl lo hi ds M
  | .rvl => ppRvl ds M
  | .sset => ppSset ds M
  | .lset => ppLset ds M
  | .dct1 => ppDct ds M
  | .str1 => ppStr ds M
  | .inr neg => ppInr neg ds M
  | .litems => ppLit ds M
/-! ### methods of built-ins -/
inductive Pm where
  | get | lidx | lcnt | tm (m : Tm) | pop
  deriving DecidableEq
def isLst (d : D) : Bool :=
  match d with
  | .lst _ => true
  | .scr _ => true
  | _ => false
def isDct (d : D) : Bool :=
  match d with
  | .dct _ _ => true
  | .dlk _ _ => true
  | _ => false
def isStr (d : D) : Bool :=
  match d with
  | .str _ => true
  | _ => false
/-- what a method is of -/
def pmOk (p : Pm) (d : D) : Bool :=
  match p with
  | .get => isDct d
  | .lidx => isLst d
  | .lcnt => isLst d
  | .tm _ => isStr d
  | .pop => isLst d
def pmGet (x : D) (ds : List D) (M : Mem) : Rs KD :=
  match ds with
  | [k] => (match dctOf x M, keyOf k with
    | some (ks, vs), some k => ok1 ((getK k ks vs).getD .non) M
    | _, _ => .stk)
  | [k, z] => if z.flat then (match dctOf x M, keyOf k with
    | some (ks, vs), some k => ok1 ((getK k ks vs).getD z) M
    | _, _ => .stk) else .stk
  | _ => .stk
def idxL (y : D) : List D → Option Nat
  | [] => none
  | x :: r => if x.eq y then some 0 else (idxL y r).map (· + 1)
def natI (n : Nat) : Int := (n : Int)
def pmIdx (x : D) (ds : List D) (M : Mem) : Rs KD :=
  match ds with
  | [y] => (match lstOf x M with
    | some xs => if y.flat && xs.all D.flat then okI ((idxL y xs).map natI) M else .stk
    | none => .stk)
  | _ => .stk
def pmCnt (x : D) (ds : List D) (M : Mem) : Rs KD :=
  match ds with
  | [y] => (match lstOf x M with
    | some xs => if y.flat && xs.all D.flat then ok1 (.int (xs.countP fun x => x.eq y)) M else .stk
    | none => .stk)
  | _ => .stk
/-- x.pop(i) of a shared list -/
def pmPop (x : D) (ds : List D) (M : Mem) : Rs KD :=
  match x, ds with
  | .cell j, [.int i] => (match M.getD j .non with
    | .lst xs => if i.natAbs < 9223372036854775808 then (match place xs.length i with
      | some k => (match xs[k]? with
        | some d => .ok ⟨.f, d⟩ (M.set j (.lst (xs.eraseIdx k)))
        | none => .stk)
      | none => .stk) else .stk
    | _ => .stk)
  | _, _ => .stk
def pm (p : Pm) (x : D) (ds : List D) (M : Mem) : Rs KD :=
  match p with
  | .get => pmGet x ds M
  | .lidx => pmIdx x ds M
  | .lcnt => pmCnt x ds M
  | .pop => pmPop x ds M
  | .tm m => (match deref M x with
    | .str a => tmD m a ds M
    | _ => .stk)

/-! ### the text -/
/-- a target: a slot, a tuple of targets -/
inductive Tg where
  | n (i : Nat) | t (l : Tg) | nil | cons (a l : Tg)
/-- what a for may walk besides: zip, enumerate, reversed, the signs of a text -/
inductive Ik where
  | zip | enu | rev | sgn
  deriving DecidableEq
inductive E where
  | v (i : Nat) | c (d : D) | g (x : Nat)
  | bin (o : Bop) (a b : E) | neg (a : E) | not (a : E) | and (a b : E) | or (a b : E)
  | cmp (o : Cop) (a b : E) | chn (o o' : Cop) (a b c : E) | ife (t a b : E)
  | call (f : Nat) (as : E) | bf (p : Pf) (as : E) | isi (a : E) (t : Ty)
  | ix (a i : E) | tup (as : E) | lst (as : E) | dct0
  | lc (own : List Nat) (t : Tg) (it : E) (c : E) (e : E) | lcr (own : List Nat) (t : Tg) (as : E) (c : E) (e : E)
  | cel (a : E) | rgl (a b : E)
  | pr (p : Pp) (as : E) | sl3 (a l h : E) | dsp (ks : List Key) (as : E) | pm (p : Pm) (o as : E) | att (a : E) (f : Nat) | meth (o : E) (m : Nat) (as : E) | mk (v : Bool) (C : Nat) (as : E) | sup (C : Nat) (as : E) | gf (f : Nat)
  | fs (as : E) | isi2 (a : E) (t u : Ty)
  | lci (k : Ik) (own : List Nat) (t : Tg) (as : E) (c : E) (e : E) | lcd (own : List Nat) (t : Tg) (a : E) (c : E) (e : E) | cv (fs : List Nat) (e as : E)
  | nil | cons (a b : E)
def E.isNil : E → Bool
  | .nil => true
  | _ => false
/-- what a for walks: the list of its items -/
inductive It where
  | e (a : E) | r1 (a : E) | r2 (a b : E)
/-- how a new list is stored: for good, own, as a shared one -/
inductive Md where
  | f | o | c
/-- what changes a list -/
inductive Mu where
  | app | ins | pop | clr
  deriving DecidableEq
def muL (k : Mu) (xs as : List D) : Option (List D) :=
  match k, as with
  | .app, [y] => if xs.length + 1 < line then some (xs ++ [y]) else none
  | .ins, [.int i, y] => if xs.length + 1 < line ∧ 0 ≤ i ∧ i < 9223372036854775808 then some (xs.take i.toNat ++ [y] ++ xs.drop i.toNat) else none
  | .pop, [] => if xs.isEmpty then none else some xs.dropLast
  | .pop, [.int i] => if i.natAbs < 9223372036854775808 then (place xs.length i).map fun k => xs.eraseIdx k else none
  | .clr, [] => some []
  | _, _ => none
inductive C where
  | par (i j : Nat) (as : E) | aug (i : Nat) (e : E) | setO (i : Nat) (ix e : E) | setC (a ix e : E) | augO (i : Nat) (ix e : E) | setA (m : Md) (a : E) (f : Nat) (e : E) | whl (n : Nat) (t : E) (b : C) | frz (i : Nat) | fori (k : Ik) (t : Tg) (as : E) (b : C)
  | mutO (k : Mu) (i : Nat) (as : E) | mutC (k : Mu) (a as : E) | ext (a e : E)
  | nop | seq (a b : C) | set (m : Md) (i : Nat) (e : E) | setT (t : Tg) (e : E) | exp (e : E)
  | ite (t : E) (a b : C) | for (t : Tg) (it : It) (b : C) | ret (e : E) | rai (C : Nat)
  | try (b : C) (h : C) | hnd (X : Nat) (i : Option Nat) (s : C) (r : C)

/-- the program's classes: the class above each (its own number: none), is it a ValueError -/
structure Tab where
  up : List (Option Nat)
  glob : List D
  kup : List (Option Nat) := []
  mt : List (Nat × Nat × Nat) := []
  ini : List Nat := []
  rl : List Bool := []
  rf : List Bool := []
/-- a class's method, where the text has it -/
def Tab.meth (T : Tab) (C m : Nat) : Option Nat :=
  match T.mt.find? fun x => x.1 == C && x.2.1 == m with
  | some x => if T.rf.getD x.2.2 false then some x.2.2 else none
  | none => none
def subC (up : List (Option Nat)) : Nat → Nat → Nat → Bool
  | 0, _, _ => false
  | n + 1, c, d => decide (c = d) || match up.getD c none with
    | some u => subC up n u d
    | none => false

mutual
def D.same : D → D → Bool
  | .non, .non => true
  | .bl a, .bl b => a == b
  | .int i, .int j => decide (i = j)
  | .str x, .str y => decide (x = y)
  | .lst xs, .lst ys => sames xs ys
  | .tup xs, .tup ys => sames xs ys
  | .scr xs, .scr ys => sames xs ys
  | .dct k xs, .dct l ys => decide (k = l) && sames xs ys
  | .cell i, .cell j => decide (i = j)
  | .ins a b xs, .ins c d ys => decide (a = c) && decide (b = d) && sames xs ys
  | .exc, .exc => true
  | .fn f, .fn g => decide (f = g)
  | .dlk k xs, .dlk l ys => decide (k = l) && sames xs ys
  | _, _ => false
def sames : List D → List D → Bool
  | [], [] => true
  | x :: xs, y :: ys => x.same y && sames xs ys
  | _, _ => false
end
/-- the handled exception's class -/
abbrev Hot := Option Nat
/-- the built-in type of a value, by its name's place -/
inductive Tn where
  | none | bool | int | str | list | tuple | dict
  deriving DecidableEq
def tnOf : D → Option Tn
  | .non => some .none
  | .bl _ => some .bool
  | .int _ => some .int
  | .str _ => some .str
  | .lst _ => some .list
  | .scr _ => some .list
  | .tup _ => some .tuple
  | .dct _ _ => some .dict
  | _ => none
def isTn (t : Tn) (u : Ty) : Bool :=
  match u with
  | .int => t == .int || t == .bool
  | .bool => t == .bool
  | .str => t == .str
  | .list => t == .list
  | .tuple => t == .tuple
  | .dict => t == .dict
  | .cls _ => false
  | .valueError => false
  | .kls _ => false
def isInst (T : Tab) (hot : Hot) (M : Mem) (d : D) (t : Ty) : Option Bool :=
  match tnOf (deref M d) with
  | some n => some (isTn n t)
  | none => (match d, t with
    | .exc, .cls C' => hot.map fun c => subC T.up 9 c C'
    | .exc, .valueError => hot.map fun _ => true
    | _, _ => (match deref M d, t with
      | .ins C _ _, .kls C' => some (subC T.kup 9 C C')
      | .ins _ _ _, .cls _ => none
      | .ins _ _ _, .valueError => none
      | .ins _ _ _, _ => some false
      | _, _ => none))
/-- one of two built-in types -/
def isI2 (M : Mem) (d : D) (t u : Ty) : Option Bool := (tnOf (deref M d)).map fun n => isTn n t || isTn n u
/-- the items of a value that is walked -/
def items (d : D) (M : Mem) : Option (List D) :=
  match deref M d with
  | .lst xs => some xs
  | .tup xs => some xs
  | .scr xs => some xs
  | _ => none
/-- what is walked is as it was: a shared object may have changed -/
def still (d : D) (xs : List D) (M : Mem) : Bool :=
  match d with
  | .cell _ => (match items d M with
    | some ys => sames xs ys
    | none => false)
  | _ => true
mutual
def Tg.bind : Tg → D → List SV → Option (List SV)
  | .n i, d, σ => some (σ.set i (.v d))
  | .t l, d, σ => (match d with
    | .tup ds => l.binds ds σ
    | _ => none)
  | _, _, _ => none
def Tg.binds : Tg → List D → List SV → Option (List SV)
  | .nil, ds, σ => (match ds with
    | [] => some σ
    | _ => none)
  | .cons a l, ds, σ => (match ds with
    | d :: ds => (match a.bind d σ with
      | some σ => l.binds ds σ
      | none => none)
    | _ => none)
  | _, _, _ => none
end
def Tg.is : Tg → List Nat
  | .n i => [i]
  | .t l => l.is
  | .nil => []
  | .cons a l => a.is ++ l.is
def isO : Option SV → Bool
  | some (.o _) => true
  | _ => false
def noO (is : List Nat) (σ : List SV) : Bool := is.all fun i => !isO σ[i]?
def wipe : List Nat → List SV → List SV
  | [], σ => σ
  | i :: is, σ => (wipe is σ).set i .u
/-- a comprehension's turns -/
def lcL (c : Mem → Bool) (f : D → Mem → Rs (Option D)) : List D → Mem → Rs (List D)
  | [], M => if c M then .ok [] M else .stk
  | x :: xs, M => if c M then (f x M).bind fun y M => (lcL c f xs M).bind fun ys M => .ok (match y with
    | some d => d :: ys
    | none => ys) M else .stk
def lcF (own : List Nat) (t : Tg) (σ : List SV) (el : List SV → Mem → Rs (Option D)) (x : D) (M : Mem) : Rs (Option D) :=
  match t.bind x (wipe own σ) with
  | some τ => el τ M
  | none => .stk
def bl? : D → Option Bool
  | .bl b => some b
  | _ => none
def Rs.bl : Rs KD → Rs Bool
  | .ok ⟨_, .bl b⟩ M => .ok b M
  | .ok _ _ => .stk
  | .ex C M => .ex C M
  | .stk => .stk

def upTo (f : Nat → Int) (n : Nat) : List D := (List.range n).map fun k => D.int (f k)
def rng1 (d : D) : Option (List D) :=
  match d with
  | .int n => if n.natAbs < 2 ^ 60 then some (upTo (fun k => 0 + (k : Int)) n.toNat) else none
  | _ => none
def rng2 (d e : D) : Option (List D) :=
  match d, e with
  | .int a, .int b => if a.natAbs < 2 ^ 60 ∧ b.natAbs < 2 ^ 60 then some (upTo (fun k => a + (k : Int)) (b - a).toNat) else none
  | _, _ => none
def okL (r : Option (List D)) (d : D) (M : Mem) : Rs (List D × D) :=
  match r with
  | some xs => .ok (xs, d) M
  | none => .stk
def rngL (ds : List D) : Option (List D) :=
  match (match ds with
    | [a] => rng1 a
    | [a, b] => rng2 a b
    | _ => none) with
  | some xs => if xs.length < line then some xs else none
  | none => none
/-- something new is shared from now on -/
def Rs.cel : Rs KD → Rs KD
  | .ok ⟨.n, d⟩ M => .ok ⟨.f, .cell M.length⟩ (M ++ [d])
  | .ok ⟨.b, _⟩ _ => .stk
  | r => r
/-! what is made, what is left of it -/
mutual
/-- no shared object from k on in it -/
def D.low (k : Nat) : D → Bool
  | .cell i => decide (i < k)
  | .tup ds => lows k ds
  | .lst ds => lows k ds
  | .scr ds => lows k ds
  | .dct _ ds => lows k ds
  | .ins _ _ ds => lows k ds
  | .dlk _ ds => lows k ds
  | _ => true
def lows (k : Nat) : List D → Bool
  | [] => true
  | d :: ds => d.low k && lows k ds
end
/-- what was shared since is thrown away -/
def gcR (M : Mem) : Rs KD → Rs KD
  | .ok r M' => if sames (M'.take M.length) M && r.d.low M.length then .ok r M else .stk
  | .ex C M' => if sames (M'.take M.length) M then .ex C M else .stk
  | .stk => .stk
/-- an instance is made: v: for good, else a shared one -/
def mkR (v : Bool) (M : Mem) : Rs KD → Rs KD
  | .ok ⟨.f, .non⟩ M' => if v then (if sames (M'.take M.length) M && decide (M'.length = M.length + 1) && (M'.getD M.length .non).low M.length && !(M'.getD M.length .non).isDlk then .ok ⟨.n, M'.getD M.length .non⟩ M else .stk)
      else ok1 (.cell M.length) M'
  | .ok _ _ => .stk
  | .ex C M' => if v then gcR M (.ex C M') else .ex C M'
  | .stk => .stk
def zipD : List D → List D → List D
  | x :: xs, y :: ys => .tup [x, y] :: zipD xs ys
  | _, _ => []
def enuD : Nat → List D → List D
  | _, [] => []
  | n, x :: xs => .tup [.int n, x] :: enuD (n + 1) xs
/-- what zip, enumerate, reversed, a text's walk go over -/
def itemsK (k : Ik) (ds : List D) (M : Mem) : Option (List D) :=
  match k, ds with
  | .zip, [.tup xs, .tup ys] => some (zipD xs ys)
  | .zip, [a, b] => (match lstOf a M, lstOf b M with
    | some xs, some ys => some (zipD xs ys)
    | _, _ => none)
  | .enu, [a] => (lstOf a M).map (enuD 0)
  | .rev, [.tup xs] => some xs.reverse
  | .rev, [a] => (lstOf a M).map List.reverse
  | .sgn, [.str s] => some (s.map fun c => .str [c])
  | _, _ => none
/-- what is walked is as it was -/
def stills (k : Ik) (ds : List D) (xs : List D) (M : Mem) : Bool :=
  ds.all (fun d => match d with
    | .cell _ => false
    | _ => true) || (match itemsK k ds M with
    | some ys => sames xs ys
    | none => false)
/-- a shared dict that is walked: which -/
def lockM (r : Rs KD) (M : Mem) : Option (Nat × List Key × List D) :=
  match r with
  | .ok ⟨_, .cell j⟩ _ => (match M.getD j .non with
    | .dct ks vs => some (j, ks, vs)
    | _ => none)
  | _ => none
/-- it stands there, locked -/
def lockd (j : Nat) (ks : List Key) (vs : List D) (d : D) (M : Mem) : Bool :=
  match d with
  | .cell i => decide (i = j) && decide (ks.length < line) && (match M.getD j .non with
    | .dlk ks' vs' => decide (ks' = ks) && sames vs' vs
    | _ => false)
  | _ => false
def unlockM (j : Nat) (ks : List Key) (vs ys : List D) (M : Mem) : Rs KD :=
  match M.getD j .non with
  | .dlk ks' vs' => if decide (ks' = ks) && sames vs' vs then okn (.lst ys) (M.set j (.dct ks vs)) else .stk
  | _ => .stk
def Rs.unl (j : Nat) (ks : List Key) (vs : List D) : Rs (List D) → Rs KD
  | .ok ys M => unlockM j ks vs ys M
  | _ => .stk
section
variable (T : Tab) (Φ : Nat → List D → Mem → Rs KD) (hot : Hot)
mutual
def ev : E → List SV → Mem → Rs KD
  | .v i, σ, M => (match σ[i]? with
    | some (.v d) => .ok ⟨.f, d⟩ M
    | some (.o d) => .ok ⟨.b, d⟩ M
    | _ => .stk)
  | .c d, _, M => ok1 d M
  | .g x, _, M => ok1 (T.glob.getD x .non) M
  | .bin o a b, σ, M => (ev a σ M).bw.bind fun x M => (ev b σ M).bw.bind fun y M => binop o x y M
  | .neg a, σ, M => (ev a σ M).bw.bind fun x M => (match x with
    | .int i => ok1 (.int (-i)) M
    | _ => .stk)
  | .not a, σ, M => (ev a σ M).bl.bind fun b M => ok1 (.bl (!b)) M
  | .and a b, σ, M => (ev a σ M).bl.bind fun x M => if x then (ev b σ M).bl.bind fun y M => ok1 (.bl y) M else ok1 (.bl false) M
  | .or a b, σ, M => (ev a σ M).bl.bind fun x M => if x then ok1 (.bl true) M else (ev b σ M).bl.bind fun y M => ok1 (.bl y) M
  | .cmp o a b, σ, M => (ev a σ M).bw.bind fun x M => (ev b σ M).bw.bind fun y M => okB (cmpop o x y M) M
  | .chn o o' a b c, σ, M => (ev a σ M).bw.bind fun x M => (ev b σ M).bw.bind fun y M => (okB (cmpop o x y M) M).bl.bind fun k M =>
      if k then (ev c σ M).bw.bind fun z M => okB (cmpop o' y z M) M else ok1 (.bl false) M
  | .ife t a b, σ, M => (ev t σ M).bl.bind fun k M => if k then ev a σ M else ev b σ M
  | .call f as, σ, M => if hot.isSome && as.isNil then .stk else (evs as σ M).bind fun ds M => Φ f ds M
  | .bf p as, σ, M => if hot.isSome && !pfHot p then .stk else (evb as σ M).bind fun ds M => pf p ds M
  | .isi a t, σ, M => (ev a σ M).bw.bind fun x M => okB (isInst T hot M x t) M
  | .ix a i, σ, M => (ev a σ M).bw.bind fun x M => (ev i σ M).bw.bind fun y M => index x y M
  | .tup as, σ, M => (evs as σ M).bind fun ds M => if ds.length < line then ok1 (.tup ds) M else .stk
  | .lst as, σ, M => (evs as σ M).bind fun ds M => if ds.length < line then okn (.lst ds) M else .stk
  | .dct0, _, M => okn (.dct [] []) M
  | .lc own t it c e, σ, M => if !noO own σ then .stk else (ev it σ M).bw.bind fun d M => (match items d M with
    | some xs => (lcL (still d xs) (lcF own t σ (fun τ M => if c.isNil then (ev e τ M).fz.bind fun y M => .ok (some y) M
        else (ev c τ M).bl.bind fun k M => if k then (ev e τ M).fz.bind fun y M => .ok (some y) M else .ok none M)) xs M).bind fun ys M => okn (.lst ys) M
    | none => .stk)
  | .lcr own t as c e, σ, M => if !noO own σ then .stk else (evb as σ M).bind fun ds M => (match rngL ds with
    | some xs => (lcL (still .non xs) (lcF own t σ (fun τ M => if c.isNil then (ev e τ M).fz.bind fun y M => .ok (some y) M
        else (ev c τ M).bl.bind fun k M => if k then (ev e τ M).fz.bind fun y M => .ok (some y) M else .ok none M)) xs M).bind fun ys M => okn (.lst ys) M
    | none => .stk)
  | .cel a, σ, M => (ev a σ M).cel
  | .rgl a b, σ, M => if hot.isSome then .stk else (ev a σ M).bw.bind fun x M => (ev b σ M).bw.bind fun y M => okLs (rngL [x, y]) M
  | .pr p as, σ, M => if hot.isSome then .stk else (evb as σ M).bind fun ds M => prim p ds M
  | .dsp ks as, σ, M => if hot.isSome then .stk else (evs as σ M).bind fun ds M => if ks.length = ds.length then okn (.dct (mergeD [] [] ks ds).1 (mergeD [] [] ks ds).2) M else .stk
  | .sl3 a l h, σ, M => if hot.isSome then .stk else (ev a σ M).bw.bind fun x M => (ev l σ M).bw.bind fun y M => (match y with
    | .int i => (ev h σ M).bw.bind fun z M => (match z with
      | .int j => slD x (some i) (some j) M
      | _ => .stk)
    | _ => .stk)
  | .pm p o as, σ, M => (ev o σ M).bw.bind fun x M => if pmOk p (deref M x) then (evb as σ M).bind fun ds M => pm p x ds M else .stk
  | .att a f, σ, M => (ev a σ M).bw.bind fun x M => attr x f M
  | .meth o m as, σ, M => if hot.isSome then .stk else (ev o σ M).fz.bind fun x M => (match (clsOf M x).bind fun C => T.meth C m with
    | some g => (evs as σ M).bind fun ds M => Φ g (x :: ds) M
    | none => .stk)
  | .mk v C as, σ, M => if hot.isSome then .stk else (evs as σ M).bind fun ds M => mkR v M (Φ (T.ini.getD C 0) (.cell M.length :: ds) (M ++ [.ins C [] []]))
  | .sup C as, σ, M => if hot.isSome then .stk else (evs as σ M).bind fun ds M => Φ (T.ini.getD C 0) ds M
  | .gf f, _, M => ok1 (.fn f) M
  | .cv fs e as, σ, M => if hot.isSome then .stk else (ev e σ M).fz.bind fun x M => (match x with
    | .fn f => if f ∈ fs then (evs as σ M).bind fun ds M => Φ f ds M else .stk
    | _ => .stk)
  | .lci k own t as c e, σ, M => if !noO own σ || hot.isSome then .stk else (evb as σ M).bind fun ds M => (match itemsK k ds M with
    | some xs => if xs.length < line then (lcL (stills k ds xs) (lcF own t σ (fun τ M => if c.isNil then (ev e τ M).fz.bind fun y M => .ok (some y) M
        else (ev c τ M).bl.bind fun k M => if k then (ev e τ M).fz.bind fun y M => .ok (some y) M else .ok none M)) xs M).bind fun ys M => okn (.lst ys) M else .stk
    | none => .stk)
  | .lcd own t a c e, σ, M => if !noO own σ || hot.isSome then .stk else (match lockM (ev a σ M) M with
    | some (j, ks, vs) => ((ev a σ (M.set j (.dlk ks vs))).bw.bind fun d M => if lockd j ks vs d M then (lcL (fun _ => true) (lcF own t σ (fun τ M => if c.isNil then (ev e τ M).fz.bind fun y M => .ok (some y) M
        else (ev c τ M).bl.bind fun k M => if k then (ev e τ M).fz.bind fun y M => .ok (some y) M else .ok none M)) (ks.map kD) M) else .stk).unl j ks vs
    | none => .stk)
  | .fs as, σ, M => (evf as [] σ M).bind fun s M => ok1 (.str s) M
  | .isi2 a t u, σ, M => (ev a σ M).bw.bind fun x M => okB (isI2 M x t u) M
  | .nil, _, _ => .stk
  | .cons _ _, _, _ => .stk
def evs : E → List SV → Mem → Rs (List D)
  | .cons a as, σ, M => (ev a σ M).fz.bind fun d M => (evs as σ M).bind fun ds M => .ok (d :: ds) M
  | .nil, _, M => .ok [] M
  | _, _, _ => .stk
def evb : E → List SV → Mem → Rs (List D)
  | .cons a as, σ, M => (ev a σ M).bw.bind fun d M => (evb as σ M).bind fun ds M => .ok (d :: ds) M
  | .nil, _, M => .ok [] M
  | _, _, _ => .stk
/-- an f-string's parts, one behind the other -/
def evf : E → List Nat → List SV → Mem → Rs (List Nat)
  | .cons a as, acc, σ, M => (ev a σ M).bw.bind fun d M => (match txtOf d with
    | some s => if acc.length + s.length < line then evf as (acc ++ s) σ M else .stk
    | none => .stk)
  | .nil, acc, _, M => .ok acc M
  | _, _, _, _ => .stk
end

inductive Sx where
  | nx (σ : List SV) (M : Mem) | rt (r : KD) (M : Mem) | ex (C : Nat) (σ : List SV) (M : Mem) | stk
/-- an expression's answer, in a statement -/
def Rs.on {α : Type} (r : Rs α) (σ : List SV) (f : α → Mem → Sx) : Sx :=
  match r with
  | .ok a M => f a M
  | .ex C M => .ex C σ M
  | .stk => .stk
def Sx.next (r : Sx) (f : List SV → Mem → Sx) : Sx :=
  match r with
  | .nx σ M => f σ M
  | r => r
/-- what a for walks: the items, and what tells whether they are as they were -/
def evIt : It → List SV → Mem → Rs (List D × D)
  | .e a, σ, M => (ev T Φ hot a σ M).fz.bind fun d M => okL (items d M) d M
  | .r1 a, σ, M => (ev T Φ hot a σ M).bw.bind fun x M => okL (rng1 x) .non M
  | .r2 a b, σ, M => (ev T Φ hot a σ M).bw.bind fun x M => (ev T Φ hot b σ M).bw.bind fun y M => okL (rng2 x y) .non M
def forL (c : Mem → Bool) (f : D → List SV → Mem → Sx) : List D → List SV → Mem → Sx
  | [], σ, M => if c M then .nx σ M else .stk
  | x :: xs, σ, M => if c M then (f x σ M).next fun σ M => forL c f xs σ M else .stk
def store (m : Md) (i : Nat) (r : KD) (σ : List SV) (M : Mem) : Sx :=
  match m, r with
  | _, ⟨.b, _⟩ => .stk
  | .o, ⟨.n, d⟩ => .nx (σ.set i (.o d)) M
  | .c, ⟨.n, d⟩ => .nx (σ.set i (.v (.cell M.length))) (M ++ [d])
  | _, ⟨_, d⟩ => .nx (σ.set i (.v d)) M
def forF (t : Tg) (body : List SV → Mem → Sx) (x : D) (σ : List SV) (M : Mem) : Sx :=
  match t.bind x σ with
  | some σ => body σ M
  | none => .stk
def setE : Option Nat → SV → List SV → List SV
  | none, _, σ => σ
  | some i, x, σ => σ.set i x
def out (r : KD) : KD :=
  match r with
  | ⟨.b, d⟩ => ⟨.n, d⟩
  | r => r
end
section
variable (T : Tab) (Φ : Hot → Nat → List D → Mem → Rs KD)
mutual
/-- nothing of the handled exception in it -/
def D.nox : D → Bool
  | .exc => false
  | .tup ds => noxs ds
  | .lst ds => noxs ds
  | .scr ds => noxs ds
  | .dct _ ds => noxs ds
  | .ins _ _ ds => noxs ds
  | .dlk _ ds => noxs ds
  | _ => true
def noxs : List D → Bool
  | [] => true
  | d :: ds => d.nox && noxs ds
end
/-- what a field is set to: new things for good or as shared ones -/
def fld (m : Md) (r : KD) (M : Mem) : Option (D × Mem) :=
  match m, r with
  | _, ⟨.b, _⟩ => none
  | .c, ⟨.n, d⟩ => some (.cell M.length, M ++ [d])
  | _, ⟨_, d⟩ => some (d, M)
/-- at most n turns -/
def whL (t : List SV → Mem → Rs Bool) (b : List SV → Mem → Sx) : Nat → List SV → Mem → Sx
  | 0, _, _ => .stk
  | n + 1, σ, M => (t σ M).on σ fun k M => if k then (b σ M).next fun σ M => whL t b n σ M else .nx σ M
def intAt (o i : D) : Option Int :=
  match o, i with
  | .lst xs, .int i => (match at? xs i with
    | some (.int n) => some n
    | _ => none)
  | _, _ => none
mutual
def ex : Hot → C → List SV → Mem → Sx
  | hot, .aug i e, σ, M => (match σ[i]? with
    | some (.v (.int a)) => (ev T (Φ hot) hot e σ M).bw.on σ fun y M => (match y with
      | .int b => .nx (σ.set i (.v (.int (a + b)))) M
      | _ => .stk)
    | _ => .stk)
  | hot, .setO i ix e, σ, M => (ev T (Φ hot) hot e σ M).fz.on σ fun y M => (match σ[i]? with
    | some (.o o) => (ev T (Φ hot) hot ix σ M).fz.on σ fun k M => (match setAt o k y with
      | some o' => .nx (σ.set i (.o o')) M
      | none => .stk)
    | _ => .stk)
  | hot, .augO i ix e, σ, M => (match σ[i]? with
    | some (.o o) => (ev T (Φ hot) hot ix σ M).fz.on σ fun k M => (match intAt o k with
      | some a => (ev T (Φ hot) hot e σ M).fz.on σ fun y M => (match y with
        | .int b => (match setAt o k (.int (a + b)) with
          | some o' => .nx (σ.set i (.o o')) M
          | none => .stk)
        | _ => .stk)
      | none => .stk)
    | _ => .stk)
  | hot, .setC a ix e, σ, M => (ev T (Φ hot) hot e σ M).fz.on σ fun y M => (ev T (Φ hot) hot a σ M).fz.on σ fun o M => (match o with
    | .cell j => (ev T (Φ hot) hot ix σ M).fz.on σ fun k M => (match setAt (M.getD j .non) k y with
      | some o' => .nx σ (M.set j o')
      | none => .stk)
    | _ => .stk)
  | hot, .setA m a f e, σ, M => (ev T (Φ hot) hot e σ M).on σ fun r M => (match fld m r M with
    | some (y, M) => (ev T (Φ hot) hot a σ M).fz.on σ fun o M => (match o with
      | .cell j => (match M.getD j .non with
        | .ins C fs vs => if fs.length < 900 then .nx σ (M.set j (.ins C (putF' f y fs vs).1 (putF' f y fs vs).2)) else .stk
        | _ => .stk)
      | _ => .stk)
    | none => .stk)
  | none, .fori k t as b, σ, M => (evs T (Φ none) none as σ M).on σ fun ds M => (match itemsK k ds M with
    | some xs => forL (stills k ds xs) (forF t (ex none b)) xs σ M
    | none => .stk)
  | some _, .fori _ _ _ _, _, _ => .stk
  | hot, .whl n t b, σ, M => whL (fun σ M => (ev T (Φ hot) hot t σ M).bl) (ex hot b) n σ M
  | _, .frz i, σ, M => (match σ[i]? with
    | some (.o d) => .nx (σ.set i (.v d)) M
    | some (.v d) => .nx (σ.set i (.v d)) M
    | _ => .stk)
  | some _, .par _ _ _, _, _ => .stk
  | none, .par i j as, σ, M => (evs T (Φ none) none as σ M).on σ fun ds M => (match ds with
    | [x, y] => .nx ((σ.set i (.v x)).set j (.v y)) M
    | _ => .stk)
  | _, .nop, σ, M => .nx σ M
  | hot, .seq a b, σ, M => (ex hot a σ M).next fun σ M => ex hot b σ M
  | hot, .set m i e, σ, M => (ev T (Φ hot) hot e σ M).on σ fun r M => store m i r σ M
  | hot, .setT t e, σ, M => (ev T (Φ hot) hot e σ M).fz.on σ fun d M => (match t.bind d σ with
      | some σ => .nx σ M
      | none => .stk)
  | hot, .mutO k i as, σ, M => (match σ[i]? with
    | some (.o (.lst xs)) => (evs T (Φ hot) hot as σ M).on σ fun ds M => (match muL k xs ds with
      | some ys => .nx (σ.set i (.o (.lst ys))) M
      | none => .stk)
    | _ => .stk)
  | hot, .mutC k a as, σ, M => (ev T (Φ hot) hot a σ M).on σ fun r M => (match r with
    | ⟨.f, .cell j⟩ => (match M.getD j .non with
      | .lst _ => (evs T (Φ hot) hot as σ M).on σ fun ds M => (match M.getD j .non with
        | .lst xs => (match muL k xs ds with
          | some ys => .nx σ (M.set j (.lst ys))
          | none => .stk)
        | _ => .stk)
      | _ => .stk)
    | _ => .stk)
  | hot, .ext a e, σ, M => (ev T (Φ hot) hot a σ M).on σ fun r M => (match r with
    | ⟨.f, .cell j⟩ => (match M.getD j .non with
      | .lst _ => (ev T (Φ hot) hot e σ M).bw.on σ fun d M => (match M.getD j .non, deref M d with
        | .lst xs, .lst ys => if xs.length + ys.length < line then .nx σ (M.set j (.lst (xs ++ ys))) else .stk
        | _, _ => .stk)
      | _ => .stk)
    | _ => .stk)
  | hot, .exp e, σ, M => (ev T (Φ hot) hot e σ M).on σ fun _ M => .nx σ M
  | hot, .ite t a b, σ, M => (ev T (Φ hot) hot t σ M).bl.on σ fun k M => if k then ex hot a σ M else ex hot b σ M
  | hot, .for t it b, σ, M => (evIt T (Φ hot) hot it σ M).on σ fun xd M => forL (still xd.2 xd.1) (forF t (ex hot b)) xd.1 σ M
  | hot, .ret e, σ, M => (ev T (Φ hot) hot e σ M).on σ fun r M => .rt (out r) M
  | none, .rai C, σ, M => .ex C σ M
  | some _, .rai _, _, _ => .stk
  | some _, .try _ _, _, _ => .stk
  | none, .try b h, σ, M => (match ex none b σ M with
    | .ex C σ M => if T.rl.getD C false then hx h C σ M else .stk
    | r => r)
  | _, .hnd _ _ _ _, _, _ => .stk
def hx : C → Nat → List SV → Mem → Sx
  | .hnd X i s r, c, σ, M => if subC T.up 9 c X then (match i with
    | none => (match ex (some c) s σ M with
      | .ex _ _ _ => .stk
      | r => r)
    | some i => (match ex (some c) s (σ.set i (.v .exc)) M with
      | .rt r M' => if r.d.nox && sames M' M then .rt r M else .stk
      | _ => .stk)) else hx r c σ M
  | .nop, c, σ, M => .ex c σ M
  | _, _, _, _ => .stk
end
end

/-- a def: how many slots, how many parameters, its body -/
structure Fd where
  ns : Nat
  ps : Nat
  body : C
  gc : Bool := false
structure Pr where
  T : Tab
  fs : List Fd
def start (n : Nat) (ds : List D) : List SV := ds.map .v ++ List.replicate (n - ds.length) .u
def Sx.res : Sx → Rs KD
  | .nx _ M => .ok ⟨.f, .non⟩ M
  | .rt r M => .ok r M
  | .ex C _ M => .ex C M
  | .stk => .stk
def Pr.fd (P : Pr) (f : Nat) : Fd := P.fs.getD f ⟨0, 0, .nop, false⟩
/-- a call, at most n deep -/
def call (P : Pr) : Nat → Hot → Nat → List D → Mem → Rs KD
  | 0, _, _, _, _ => .stk
  | n + 1, hot, f, ds, M => if ds.length = (P.fd f).ps then (if (P.fd f).gc then gcR M (ex P.T (call P n) hot (P.fd f).body (start (P.fd f).ns ds) M).res else (ex P.T (call P n) hot (P.fd f).body (start (P.fd f).ns ds) M).res) else .stk
end VM
/-! VM1: how the machine's values stand in the heap. -/
namespace VM
open PySem L2 PySem.Spec PyProof.Rows

def tx (s : List Nat) : Str := ⟨s.toArray⟩
abbrev OkS (s : List Nat) : Prop := s.length < line ∧ ∀ c ∈ s, c < 1114112
def kx : Key → L2.Key
  | .i n => .inl n
  | .s t => .inr (tx t)
def OkK : Key → Prop
  | .i _ => True
  | .s t => OkS t
def KsOk (ks : List Key) (vs : List V) : Prop := ks.length = vs.length ∧ ∀ k ∈ ks, OkK k
/-- where the classes (of exceptions, of others) and defs stand; the fields' names -/
structure Nm where
  ca : Nat → Addr
  ka : Nat → Addr
  fn : Nat → Str
  fa : Nat → Addr
  kr : Nat → Bool
  inj : ∀ i j, fn i = fn j → i = j
structure Wd where
  K : PySem.W.Frag
  nm : Nm
  xa : Option Addr
abbrev Wd.ca (W : Wd) (c : Nat) : Addr := W.nm.ca c
abbrev Wd.ka (W : Wd) (c : Nat) : Addr := W.nm.ka c
abbrev Wd.fn (W : Wd) (c : Nat) : Str := W.nm.fn c
abbrev Wd.fa (W : Wd) (c : Nat) : Addr := W.nm.fa c

def FsOk (W : Wd) (C : Nat) (fs : List Nat) (vs : List V) : Prop := fs.length = vs.length ∧ W.nm.kr C = true
/-! ### values -/
mutual
def Fz (W : Wd) (ρ : List Addr) (G : Hp) : D → V → Prop
  | .non, v => v = .non
  | .bl b, v => v = .bl b
  | .int i, v => v = .int i
  | .str s, v => v = .str (tx s) ∧ OkS s
  | .tup ds, v => ∃ a vs, v = .ref a ∧ SqT W.K G a vs ∧ ds.length < line ∧ Fzs W ρ G ds vs
  | .lst ds, v => ∃ a vs, v = .ref a ∧ G a = some (.lst vs) ∧ ds.length < line ∧ Fzs W ρ G ds vs
  | .scr ds, v => ∃ a vs, v = .ref a ∧ SqL W.K G a vs ∧ ds.length < line ∧ Fzs W ρ G ds vs
  | .dct ks ds, v => ∃ a vs, v = .ref a ∧ G a = some (.dK ((ks.map kx).zip vs)) ∧ KsOk ks vs ∧ Fzs W ρ G ds vs
  | .cell i, v => ∃ a, v = .ref a ∧ ρ[i]? = some a
  | .ins C fs ds, v => ∃ a dx vs, v = .ref a ∧ G a = some (.ins (W.ka C) dx ((fs.map W.fn).zip vs)) ∧ FsOk W C fs vs ∧ Fzs W ρ G ds vs
  | .exc, v => ∃ a, W.xa = some a ∧ v = .ref a
  | .fn f, v => v = .ref (W.fa f)
  | .dlk ks ds, v => ∃ a o vs, v = .ref a ∧ G a = some (.frz o (.dK ((ks.map kx).zip vs))) ∧ KsOk ks vs ∧ Fzs W ρ G ds vs
def Fzs (W : Wd) (ρ : List Addr) (G : Hp) : List D → List V → Prop
  | [], vs => vs = []
  | d :: ds, vs => ∃ v r, vs = v :: r ∧ Fz W ρ G d v ∧ Fzs W ρ G ds r
end
abbrev Hle (G H : Hp) : Prop := ∀ a o, G a = some o → H a = some o
theorem Hle.refl (G : Hp) : Hle G G := fun _ _ h => h
theorem Hle.trans {G H I : Hp} (a : Hle G H) (b : Hle H I) : Hle G I := fun c o h => b c o (a c o h)
theorem Hle.rd {G H : Hp} (e : Hle G H) {a : Addr} {u : HO} (h : Rd G a u) : Rd H a u := h.elim (fun q => .inl (e _ _ q)) fun ⟨o, q⟩ => .inr ⟨o, e _ _ q⟩
theorem Hle.sql {K : PySem.W.Frag} {G H : Hp} (e : Hle G H) {a : Addr} {xs : List V} (h : SqL K G a xs) : SqL K H a xs := Same.seq e h
theorem Hle.sqt {K : PySem.W.Frag} {G H : Hp} (e : Hle G H) {a : Addr} {xs : List V} (h : SqT K G a xs) : SqT K H a xs := by
  rcases h with (h | ⟨o, h⟩) | h
  · exact .inl (.inl (e _ _ h))
  · exact .inl (.inr ⟨o, e _ _ h⟩)
  · exact .inr h
abbrev Rle (ρ ρ' : List Addr) : Prop := ∀ (i : Nat) (a : Addr), ρ[i]? = some a → ρ'[i]? = some a
theorem Rle.refl (ρ : List Addr) : Rle ρ ρ := fun _ _ h => h
theorem Rle.trans {a b c : List Addr} (h : Rle a b) (k : Rle b c) : Rle a c := fun i x e => k i x (h i x e)
section
variable {W : Wd} {ρ ρ' : List Addr} {G G' : Hp}
mutual
theorem Fz.mono (hr : Rle ρ ρ') (hg : Hle G G') : ∀ (d : D) (v : V), Fz W ρ G d v → Fz W ρ' G' d v
  | .non, _, h => h
  | .bl _, _, h => h
  | .int _, _, h => h
  | .str _, _, h => h
  | .tup ds, v, h => by
    unfold Fz at h ⊢
    obtain ⟨a, vs, e, q, l, r⟩ := h
    exact ⟨a, vs, e, hg.sqt q, l, Fzs.mono hr hg ds vs r⟩
  | .lst ds, v, h => by
    unfold Fz at h ⊢
    obtain ⟨a, vs, e, q, l, r⟩ := h
    exact ⟨a, vs, e, hg _ _ q, l, Fzs.mono hr hg ds vs r⟩
  | .scr ds, v, h => by
    unfold Fz at h ⊢
    obtain ⟨a, vs, e, q, l, r⟩ := h
    exact ⟨a, vs, e, hg.sql q, l, Fzs.mono hr hg ds vs r⟩
  | .dct ks ds, v, h => by
    unfold Fz at h ⊢
    obtain ⟨a, vs, e, q, l, r⟩ := h
    exact ⟨a, vs, e, hg _ _ q, l, Fzs.mono hr hg ds vs r⟩
  | .cell i, v, h => by
    unfold Fz at h ⊢
    obtain ⟨a, e, q⟩ := h
    exact ⟨a, e, hr _ _ q⟩
  | .ins C fs ds, v, h => by
    unfold Fz at h ⊢
    obtain ⟨a, dx, vs, e, q, l, r⟩ := h
    exact ⟨a, dx, vs, e, hg _ _ q, l, Fzs.mono hr hg ds vs r⟩
  | .exc, v, h => h
  | .fn _, v, h => h
  | .dlk ks ds, v, h => by
    unfold Fz at h ⊢
    obtain ⟨a, o, vs, e, q, l, r⟩ := h
    exact ⟨a, o, vs, e, hg _ _ q, l, Fzs.mono hr hg ds vs r⟩
theorem Fzs.mono (hr : Rle ρ ρ') (hg : Hle G G') : ∀ (ds : List D) (vs : List V), Fzs W ρ G ds vs → Fzs W ρ' G' ds vs
  | [], _, h => h
  | d :: ds, vs, h => by
    unfold Fzs at h ⊢
    obtain ⟨v, r, e, q, k⟩ := h
    exact ⟨v, r, e, Fz.mono hr hg d v q, Fzs.mono hr hg ds r k⟩
end
theorem Fzs.length : ∀ {ds : List D} {vs : List V}, Fzs W ρ G ds vs → ds.length = vs.length
  | [], _, h => by unfold Fzs at h; subst h; rfl
  | d :: ds, vs, h => by
    unfold Fzs at h
    obtain ⟨v, r, e, q, k⟩ := h
    subst e
    simp [Fzs.length k]
theorem Fzs.get : ∀ {ds : List D} {vs : List V} {i : Nat} {d : D}, Fzs W ρ G ds vs → ds[i]? = some d → ∃ v, vs[i]? = some v ∧ Fz W ρ G d v
  | [], _, _, _, _, e => by simp at e
  | x :: ds, vs, i, d, h, e => by
    unfold Fzs at h
    obtain ⟨v, r, ev, q, k⟩ := h
    subst ev
    cases i with
    | zero =>
      simp at e; subst e
      exact ⟨v, rfl, q⟩
    | succ i =>
      obtain ⟨u, h1, h2⟩ := Fzs.get (i := i) k (by simpa using e)
      exact ⟨u, by simpa using h1, h2⟩
theorem Fzs.append : ∀ {ds es : List D} {vs ws : List V}, Fzs W ρ G ds vs → Fzs W ρ G es ws → Fzs W ρ G (ds ++ es) (vs ++ ws)
  | [], _, _, _, h, k => by unfold Fzs at h; subst h; exact k
  | x :: ds, es, vs, ws, h, k => by
    unfold Fzs at h
    obtain ⟨v, r, ev, q, t⟩ := h
    subst ev
    show Fzs W ρ G (x :: (ds ++ es)) (v :: (r ++ ws))
    unfold Fzs
    exact ⟨v, _, rfl, q, Fzs.append t k⟩
theorem Fzs.one {d : D} {v : V} (h : Fz W ρ G d v) : Fzs W ρ G [d] [v] := by
  unfold Fzs
  exact ⟨v, [], rfl, h, by unfold Fzs; rfl⟩
theorem Fzs.cons {d : D} {v : V} {ds : List D} {vs : List V} (h : Fz W ρ G d v) (k : Fzs W ρ G ds vs) : Fzs W ρ G (d :: ds) (v :: vs) := by
  unfold Fzs
  exact ⟨v, vs, rfl, h, k⟩
theorem Fzs.nil : Fzs W ρ G [] [] := by unfold Fzs; rfl
theorem Fzs.rep {ds : List D} {vs : List V} (h : Fzs W ρ G ds vs) : ∀ n, Fzs W ρ G (rep ds n) (rep vs n)
  | 0 => .nil
  | n + 1 => h.append (h.rep n)
theorem Fzs.take : ∀ {ds : List D} {vs : List V} (n : Nat), Fzs W ρ G ds vs → Fzs W ρ G (ds.take n) (vs.take n)
  | _, _, 0, _ => by simp only [List.take_zero]; exact .nil
  | [], _, n + 1, h => by unfold Fzs at h; subst h; exact .nil
  | x :: ds, vs, n + 1, h => by
    unfold Fzs at h
    obtain ⟨v, r, ev, q, t⟩ := h
    subst ev
    exact .cons q (t.take n)
theorem Fzs.drop : ∀ {ds : List D} {vs : List V} (n : Nat), Fzs W ρ G ds vs → Fzs W ρ G (ds.drop n) (vs.drop n)
  | _, _, 0, h => h
  | [], _, n + 1, h => by unfold Fzs at h; subst h; exact .nil
  | x :: ds, vs, n + 1, h => by
    unfold Fzs at h
    obtain ⟨v, r, ev, q, t⟩ := h
    subst ev
    exact t.drop n
end

/-! ### what stands at an address that may be written -/
def Co (W : Wd) (ρ : List Addr) (G : Hp) : D → HO → Prop
  | .lst ds, ho => ∃ vs, ho = .lst vs ∧ ds.length < line ∧ Fzs W ρ G ds vs
  | .dct ks ds, ho => ∃ vs, ho = .dK ((ks.map kx).zip vs) ∧ KsOk ks vs ∧ Fzs W ρ G ds vs
  | .ins C fs ds, ho => ∃ dx vs, ho = .ins (W.ka C) dx ((fs.map W.fn).zip vs) ∧ FsOk W C fs vs ∧ Fzs W ρ G ds vs
  | .dlk ks ds, ho => ∃ o vs, ho = .frz o (.dK ((ks.map kx).zip vs)) ∧ KsOk ks vs ∧ Fzs W ρ G ds vs
  | _, _ => False
theorem Co.mono {W : Wd} {ρ ρ' : List Addr} {G G' : Hp} (hr : Rle ρ ρ') (hg : Hle G G') {d : D} {ho : HO} (h : Co W ρ G d ho) : Co W ρ' G' d ho := by
  cases d with
  | lst ds => obtain ⟨vs, e, l, q⟩ := h; exact ⟨vs, e, l, q.mono hr hg⟩
  | dct ks ds => obtain ⟨vs, e, l, q⟩ := h; exact ⟨vs, e, l, q.mono hr hg⟩
  | ins C fs ds => obtain ⟨dx, vs, e, l, q⟩ := h; exact ⟨dx, vs, e, l, q.mono hr hg⟩
  | dlk ks ds => obtain ⟨o, vs, e, l, q⟩ := h; exact ⟨o, vs, e, l, q.mono hr hg⟩
  | _ => exact h
theorem dlk_frz {W : Wd} {ρ : List Addr} {G : Hp} {d : D} {ho : HO} (h : d.isDlk = true) (c : Co W ρ G d ho) (n : ∀ o u, ho ≠ .frz o u) : False := by
  cases d with
  | dlk ks ds => obtain ⟨o, vs, e, _⟩ := c; exact n _ _ e
  | _ => cases h
theorem dlk_not {W : Wd} {ρ ρ' : List Addr} {G G' : Hp} {d d' : D} {ho : HO} (l : d.isDlk = false) (c : Co W ρ G d ho) (h : d'.isDlk = true) (c' : Co W ρ' G' d' ho) : False := by
  cases d with
  | dlk ks ds => cases l
  | lst ds => obtain ⟨vs, e, _⟩ := c; exact dlk_frz h c' fun o u z => by rw [e] at z; cases z
  | dct ks ds => obtain ⟨vs, e, _⟩ := c; exact dlk_frz h c' fun o u z => by rw [e] at z; cases z
  | ins C fs ds => obtain ⟨dx, vs, e, _⟩ := c; exact dlk_frz h c' fun o u z => by rw [e] at z; cases z
  | _ => exact c.elim
/-- once for good, it is a value -/
theorem Co.fz {W : Wd} {ρ : List Addr} {G : Hp} {d : D} {ho : HO} {p : Addr} (h : Co W ρ G d ho) (hp : G p = some ho) : Fz W ρ G d (.ref p) := by
  cases d with
  | lst ds => obtain ⟨vs, e, l, q⟩ := h; subst e; unfold Fz; exact ⟨p, vs, rfl, hp, l, q⟩
  | dct ks ds => obtain ⟨vs, e, l, q⟩ := h; subst e; unfold Fz; exact ⟨p, vs, rfl, hp, l, q⟩
  | ins C fs ds => obtain ⟨dx, vs, e, l, q⟩ := h; subst e; unfold Fz; exact ⟨p, dx, vs, rfl, hp, l, q⟩
  | dlk ks ds => obtain ⟨o, vs, e, l, q⟩ := h; subst e; unfold Fz; exact ⟨p, o, vs, rfl, hp, l, q⟩
  | _ => exact h.elim

/-- the state behind the slots: G stands for good, Fr is not touched, ρ are the shared objects -/
structure MRel (W : Wd) (Fr : Hp) (ρ : List Addr) (G : Hp) (M : Mem) (H : Hp) : Prop where
  gh : Hle G H
  fh : Hle Fr H
  gf : ∀ a o, Fr a = some o → G a = none
  len : M.length = ρ.length
  mem : ∀ (i : Nat) (a : Addr) (d : D), ρ[i]? = some a → M[i]? = some d → ∃ ho, H a = some ho ∧ Co W ρ G d ho ∧ G a = none ∧ (Fr a = none ∨ d.isDlk = true)
  nd : ∀ (i j : Nat) (a : Addr), ρ[i]? = some a → ρ[j]? = some a → i = j
def Own (σs : List SV) (σ : L2.St) (i : Nat) (p : Addr) : Prop := ∃ d, σs[i]? = some (SV.o d) ∧ σ[i]? = some (some (V.ref p))
/-- something at p that nobody else knows -/
structure New (W : Wd) (Fr : Hp) (ρ : List Addr) (G : Hp) (H : Hp) (d : D) (p : Addr) : Prop where
  at_ : ∃ ho, H p = some ho ∧ Co W ρ G d ho
  g : G p = none
  f : Fr p = none
  r : p ∉ ρ
  l : d.isDlk = false
structure Rel (W : Wd) (Fr : Hp) (ρ : List Addr) (G : Hp) (σs : List SV) (M : Mem) (σ : L2.St) (H : Hp) : Prop extends MRel W Fr ρ G M H where
  sl : σ.length = σs.length
  val : ∀ (i : Nat) (d : D), σs[i]? = some (SV.v d) → ∃ v, σ[i]? = some (some v) ∧ Fz W ρ G d v
  own : ∀ (i : Nat) (d : D), σs[i]? = some (SV.o d) → ∃ p, σ[i]? = some (some (V.ref p)) ∧ New W Fr ρ G H d p
  uniq : ∀ i j p, Own σs σ i p → Own σs σ j p → i = j
/-- how an answer stands -/
def Res (W : Wd) (Fr : Hp) (ρ : List Addr) (G : Hp) (σs : List SV) (σ : L2.St) (H : Hp) (r : KD) (v : V) : Prop :=
  match r.k with
  | .f => Fz W ρ G r.d v
  | .n => ∃ p, v = .ref p ∧ New W Fr ρ G H r.d p ∧ ∀ i, ¬ Own σs σ i p
  | .b => ∃ i : Nat, σs[i]? = some (SV.o r.d) ∧ σ[i]? = some (some v)
/-- an operand that is looked at -/
def Bz (W : Wd) (ρ : List Addr) (G : Hp) (σs : List SV) (σ : L2.St) (d : D) (v : V) : Prop := Fz W ρ G d v ∨ ∃ i : Nat, σs[i]? = some (SV.o d) ∧ σ[i]? = some (some v)

section
variable {W : Wd} {Fr : Hp} {ρ ρ' : List Addr} {G G' : Hp} {σs : List SV} {M : Mem} {σ : L2.St} {H : Hp} {d : D} {v : V} {p : Addr}
theorem upd_le {o : HO} (h : H p = none) : Hle H (upd H p o) := fun a u e => by rw [upd_ne (ne_of_none e h)]; exact e
theorem MRel.none_g (r : MRel W Fr ρ G M H) (h : H p = none) : G p = none := by
  cases q : G p with
  | none => rfl
  | some o => rw [r.gh _ _ q] at h; cases h
theorem MRel.none_f (r : MRel W Fr ρ G M H) (h : H p = none) : Fr p = none := by
  cases q : Fr p with
  | none => rfl
  | some o => rw [r.fh _ _ q] at h; cases h
theorem MRel.none_r (r : MRel W Fr ρ G M H) (h : H p = none) : p ∉ ρ := fun q => by
  obtain ⟨i, hi, e⟩ := List.getElem_of_mem q
  have hm : i < M.length := by rw [r.len]; exact hi
  obtain ⟨ho, e1, _⟩ := r.mem i p M[i] (by rw [List.getElem?_eq_getElem hi, e]) (List.getElem?_eq_getElem hm)
  rw [h] at e1; cases e1
/-- what nobody else knows becomes a value -/
theorem MRel.keep (r : MRel W Fr ρ G M H) {ho : HO} (hp : H p = some ho) (g : G p = none) (f : Fr p = none) (hr : p ∉ ρ) : MRel W Fr ρ (upd G p ho) M H where
  gh := fun a o e => by
    by_cases q : a = p
    · subst q; rw [upd_same] at e; cases e; exact hp
    · rw [upd_ne q] at e; exact r.gh _ _ e
  fh := r.fh
  gf := fun a o e => by
    by_cases q : a = p
    · subst q; rw [f] at e; cases e
    · rw [upd_ne q]; exact r.gf a o e
  len := r.len
  mem := fun i a d e1 e2 => by
    obtain ⟨ho', h1, h2, h3, h4⟩ := r.mem i a d e1 e2
    refine ⟨ho', h1, h2.mono (Rle.refl _) (upd_le g), ?_, h4⟩
    have hne : a ≠ p := fun z => hr (z ▸ List.mem_of_getElem? e1)
    rw [upd_ne hne]; exact h3
  nd := r.nd
theorem New.mono (n : New W Fr ρ G H d p) {H' : Hp} (hr : Rle ρ ρ') (hg : Hle G G') (hh : ∀ o, H p = some o → H' p = some o) (g : G' p = none) (rr : p ∉ ρ') : New W Fr ρ' G' H' d p :=
  let ⟨ho, e, c⟩ := n.at_
  ⟨⟨ho, hh _ e, c.mono hr hg⟩, g, n.f, rr, n.l⟩
/-- the slots when another one stands for good -/
theorem Rel.keep (r : Rel W Fr ρ G σs M σ H) {ho : HO} (hp : H p = some ho) (g : G p = none) (f : Fr p = none) (hr : p ∉ ρ) (ho' : ∀ i, ¬ Own σs σ i p) : Rel W Fr ρ (upd G p ho) σs M σ H where
  toMRel := r.toMRel.keep hp g f hr
  sl := r.sl
  val := fun i d e => let ⟨v, e1, e2⟩ := r.val i d e; ⟨v, e1, e2.mono (Rle.refl _) (upd_le g)⟩
  own := fun i d e => by
    obtain ⟨q, e1, n⟩ := r.own i d e
    have hne : q ≠ p := fun z => ho' i ⟨d, e, z ▸ e1⟩
    exact ⟨q, e1, n.mono (Rle.refl _) (upd_le g) (fun _ z => z) (by rw [upd_ne hne]; exact n.g) n.r⟩
  uniq := r.uniq
/-- a new object of no one -/
theorem MRel.push (r : MRel W Fr ρ G M H) {ho : HO} (h : H p = none) : MRel W Fr ρ G M (upd H p ho) where
  gh := r.gh.trans (upd_le h)
  fh := r.fh.trans (upd_le h)
  gf := r.gf
  len := r.len
  mem := fun i a d e1 e2 => by
    obtain ⟨ho', h1, h2, h3, h4⟩ := r.mem i a d e1 e2
    exact ⟨ho', upd_le h _ _ h1, h2, h3, h4⟩
  nd := r.nd
theorem Rel.push (r : Rel W Fr ρ G σs M σ H) {ho : HO} (h : H p = none) : Rel W Fr ρ G σs M σ (upd H p ho) where
  toMRel := r.toMRel.push h
  sl := r.sl
  val := r.val
  own := fun i d e => by
    obtain ⟨q, e1, n⟩ := r.own i d e
    exact ⟨q, e1, n.mono (Rle.refl _) (Hle.refl _) (fun _ z => upd_le h _ _ z) n.g n.r⟩
  uniq := r.uniq
theorem Rel.noOwn (r : Rel W Fr ρ G σs M σ H) (h : H p = none) : ∀ i, ¬ Own σs σ i p := fun i ⟨d, e1, e2⟩ => by
  obtain ⟨q, e3, n⟩ := r.own i d e1
  rw [e2] at e3; cases e3
  obtain ⟨ho, e, _⟩ := n.at_
  rw [h] at e; cases e
theorem Rel.newAt (r : Rel W Fr ρ G σs M σ H) (h : H p = none) {ho : HO} (c : Co W ρ G d ho) (l : d.isDlk = false := by rfl) : New W Fr ρ G (upd H p ho) d p :=
  ⟨⟨ho, upd_same, c⟩, r.none_g h, r.none_f h, r.none_r h, l⟩
end

/-! ### answers -/
abbrev RT (α β : Type) : Type := List Addr → Hp → List SV → L2.St → Hp → α → β → Prop
section
variable (W : Wd) (WW : WX) (Fr : Hp)
/-- behind an expression: what is wanted -/
def Aft {α β : Type} (RR : RT α β) (ρ : List Addr) (G : Hp) (σs : List SV) (σ : L2.St) (R : Rs α) (Q : β → Hp → Prop) : Prop :=
  match R with
  | .ok a M => ∀ (ρ' : List Addr) (G' : Hp) (v : β) (H' : Hp), Rle ρ ρ' → Hle G G' → Rel W Fr ρ' G' σs M σ H' → RR ρ' G' σs σ H' a v → Q v H'
  | .ex C M => ∀ (ρ' : List Addr) (G' : Hp) (H' : Hp), Rle ρ ρ' → Hle G G' → Rel W Fr ρ' G' σs M σ H' → WW (.ref (W.ca C)) none σ H'
  | .stk => False
end
abbrev RRk (W : Wd) (Fr : Hp) : RT KD V := fun ρ G σs σ H r v => Res W Fr ρ G σs σ H r v
abbrev RRf (W : Wd) : RT D V := fun ρ G _ _ _ d v => Fz W ρ G d v
abbrev RRb (W : Wd) : RT D V := fun ρ G σs σ _ d v => Bz W ρ G σs σ d v
abbrev RRl : RT Bool V := fun _ _ _ _ _ b v => v = .bl b
abbrev RRt : RT Bool Bool := fun _ _ _ _ _ b v => v = b
def Bzs (W : Wd) (ρ : List Addr) (G : Hp) (σs : List SV) (σ : L2.St) : List D → List V → Prop
  | [], vs => vs = []
  | d :: ds, vs => ∃ v r, vs = v :: r ∧ Bz W ρ G σs σ d v ∧ Bzs W ρ G σs σ ds r
abbrev RRfs (W : Wd) : RT (List D) (List V) := fun ρ G _ _ _ d v => Fzs W ρ G d v
abbrev RRbs (W : Wd) : RT (List D) (List V) := fun ρ G σs σ _ d v => Bzs W ρ G σs σ d v
/-- the reading of an expression by the machine -/
def LE (W : Wd) (WW : WX) {α β : Type} (RR : Hp → RT α β) (r : List SV → Mem → Rs α) : L2.St → Hp → (β → Hp → Prop) → Prop := fun σ H Q =>
  ∃ (Fr : Hp) (ρ : List Addr) (G : Hp) (σs : List SV) (M : Mem), Rel W Fr ρ G σs M σ H ∧ Aft W WW Fr (RR Fr) ρ G σs σ (r σs M) Q
abbrev LK (W : Wd) (WW : WX) (r : List SV → Mem → Rs KD) : TE := LE W WW (RRk W) r
abbrev LF (W : Wd) (WW : WX) (r : List SV → Mem → Rs D) : TE := LE W WW (fun _ => RRf W) r
abbrev LB (W : Wd) (WW : WX) (r : List SV → Mem → Rs D) : TE := LE W WW (fun _ => RRb W) r
abbrev LL (W : Wd) (WW : WX) (r : List SV → Mem → Rs Bool) : TE := LE W WW (fun _ => RRl) r
abbrev LT (W : Wd) (WW : WX) (r : List SV → Mem → Rs Bool) : TT := LE W WW (fun _ => RRt) r
abbrev LA (W : Wd) (WW : WX) (r : List SV → Mem → Rs (List D)) : TA := LE W WW (fun _ => RRfs W) r
abbrev LAb (W : Wd) (WW : WX) (r : List SV → Mem → Rs (List D)) : TA := LE W WW (fun _ => RRbs W) r

theorem PE.weak {X : Cx} {e : Expr} {t u : TE} (h : PE X e t) (k : ∀ σ H Q, u σ H Q → t σ H Q) : PE X e u := ⟨fun pins s σ H Q I q => h.run pins s σ H Q I (k _ _ _ q)⟩
theorem PT.weak {X : Cx} {e : Expr} {t u : TT} (h : PT X e t) (k : ∀ σ H Q, u σ H Q → t σ H Q) : PT X e u := ⟨fun pins s σ H Q I q => h.run pins s σ H Q I (k _ _ _ q)⟩
theorem PW.weak {X : Cx} {e : Expr} {t u : TT} (h : PW X e t) (k : ∀ σ H Q, u σ H Q → t σ H Q) : PW X e u := ⟨fun wh pins s σ H Q I q => h.run wh pins s σ H Q I (k _ _ _ q)⟩
theorem PA.weak {X : Cx} {e : List Expr} {t u : TA} (h : PA X e t) (k : ∀ σ H Q, u σ H Q → t σ H Q) : PA X e u := ⟨fun pos pins s σ H Q I q => h.run pos pins s σ H Q I (k _ _ _ q)⟩
theorem PSs.weak {X : Cx} {e : List Stmt} {t u : TS} (h : PSs X e t) (k : ∀ D σ H, u D σ H → t D σ H) : PSs X e u := ⟨fun pins s σ H D I q => h.run pins s σ H D I (k _ _ _ q)⟩
theorem PS.weak {X : Cx} {e : Stmt} {t u : TS} (h : PS X e t) (k : ∀ D σ H, u D σ H → t D σ H) : PS X e u := ⟨fun pins s σ H D I q => h.run pins s σ H D I (k _ _ _ q)⟩

section
variable {W : Wd} {WW : WX} {Fr : Hp} {ρ : List Addr} {G : Hp} {σs : List SV} {M : Mem} {σ : L2.St} {H : Hp}
variable {α β γ δ : Type} {RA : RT α β} {RB : RT γ δ} {Q : β → Hp → Prop} {P : δ → Hp → Prop}
/-- in the middle: the first answer is there -/
def Mid (W : Wd) (WW : WX) (Fr : Hp) (RA : RT α β) (RB : RT γ δ) (ρ : List Addr) (G : Hp) (σs : List SV) (σ : L2.St) (f : α → Mem → Rs γ) (P : δ → Hp → Prop) : β → Hp → Prop := fun x H1 =>
  ∃ (ρ1 : List Addr) (G1 : Hp) (M1 : Mem) (a : α), Rle ρ ρ1 ∧ Hle G G1 ∧ Rel W Fr ρ1 G1 σs M1 σ H1 ∧ RA ρ1 G1 σs σ H1 a x ∧ Aft W WW Fr RB ρ1 G1 σs σ (f a M1) P
theorem Aft.weaker {R : Rs α} {Q Q' : β → Hp → Prop} (h : Aft W WW Fr RA ρ G σs σ R Q) (k : ∀ v H', Q v H' → Q' v H') : Aft W WW Fr RA ρ G σs σ R Q' := by
  cases R with
  | ok a M => exact fun ρ' G' v H' h1 h2 h3 h4 => k _ _ (h ρ' G' v H' h1 h2 h3 h4)
  | ex C M => exact h
  | stk => exact h
theorem Aft.from {R : Rs α} {ρ0 : List Addr} {G0 : Hp} (hr : Rle ρ0 ρ) (hg : Hle G0 G) (h : Aft W WW Fr RA ρ0 G0 σs σ R Q) : Aft W WW Fr RA ρ G σs σ R Q := by
  cases R with
  | ok a M => exact fun ρ' G' v H' h1 h2 h3 h4 => h ρ' G' v H' (hr.trans h1) (hg.trans h2) h3 h4
  | ex C M => exact fun ρ' G' H' h1 h2 h3 => h ρ' G' H' (hr.trans h1) (hg.trans h2) h3
  | stk => exact h
theorem Aft.bind {R : Rs α} {f : α → Mem → Rs γ} (h : Aft W WW Fr RB ρ G σs σ (R.bind f) P) : Aft W WW Fr RA ρ G σs σ R (Mid W WW Fr RA RB ρ G σs σ f P) := by
  cases R with
  | ok a M => exact fun ρ' G' v H' h1 h2 h3 h4 => ⟨ρ', G', M, a, h1, h2, h3, h4, Aft.from h1 h2 (show Aft W WW Fr RB ρ G σs σ (f a M) P from h)⟩
  | ex C M => exact h
  | stk => exact h
/-- an answer that is there -/
theorem Aft.here {a : α} {M : Mem} {v : β} (h : Aft W WW Fr RA ρ G σs σ (.ok a M) Q) (r : Rel W Fr ρ G σs M σ H) (k : RA ρ G σs σ H a v) : Q v H := h ρ G v H (Rle.refl _) (Hle.refl _) r k
theorem Rel.fix (h : Rel W Fr ρ G σs M σ H) {r : KD} {v : V} (k : Res W Fr ρ G σs σ H r v) : (r.k = .b ∧ Bz W ρ G σs σ r.d v) ∨ (∃ G', Hle G G' ∧ Rel W Fr ρ G' σs M σ H ∧ Fz W ρ G' r.d v ∧ r.k ≠ .b) := by
  obtain ⟨k', d⟩ := r
  cases k' with
  | f => exact .inr ⟨G, Hle.refl _, h, k, fun z => nomatch z⟩
  | n =>
    obtain ⟨p, rfl, n, no⟩ := k
    obtain ⟨ho, e, c⟩ := n.at_
    exact .inr ⟨upd G p ho, upd_le n.g, h.keep e n.g n.f n.r no, (c.mono (Rle.refl _) (upd_le n.g)).fz upd_same, fun z => nomatch z⟩
  | b => exact .inl ⟨rfl, .inr k⟩
/-- kept -/
theorem Aft.fz {R : Rs KD} {Q : VK} (h : Aft W WW Fr (RRf W) ρ G σs σ R.fz Q) : Aft W WW Fr (RRk W Fr) ρ G σs σ R Q := by
  cases R with
  | ok a M =>
    intro ρ' G' v H' h1 h2 h3 h4
    rcases h3.fix h4 with ⟨e, _⟩ | ⟨G2, g, r, f, ne⟩
    · obtain ⟨k, d⟩ := a
      cases e
      exact h.elim
    · obtain ⟨k, d⟩ := a
      cases k with
      | f => exact h ρ' G2 v H' h1 (h2.trans g) r f
      | n => exact h ρ' G2 v H' h1 (h2.trans g) r f
      | b => exact absurd rfl ne
  | ex C M => exact h
  | stk => exact h
/-- looked at -/
theorem Aft.bw {R : Rs KD} {Q : VK} (h : Aft W WW Fr (RRb W) ρ G σs σ R.bw Q) : Aft W WW Fr (RRk W Fr) ρ G σs σ R Q := by
  cases R with
  | ok a M =>
    intro ρ' G' v H' h1 h2 h3 h4
    rcases h3.fix h4 with ⟨_, b⟩ | ⟨G2, g, r, f, _⟩
    · exact h ρ' G' v H' h1 h2 h3 b
    · exact h ρ' G2 v H' h1 (h2.trans g) r (.inl f)
  | ex C M => exact h
  | stk => exact h
theorem Bz.nob (h : Rel W Fr ρ G σs M σ H) {d : D} {v : V} (k : Bz W ρ G σs σ d v) (hd : ∀ ho, ¬ Co W ρ G d ho) : Fz W ρ G d v := by
  rcases k with k | ⟨i, e1, e2⟩
  · exact k
  · obtain ⟨p, e3, n⟩ := h.own i _ e1
    obtain ⟨ho, e, c⟩ := n.at_
    exact (hd _ c).elim
theorem Aft.bl {R : Rs KD} {Q : VK} (h : Aft W WW Fr RRl ρ G σs σ R.bl Q) : Aft W WW Fr (RRk W Fr) ρ G σs σ R Q := by
  cases R with
  | ok a M =>
    obtain ⟨k, d⟩ := a
    intro ρ' G' v H' h1 h2 h3 h4
    cases d with
    | bl b =>
      have : v = .bl b := by
        rcases h3.fix h4 with ⟨_, b⟩ | ⟨G2, g, r, f, _⟩
        · exact b.nob h3 (fun _ z => z)
        · exact f
      exact h ρ' G' v H' h1 h2 h3 this
    | _ => exact h.elim
  | ex C M => exact h
  | stk => exact h
end
section
variable {X : Cx} {W : Wd} {WW : WX} {e : Expr} {r : List SV → Mem → Rs KD}
theorem pe_fz (h : PE X e (LK W WW r)) : PE X e (LF W WW fun σ M => (r σ M).fz) := PE.weak h fun σ H Q ⟨Fr, ρ, G, σs, M, rl, a⟩ => ⟨Fr, ρ, G, σs, M, rl, a.fz⟩
theorem pe_bw (h : PE X e (LK W WW r)) : PE X e (LB W WW fun σ M => (r σ M).bw) := PE.weak h fun σ H Q ⟨Fr, ρ, G, σs, M, rl, a⟩ => ⟨Fr, ρ, G, σs, M, rl, a.bw⟩
theorem pe_bl (h : PE X e (LK W WW r)) : PE X e (LL W WW fun σ M => (r σ M).bl) := PE.weak h fun σ H Q ⟨Fr, ρ, G, σs, M, rl, a⟩ => ⟨Fr, ρ, G, σs, M, rl, a.bl⟩
end
end VM
/-! VMY: a text is no dict. -/
namespace VM
open PySem L2 PySem.Spec PyProof.Rows PySem.SeqAt PySem.MeetsSeq AutoSeq1
section
variable {A : Around} {s : Shared}
theorem str_declines_dct (b : Str) (u : Tok) (l : Addr) (c : Value) (es : Array DictEntry) (ep : Nat) (dd : Option Addr) (sl : Array (Option Value)) :
    Meets (Builtin.«str.__eq__» ⟨[.str b u, .ref l], []⟩) (fun _ R s => s.heap.get? l = some { cls := c, dict := dd, data := .dict es ep, slots := sl } ∧ R (.ok (.ret .notImplemented)) s) :=
  .of_wp fun prog w A R s h => by obtain ⟨hp, g, d, tk, os⟩ := s; obtain ⟨hl, h⟩ := h; wp_walk using wpAny_loadPart' hl, wpAny_load hl; exact ⟨_, rfl, h⟩
theorem dct_declines_str {prog : Program} {w : World} {E Q : Value → Shared → Prop} (b : Str) (u : Tok) (l : Addr) (tl : s.TypeIs (.ref l) "dict") (h : Q .notImplemented s) :
    wpAny (model prog w) A (PySem.call (.builtin "dict.__eq__") [.ref l, .str b u]) Q E s := by
  refine wpAny_call_entry PySem.F.slot_dict_eq tl PySem.F.entry_dict_eq ?_ (PySem.F.args_dict_eq_2 _ _)
  show wpAny _ _ (Builtin.Dict.dictSlotArgs "__eq__" ⟨[.ref l, .str b u], []⟩ >>= _) _ _ s
  refine wpAny_bind ?_
  unfold Builtin.Dict.dictSlotArgs
  refine wpAny_bind (wpAny_notOrdered_dict tl ?_)
  show wpAny _ _ (pure (Value.ref l, Value.str b u)) _ _ s
  refine wpAny_pure ?_
  refine wpAny_bind (wpAny_isInstance (T := "str") (typeIs_str s b u) PySem.F.sub_str_dict ?_)
  show wpAny _ _ (if (!false) = true then _ else _) _ _ _
  rw [if_pos (by decide)]
  refine wpAny_bind (wpAny_rule ?_)
  exact wpAny_pure ⟨_, rfl, h⟩
theorem RcAt_str_dct {l : Addr} (b : Str) (u : Tok) {o : Obj} (ho : s.heap.get? l = some o) (hc : o.cls = .type "dict") (hd : ∃ es ep, o.data = .dict es ep) (hu : A.units < cLine) : RcAt A s (.str b u) (.ref l) false := fun prog w E Q h => by
  obtain ⟨⟨cls, dd, data, sl⟩, es, ep, hd⟩ := o, hd
  simp only at hc hd
  subst hc hd
  exact rc_eq_decline_or (k := false) (typeIs_str s b u) ⟨_, ho, rfl⟩ (by decide) F.sub_dict_str F.slot_str_eq F.slot_dict_eq_refl
    (fun _ hq => call_meets F.slot_str_eq (typeIs_str s b u) F.entry_str_eq (F.args_str_eq_2 _ _) (str_declines_dct b u l (.type "dict") es ep dd sl) ⟨ho, hq⟩)
    (fun _ hq => dct_declines_str b u l ⟨_, ho, rfl⟩ hq)
    (fun _ hq => wpAny_of_eq (rfl : isSame (.str b u) (.ref l) = pure false) hq) (.inr hu) h
theorem EqAt_str_dct {l : Addr} (b : Str) (u : Tok) {o : Obj} (ho : s.heap.get? l = some o) (hc : o.cls = .type "dict") (hd : ∃ es ep, o.data = .dict es ep) (hu : A.units < cLine) : EqAt A s (.str b u) (.ref l) false := fun prog w E Q h => by
  unfold eqBool
  refine wpAny_holding ?_
  refine wpAny_ite_split (fun hab => absurd (eq_of_beq hab) nofun) (fun _ => ?_)
  exact wpAny_bind (RcAt_str_dct b u ho hc hd hu prog w E _ (wpAny_truthy_bool h))
end
section
variable {X : Cx}
/-- a dict, looked for among texts -/
def rInDct (K : PySem.W.Frag) (neg : Bool) : R2 := fun x y H Q => ∃ (a p : Addr) (kvs : List (L2.Key × V)) (xs : List V), x = V.ref a ∧ Rd H a (.dK kvs) ∧ y = V.ref p ∧ (SqL K H p xs ∨ SqT K H p xs) ∧ (∀ z ∈ xs, ∃ t, z = V.str t) ∧ Q (.bl neg) H
theorem mem_str : ∀ {xs : List V} {us : List Value}, Vals xs us → (∀ z ∈ xs, ∃ t, z = V.str t) → ∀ u ∈ us, ∃ b t, u = .str b t
  | _, _, .nil, _ => fun u hu => by cases hu
  | y :: xs, u :: us, .cons r t, f => fun u' hu => by
    rcases List.mem_cons.mp hu with rfl | hu
    · obtain ⟨b, rfl⟩ := f y List.mem_cons_self
      obtain ⟨t, rfl⟩ := r
      exact ⟨b, t, rfl⟩
    · exact mem_str t (fun z hz => f z (List.mem_cons_of_mem _ hz)) u' hu
theorem op_in_dct (hu : X.A.units + 64 < cLine) (neg : Bool) : OpR X (compareOp (if neg then .NotIn else .In)) (rInDct X.K neg) := by
  intro pins s σ H x y v u Q I rx ry h
  obtain ⟨a, p, kvs, xs, rfl, ha, rfl, hq, fs, q⟩ := h
  cases rx
  cases ry
  obtain ⟨_, _, vs, _, dd⟩ := dk_rd I.hok ha
  obtain ⟨o, es, ep, ho, hx, hd, _⟩ := dd
  have key : ∀ {us : List Value}, Vals xs us → ∀ w ∈ us.toArray, EqAt X.A.in1 s w (.ref a) ((fun _ => false) w) := fun r w hw => by
    obtain ⟨b, t, rfl⟩ := mem_str r fs w (by simpa using hw)
    exact EqAt_str_dct b t ho hx.1 ⟨_, _, hd⟩ (by show X.A.units + 1 < cLine; omega)
  rcases hq with hq | hq
  · obtain ⟨its, r, pl, hz⟩ := I.list hq
    cases neg with
    | false => exact in_listAt (fun _ => false) pl.isList (key r) ⟨.bl _, H, I, rfl, by rw [show its.toArray.any (fun _ => false) = false by simp]; exact q⟩
    | true => exact notIn_listAt (fun _ => false) pl.isList (key r) ⟨.bl _, H, I, rfl, by rw [show its.toArray.any (fun _ => false) = false by simp]; exact q⟩
  · obtain ⟨its, r, pl, hz⟩ := I.tuple hq
    cases neg with
    | false => exact in_tupleAt (fun _ => false) pl (key r) ⟨.bl _, H, I, rfl, by rw [show its.toArray.any (fun _ => false) = false by simp]; exact q⟩
    | true => exact notIn_tupleAt (fun _ => false) pl (key r) ⟨.bl _, H, I, rfl, by rw [show its.toArray.any (fun _ => false) = false by simp]; exact q⟩
end
end VM
/-! VM2: the machine's operators are the model's. -/
namespace VM
open PySem L2 PySem.Spec PyProof.Rows

abbrev wd (X : Cx) (nm : Nm) (xa : Option Addr) : Wd := ⟨X.K, nm, xa⟩

/-- what is seen at a value -/
def Lk (W : Wd) (ρ : List Addr) (G H : Hp) : D → V → Prop
  | .lst ds, v => ∃ a vs, v = .ref a ∧ H a = some (.lst vs) ∧ ds.length < line ∧ Fzs W ρ G ds vs
  | .dct ks ds, v => ∃ a vs, v = .ref a ∧ H a = some (.dK ((ks.map kx).zip vs)) ∧ KsOk ks vs ∧ Fzs W ρ G ds vs
  | .ins C fs ds, v => ∃ a dx vs, v = .ref a ∧ H a = some (.ins (W.ka C) dx ((fs.map W.fn).zip vs)) ∧ FsOk W C fs vs ∧ Fzs W ρ G ds vs
  | .dlk ks ds, v => ∃ a o vs, v = .ref a ∧ H a = some (.frz o (.dK ((ks.map kx).zip vs))) ∧ KsOk ks vs ∧ Fzs W ρ G ds vs
  | .cell _, _ => False
  | d, v => Fz W ρ G d v
section
variable {W : Wd} {WW : WX} {Fr : Hp} {ρ : List Addr} {G : Hp} {σs : List SV} {M : Mem} {σ : L2.St} {H : Hp} {d : D} {v : V} {Q : VK} {p : Addr} {ho : HO}
theorem Co.lk (c : Co W ρ G d ho) (h : H p = some ho) : Lk W ρ G H d (.ref p) := by
  cases d with
  | lst ds => obtain ⟨vs, e, l, q⟩ := c; subst e; exact ⟨p, vs, rfl, h, l, q⟩
  | dct ks ds => obtain ⟨vs, e, l, q⟩ := c; subst e; exact ⟨p, vs, rfl, h, l, q⟩
  | ins C fs ds => obtain ⟨dx, vs, e, l, q⟩ := c; subst e; exact ⟨p, dx, vs, rfl, h, l, q⟩
  | dlk ks ds => obtain ⟨o, vs, e, l, q⟩ := c; subst e; exact ⟨p, o, vs, rfl, h, l, q⟩
  | _ => exact c.elim
theorem Rel.look (r : Rel W Fr ρ G σs M σ H) (b : Bz W ρ G σs σ d v) : Lk W ρ G H (deref M d) v := by
  rcases b with b | ⟨i, e1, e2⟩
  · cases d with
    | lst ds => unfold Fz at b; obtain ⟨a, vs, e, q, k⟩ := b; exact ⟨a, vs, e, r.gh _ _ q, k⟩
    | dct ks ds => unfold Fz at b; obtain ⟨a, vs, e, q, k⟩ := b; exact ⟨a, vs, e, r.gh _ _ q, k⟩
    | ins C fs ds => unfold Fz at b; obtain ⟨a, dx, vs, e, q, k⟩ := b; exact ⟨a, dx, vs, e, r.gh _ _ q, k⟩
    | dlk ks ds => unfold Fz at b; obtain ⟨a, o, vs, e, q, k⟩ := b; exact ⟨a, o, vs, e, r.gh _ _ q, k⟩
    | cell i =>
      unfold Fz at b
      obtain ⟨a, e, q⟩ := b
      subst e
      have hi : i < M.length := by rw [r.len]; exact (List.getElem?_eq_some_iff.mp q).1
      obtain ⟨ho, h1, c, _⟩ := r.mem i a M[i] q (List.getElem?_eq_getElem hi)
      have : deref M (.cell i) = M[i] := by simp [deref, List.getD, List.getElem?_eq_getElem hi]
      rw [this]
      exact c.lk h1
    | _ => exact b
  · obtain ⟨p, e3, n⟩ := r.own i _ e1
    rw [e2] at e3
    cases e3
    obtain ⟨ho, e, c⟩ := n.at_
    have : deref M d = d := by
      cases d with
      | cell _ => exact c.elim
      | _ => rfl
    rw [this]
    exact c.lk e
theorem Aft.one (h : Aft W WW Fr (RRk W Fr) ρ G σs σ (ok1 d M) Q) (r : Rel W Fr ρ G σs M σ H) (k : Fz W ρ G d v) : Q v H := h ρ G v H (Rle.refl _) (Hle.refl _) r k
theorem Aft.new (h : Aft W WW Fr (RRk W Fr) ρ G σs σ (okn d M) Q) (r : Rel W Fr ρ G σs M σ H) (hp : H p = none) (c : Co W ρ G d ho) (l : d.isDlk = false := by rfl) : Q (.ref p) (upd H p ho) :=
  h ρ G (.ref p) (upd H p ho) (Rle.refl _) (Hle.refl _) (r.push hp) ⟨p, rfl, r.newAt hp c l, r.noOwn hp⟩
theorem Rel.laid (r : Rel W Fr ρ G σs M σ H) (hp : H p = none) : Rel W Fr ρ (upd G p ho) σs M σ (upd H p ho) :=
  (r.push hp).keep upd_same (r.none_g hp) (r.none_f hp) (r.none_r hp) (r.noOwn hp)
theorem Aft.new1 (h : Aft W WW Fr (RRk W Fr) ρ G σs σ (ok1 d M) Q) (r : Rel W Fr ρ G σs M σ H) (hp : H p = none) (c : Fz W ρ (upd G p ho) d (.ref p)) : Q (.ref p) (upd H p ho) :=
  h ρ _ (.ref p) (upd H p ho) (Rle.refl _) (upd_le (r.none_g hp)) (r.laid hp) c
theorem Aft.stk {α β : Type} {RR : RT α β} {Q : β → Hp → Prop} (h : Aft W WW Fr RR ρ G σs σ .stk Q) : False := h
theorem Fz.int {i : Int} (h : Fz W ρ G (.int i) v) : v = .int i := h
theorem Bz.int {i : Int} (r : Rel W Fr ρ G σs M σ H) (h : Bz W ρ G σs σ (.int i) v) : v = .int i := h.nob r (fun _ z => z)
theorem Bz.str {s : List Nat} (r : Rel W Fr ρ G σs M σ H) (h : Bz W ρ G σs σ (.str s) v) : v = .str (tx s) ∧ OkS s := h.nob r (fun _ z => z)
theorem Bz.bl {b : Bool} (r : Rel W Fr ρ G σs M σ H) (h : Bz W ρ G σs σ (.bl b) v) : v = .bl b := h.nob r (fun _ z => z)
theorem Fz.mkS {s : List Nat} (h : OkS s) : Fz W ρ G (.str s) (.str (tx s)) := by unfold Fz; exact ⟨rfl, h⟩
end
theorem tx_app (a b : List Nat) : tx a ++ tx b = tx (a ++ b) := by
  show Str.append (tx a) (tx b) = _
  simp [tx, Str.append]
theorem tx_len (a : List Nat) : (tx a).length = a.length := by simp [tx, Str.length]
theorem tx_cps (a : List Nat) : (tx a).cps.toList = a := by simp [tx]
theorem OkS.app {a b : List Nat} (h : OkS a) (k : OkS b) (l : a.length + b.length < line) : OkS (a ++ b) := ⟨by rw [List.length_append]; exact l, fun c hc => (List.mem_append.mp hc).elim (h.2 c) (k.2 c)⟩
theorem line_eq : (sizeLine : Nat) = line := by rw [sizeLine_eq]; rfl
theorem rep_len {α : Type} (xs : List α) : ∀ n, (rep xs n).length = xs.length * n
  | 0 => rfl
  | n + 1 => by rw [rep, List.length_append, rep_len xs n, Nat.mul_succ, Nat.add_comm]
theorem rep_flat {α : Type} (xs : List α) : ∀ n, rep xs n = (List.replicate n xs).flatten
  | 0 => rfl
  | n + 1 => by rw [rep, rep_flat xs n, List.replicate_succ, List.flatten_cons]

section
variable {X : Cx} {W : Wd} {WW : WX}
/-- two operands, then the machine's answer -/
def rO (W : Wd) (WW : WX) (f : D → D → Mem → Rs KD) : R2 := fun x y H Q => ∃ (Fr : Hp) (ρ : List Addr) (G : Hp) (σs : List SV) (M : Mem) (σ : L2.St) (d e : D),
  Rel W Fr ρ G σs M σ H ∧ Bz W ρ G σs σ d x ∧ Bz W ρ G σs σ e y ∧ Aft W WW Fr (RRk W Fr) ρ G σs σ (f d e M) Q
def opA : Bop → Operator
  | .add => .Add | .sub => .Sub | .mul => .Mult | .fdiv => .FloorDiv | .mod => .Mod | .pow => .Pow
theorem small_of {i : Int} (h : smallI i = true) : -(2 ^ 64) < i ∧ i < 2 ^ 64 := by
  have := of_decide_eq_true h
  omega
theorem op_addD (hK : W.K = X.K) : OpR X (binaryOp .Add) (rO W WW addop) := by
  intro pins s σ H x y v u Q I rx ry ⟨Fr, ρ, G, σs, M, τ, d, e, r, hx, hy, q⟩
  unfold addop at q
  split at q
  · rename_i i j
    exact op_add pins s σ H x y v u Q I rx ry ⟨i, j, hx.int r, hy.int r, q.one r rfl⟩
  · rename_i a b
    obtain ⟨e1, o1⟩ := hx.str r
    obtain ⟨e2, o2⟩ := hy.str r
    split at q
    · rename_i hl
      refine op_add_str pins s σ H x y v u Q I rx ry ⟨_, _, e1, e2, ?_, ?_⟩
      · rw [tx_len, tx_len, line_eq]; exact Nat.le_of_lt hl
      · rw [tx_app]; exact q.one r (.mkS (o1.app o2 hl))
    · exact q.elim
  · have l1 := r.look hx
    have l2 := r.look hy
    split at q
    · rename_i xs ys e1 e2
      rw [e1] at l1
      rw [e2] at l2
      obtain ⟨a, vs, ea, ha, la, fa⟩ := l1
      obtain ⟨b, ws, eb, hb, lb, fb⟩ := l2
      split at q
      · rename_i hl
        refine op_cat pins s σ H x y v u Q I rx ry ⟨a, b, vs, ws, ea, eb, ha, hb, ?_, fun p hp => q.new r hp ⟨_, rfl, by rw [List.length_append]; exact hl, fa.append fb⟩⟩
        rw [line_eq, ← fa.length, ← fb.length]; exact Nat.le_of_lt hl
      · exact q.elim
    · rename_i xs ys e1 e2
      rw [e1] at l1
      rw [e2] at l2
      have l1 : Fz W ρ G (.tup xs) x := l1
      have l2 : Fz W ρ G (.tup ys) y := l2
      unfold Fz at l1 l2
      obtain ⟨a, vs, ea, ha, la, fa⟩ := l1
      obtain ⟨b, ws, eb, hb, lb, fb⟩ := l2
      split at q
      · rename_i hl
        have ha' : SqT X.K H a vs := hK ▸ r.gh.sqt ha
        have hb' : SqT X.K H b ws := hK ▸ r.gh.sqt hb
        refine op_catA pins s σ H x y v u Q I rx ry ⟨a, b, vs, ws, ea, eb, ha', hb', ?_, fun z => ?_, fun _ z => ?_, fun _ _ p hp => ?_⟩
        · rw [line_eq, ← fa.length, ← fb.length]; exact Nat.le_of_lt hl
        · have : xs = [] := List.eq_nil_of_length_eq_zero (by rw [fa.length, z]; rfl)
          subst this
          exact q.one r (by unfold Fz; exact ⟨b, ws, rfl, hb, lb, fb⟩)
        · have : ys = [] := List.eq_nil_of_length_eq_zero (by rw [fb.length, z]; rfl)
          subst this
          rw [List.append_nil] at q
          exact q.one r (by unfold Fz; exact ⟨a, vs, rfl, ha, la, fa⟩)
        · refine q.new1 r hp ?_
          unfold Fz
          exact ⟨p, _, rfl, .of upd_same, by rw [List.length_append]; exact hl, (fa.append fb).mono (Rle.refl _) (upd_le (r.none_g hp))⟩
      · exact q.elim
    · exact q.elim
theorem foldl_repN (a : List Nat) : ∀ (k : Nat) (acc : List Nat), List.foldl (fun x1 x2 => x1 ++ x2) acc.toArray (List.replicate k a.toArray) = (acc ++ (List.replicate k a).flatten).toArray
  | 0, acc => by simp
  | k + 1, acc => by
    rw [List.replicate_succ, List.foldl_cons, List.append_toArray, foldl_repN a k, List.replicate_succ, List.flatten_cons, List.append_assoc]
theorem op_mulS : OpR X (binaryOp .Mult) (fun x y H Q => ∃ (a : List Nat) (k : Int), x = .str (tx a) ∧ y = .int k ∧ k.natAbs < 1000000 ∧ a.length * k.toNat < line ∧ Q (.str (tx (rep a k.toNat))) H) := by
  intro pins s σ H x y v u Q I rx ry ⟨a, k, e1, e2, h1, h2, q⟩
  subst e1 e2
  obtain ⟨t, rfl⟩ := rx
  obtain ⟨t', rfl⟩ := ry
  have hl : (tx a).length = a.length := tx_len a
  refine PySem.P.mul_str ?_ (fun hk _ => ?_) (fun hk _ => ?_) ?_
  · rw [decide_eq_false (by omega), decide_eq_false (by omega)]; rfl
  · rw [hl]
    have h3 : (a.length : Int) * k ≤ 16777216 := by
      have e : (k.toNat : Int) = k := by omega
      have h4 : ((a.length * k.toNat : Nat) : Int) < 16777216 := by have : a.length * k.toNat < 16777216 := h2; omega
      rw [Int.natCast_mul, e] at h4
      omega
    intro hg
    have hk0 : 0 < k := by omega
    have := Int.lt_mul_of_ediv_lt hk0 hg
    omega
  · rw [hl]
    refine decide_eq_false ?_
    rw [line_eq]
    exact Nat.not_lt.mpr (Nat.le_of_lt h2)
  · split
    · rename_i hk
      have : k.toNat = 0 := by omega
      rw [this] at q
      exact ⟨by decide, .str (tx []), H, I.tok _, ⟨_, rfl⟩, q⟩
    · split
      · rename_i hk hz
        have e : rep a k.toNat = a := by
          rcases Bool.or_eq_true_iff.mp hz with h | h
          · have : k = 1 := by simpa using h
            subst this
            show a ++ [] = a
            rw [List.append_nil]
          · have : a = [] := List.length_eq_zero_iff.mp (by simpa [hl] using h)
            subst this
            generalize k.toNat = n
            induction n with
            | zero => rfl
            | succ n ih => show [] ++ rep [] n = []; rw [ih]; rfl
        rw [e] at q
        exact ⟨.str (tx a), H, I, ⟨t, rfl⟩, q⟩
      · have e : (⟨(List.replicate k.toNat (tx a).cps).foldl (· ++ ·) #[]⟩ : Str) = tx (rep a k.toNat) := by
          have := foldl_repN a k.toNat []
          rw [List.nil_append] at this
          rw [rep_flat]
          exact congrArg Str.mk this
        rw [e]
        refine ⟨?_, .str (tx (rep a k.toNat)), H, I.tok _, ⟨_, rfl⟩, q⟩
        rw [tx_len, rep_len, line_eq]
        exact Nat.le_of_lt h2
theorem tuple_mulS (l : Addr) (items : Array Value) (n : Nat) (dd : Option Addr) (sl : Array (Option Value)) (x : Int) (u : Tok) (c0 : (decide (x < -(2 ^ 63)) || decide (x ≥ 2 ^ 63)) = false) (c1 : (items.isEmpty || x == 1) = true) :
    Meets (Builtin.«tuple.__mul__» ⟨[.ref l, .int x u], []⟩) (fun _ R s => s.heap.get? l = some { cls := .type "tuple", dict := dd, data := .seq items n, slots := sl } ∧
      R (.ok (.ret (Value.ref l))) s) :=
  .of_wp fun prog w A R s h => by
    obtain ⟨hp, g, d, tk, os⟩ := s
    obtain ⟨hl, h⟩ := h
    have f1 := AutoSeq1.idx_int
    wp_walk using wpAny_loadPart' hl
    repeat (first
      | (refine wpAny_ite_false (decide_eq_false (by rw [c0]; exact Bool.false_ne_true)) ?_; wp_walk using wpAny_loadPart' hl)
      | (refine wpAny_ite_true (decide_eq_true c1) ?_; wp_walk using wpAny_loadPart' hl))
    exact ⟨_, rfl, h⟩
theorem tuple_mul0 (l : Addr) (items : Array Value) (n : Nat) (dd : Option Addr) (sl : Array (Option Value)) (x : Int) (u : Tok) (c0 : (decide (x < -(2 ^ 63)) || decide (x ≥ 2 ^ 63)) = false) (c1 : (items.isEmpty || x == 1) = false) (c2 : (decide (x ≤ 0) || items.isEmpty) = true) :
    Meets (Builtin.«tuple.__mul__» ⟨[.ref l, .int x u], []⟩) (fun _ R s => s.heap.get? l = some { cls := .type "tuple", dict := dd, data := .seq items n, slots := sl } ∧
      R (.ok (.ret (Value.ref s.heap.objs.size))) { s with heap := s.heap.push { cls := Value.type "tuple", data := Data.seq #[] }, toks := s.toks }) :=
  .of_wp fun prog w A R s h => by
    obtain ⟨hp, g, d, tk, os⟩ := s
    obtain ⟨hl, h⟩ := h
    have f1 := AutoSeq1.idx_int
    wp_walk using wpAny_loadPart' hl
    repeat (first
      | (refine wpAny_ite_false (decide_eq_false (by rw [c0]; exact Bool.false_ne_true)) ?_; wp_walk using wpAny_loadPart' hl)
      | (refine wpAny_ite_false (decide_eq_false (by rw [c1]; exact Bool.false_ne_true)) ?_; wp_walk using wpAny_loadPart' hl)
      | (refine wpAny_ite_true (decide_eq_true c2) ?_; wp_walk using wpAny_loadPart' hl))
    exact ⟨_, rfl, h⟩
theorem op_mulT : OpR X (binaryOp .Mult) (fun x y H Q => ∃ l k xs, x = .ref l ∧ y = .int k ∧ SqT X.K H l xs ∧ k.natAbs < 1000 ∧ xs.length < 1000 ∧
    ((xs = [] ∨ k = 1) → Q (.ref l) H) ∧ (xs ≠ [] → k ≠ 1 → ∀ p, H p = none → Q (.ref p) (upd H p (.tup (List.replicate k.toNat xs).flatten)))) := by
  intro pins s σ H x y v u Q I rx ry h
  obtain ⟨l, k, xs, e1, e2, hT, hk, hz, q1, q2⟩ := h
  by_cases h2 : xs ≠ [] ∧ 2 ≤ k
  · exact op_repT pins s σ H x y v u Q I rx ry ⟨l, k, xs, e1, e2, hT, h2.1, h2.2, by omega, by omega, q2 h2.1 (by omega)⟩
  subst e1 e2
  cases rx
  obtain ⟨t, rfl⟩ := ry
  obtain ⟨its, r, ⟨⟨cls, dd, data, sl⟩, ho, hc, n, hd⟩, hs⟩ := I.tuple hT
  simp only at hc hd
  subst hc hd
  have hle : its.length = xs.length := r.length.symm
  have c0 : (decide (k < -(2 ^ 63)) || decide (k ≥ 2 ^ 63)) = false := by
    rw [decide_eq_false (by omega), decide_eq_false (by omega)] <;> rfl
  have hie : its.toArray.isEmpty = true ↔ xs = [] := by
    constructor
    · intro z
      have : its = [] := by simpa using z
      subst this
      exact List.eq_nil_of_length_eq_zero hle.symm
    · intro z
      subst z
      have : its = [] := List.eq_nil_of_length_eq_zero hle
      subst this; rfl
  by_cases h1 : xs = [] ∨ k = 1
  · have c1 : (its.toArray.isEmpty || k == 1) = true := by
      rcases h1 with z | z
      · rw [hie.mpr z]; rfl
      · subst z; simp
    exact wpAny_binaryOp_repeat_ref (T := "tuple") (U := "int") (by decide) ⟨_, ho, rfl⟩ (fun s' => typeIs_int s' k t) noFill_tuple_mul F.fills_int_mul F.slot_int_rmul repeat_tuple F.slot_int_index.lookup
      (call_meets F.slot_int_rmul (typeIs_int s k t) F.entry_int_rmul (F.args_int_rmul_2 _ _) (int_rmul_tuple k t l its.toArray n dd sl)
        ⟨ho, rfl, ⟨_, ho, rfl⟩, call_meets F.slot_tuple_mul ⟨_, ho, rfl⟩ F.entry_tuple_mul (F.args_tuple_mul_2 _ _) (tuple_mulS l its.toArray n dd sl k t c0 c1) ⟨ho, .ref l, H, I, rfl, q1 h1⟩⟩)
  · have n1 : xs ≠ [] := fun z => h1 (.inl z)
    have n2 : k ≠ 1 := fun z => h1 (.inr z)
    have k0 : k ≤ 0 := by
      have : ¬ 2 ≤ k := fun z => h2 ⟨n1, z⟩
      omega
    have hi : its.toArray.isEmpty = false := by
      cases q : its.toArray.isEmpty with
      | true => exact absurd (hie.mp q) n1
      | false => rfl
    have c1 : (its.toArray.isEmpty || k == 1) = false := by
      rw [hi, Bool.false_or]
      exact beq_eq_false_iff_ne.mpr n2
    have c2 : (decide (k ≤ 0) || its.toArray.isEmpty) = true := by rw [decide_eq_true k0]; rfl
    refine wpAny_binaryOp_repeat_ref (T := "tuple") (U := "int") (by decide) ⟨_, ho, rfl⟩ (fun s' => typeIs_int s' k t) noFill_tuple_mul F.fills_int_mul F.slot_int_rmul repeat_tuple F.slot_int_index.lookup
      (call_meets F.slot_int_rmul (typeIs_int s k t) F.entry_int_rmul (F.args_int_rmul_2 _ _) (int_rmul_tuple k t l its.toArray n dd sl)
        ⟨ho, rfl, ⟨_, ho, rfl⟩, call_meets F.slot_tuple_mul ⟨_, ho, rfl⟩ F.entry_tuple_mul (F.args_tuple_mul_2 _ _) (tuple_mul0 l its.toArray n dd sl k t c0 c1 c2) ⟨ho, ?_⟩⟩)
    have q3 := q2 n1 n2
    rw [show k.toNat = 0 by omega] at q3
    refine ⟨.ref s.heap.objs.size, _, I.laid (t' := s.toks) (o := .tup []) (fun b ob q => Heap.get?_push_of_some _ q) (Nat.le_refl _) ?_, rfl, q3 _ (I.hok.fresh (Nat.le_refl _))⟩
    exact ⟨Nat.zero_le _, [], .nil, IsTup.new _ _⟩
theorem op_mulD (hK : W.K = X.K) : OpR X (binaryOp .Mult) (rO W WW mulop) := by
  intro pins s σ H x y v u Q I rx ry ⟨Fr, ρ, G, σs, M, τ, d, e, r, hx, hy, q⟩
  unfold mulop at q
  split at q
  · rename_i i j
    split at q
    · rename_i hm
      have fin : ∀ {r' : R2}, OpR X (binaryOp .Mult) r' → r' x y H Q → wpAny (model X.prog X.w) X.A (binaryOp .Mult v u) (EP X pins σ Q) X.xe s := fun o z => o pins s σ H x y v u Q I rx ry z
      have q' := q.one r (v := .int (i * j)) rfl
      unfold mulOk at hm
      rcases Bool.or_eq_true_iff.mp hm with hm | hm
      · rcases Bool.or_eq_true_iff.mp hm with hm | hm
        · exact fin op_mul ⟨i, j, hx.int r, hy.int r, .inl (small_of hm), q'⟩
        · exact fin op_mul ⟨i, j, hx.int r, hy.int r, .inr (small_of hm), q'⟩
      · have hw : i.natAbs.log2 + j.natAbs.log2 < 1000000 := of_decide_eq_true hm
        exact fin op_mulW ⟨i, j, hx.int r, hy.int r, hw, q'⟩
    · exact q.elim
  · rename_i a j
    obtain ⟨e1, o1⟩ := hx.str r
    split at q
    · rename_i hl
      refine op_mulS pins s σ H x y v u Q I rx ry ⟨a, j, e1, hy.int r, hl.1, hl.2, q.one r (.mkS ⟨by rw [rep_len]; exact hl.2, ?_⟩)⟩
      intro c hc
      rw [rep_flat] at hc
      obtain ⟨l, h3, h4⟩ := List.mem_flatten.mp hc
      rw [(List.mem_replicate.mp h3).2] at h4
      exact o1.2 c h4
    · exact q.elim
  · rename_i j _ _
    have l1 := r.look hx
    split at q
    · rename_i xs e1
      rw [e1] at l1
      obtain ⟨a, vs, ea, ha, la, fa⟩ := l1
      split at q
      · rename_i hl
        refine op_rep pins s σ H x y v u Q I rx ry ⟨a, j, vs, ea, hy.int r, ha, by omega, by omega, ?_, fun p hp => q.new r hp ⟨_, rfl, by rw [rep_len]; exact hl.2, ?_⟩⟩
        · rw [line_eq, ← fa.length]; exact Nat.le_of_lt hl.2
        · rw [← rep_flat]; exact fa.rep _
      · exact q.elim
    · rename_i xs e1
      rw [e1] at l1
      have l1 : Fz W ρ G (.tup xs) x := l1
      unfold Fz at l1
      obtain ⟨a, vs, ea, ha, la, fa⟩ := l1
      split at q
      · rename_i hl
        have ha' : SqT X.K H a vs := hK ▸ r.gh.sqt ha
        refine op_mulT pins s σ H x y v u Q I rx ry ⟨a, j, vs, ea, hy.int r, ha', hl.1, by rw [← fa.length]; exact hl.2, fun z => ?_, fun _ _ p hp => ?_⟩
        · have e : rep xs j.toNat = xs := by
            rcases z with z | z
            · have : xs = [] := List.eq_nil_of_length_eq_zero (by rw [fa.length, z]; rfl)
              subst this
              rw [rep_flat]
              simp
            · subst z
              show xs ++ [] = xs
              rw [List.append_nil]
          rw [e] at q
          exact q.one r (by unfold Fz; exact ⟨a, vs, rfl, ha, la, fa⟩)
        · refine q.new1 r hp ?_
          unfold Fz
          refine ⟨p, _, rfl, .of upd_same, ?_, ?_⟩
          · rw [rep_len]
            have a1 : xs.length * j.toNat ≤ 1000 * 1000 := Nat.mul_le_mul (by omega) (by omega)
            have : line = 16777216 := rfl
            omega
          · rw [← rep_flat]
            exact (fa.rep _).mono (Rle.refl _) (upd_le (r.none_g hp))
      · exact q.elim
    · exact q.elim
  · exact q.elim
theorem op_intD {op : Operator} {f : Int → Int → Mem → Rs KD} {r0 : R2} (h : OpR X (binaryOp op) r0)
    (k : ∀ (i j : Int) (H : Hp) (Fr : Hp) (ρ : List Addr) (G : Hp) (σs : List SV) (M : Mem) (σ : L2.St) (Q : VK), Rel W Fr ρ G σs M σ H → Aft W WW Fr (RRk W Fr) ρ G σs σ (f i j M) Q → r0 (.int i) (.int j) H Q) :
    OpR X (binaryOp op) (rO W WW fun x y M => intop (fun i j => f i j M) x y) := by
  intro pins s σ H x y v u Q I rx ry ⟨Fr, ρ, G, σs, M, τ, d, e, r, hx, hy, q⟩
  dsimp only [intop] at q
  split at q
  · rename_i i j
    have e1 := hx.int r
    have e2 := hy.int r
    subst e1 e2
    exact h pins s σ H _ _ v u Q I rx ry (k i j H Fr ρ G σs M τ Q r q)
  · exact q.elim
theorem op_bin (hK : W.K = X.K) : ∀ o : Bop, OpR X (binaryOp (opA o)) (rO W WW (binop o))
  | .add => op_addD hK
  | .mul => op_mulD hK
  | .sub => op_intD op_sub fun i j H Fr ρ G σs M σ Q r q => ⟨i, j, rfl, rfl, q.one r rfl⟩
  | .mod => op_intD op_mod fun i j H Fr ρ G σs M σ Q r q => by
    split at q
    · rename_i h; exact ⟨i, j, rfl, rfl, h, q.one r rfl⟩
    · exact q.elim
  | .fdiv => op_intD op_fdivW fun i j H Fr ρ G σs M σ Q r q => by
    split at q
    · rename_i h; exact ⟨i, j, rfl, rfl, h, q.one r rfl⟩
    · exact q.elim
  | .pow => op_intD op_pow fun i j H Fr ρ G σs M σ Q r q => by
    split at q
    · rename_i h; exact ⟨i, j, rfl, rfl, ⟨h.1, h.2.1, by omega⟩, q.one r rfl⟩
    · exact q.elim

end
/-! ### == -/
mutual
def pd : D → PyData
  | .non => .none
  | .bl b => .bool b
  | .int i => .int i
  | .str s => .str (tx s)
  | .lst ds => .list (pds ds)
  | .tup ds => .tuple (pds ds)
  | _ => .none
def pds : List D → List PyData
  | [] => []
  | d :: ds => pd d :: pds ds
end
theorem tx_beq (a b : List Nat) : (tx a == tx b) = (a == b) := by
  rw [Bool.eq_iff_iff]
  simp [tx]
theorem dp_scr {n : Nat} {ds : List D} (h : D.dp n (.scr ds) = true) : False := by cases n <;> simp [D.dp] at h
theorem dp_dct {n : Nat} {ks : List Key} {ds : List D} (h : D.dp n (.dct ks ds) = true) : False := by cases n <;> simp [D.dp] at h
theorem dp_cell {n i : Nat} (h : D.dp n (.cell i) = true) : False := by cases n <;> simp [D.dp] at h
theorem dp_ins {n : Nat} {C : Nat} {fs : List Nat} {ds : List D} (h : D.dp n (.ins C fs ds) = true) : False := by cases n <;> simp [D.dp] at h
theorem dp_exc {n : Nat} (h : D.dp n .exc = true) : False := by cases n <;> simp [D.dp] at h
theorem dp_fn {n f : Nat} (h : D.dp n (.fn f) = true) : False := by cases n <;> simp [D.dp] at h
theorem dp_dlk {n : Nat} {ks : List Key} {ds : List D} (h : D.dp n (.dlk ks ds) = true) : False := by cases n <;> simp [D.dp] at h
theorem dp_lst {n : Nat} {ds : List D} (h : D.dp n (.lst ds) = true) : ∃ m, n = m + 1 ∧ dps m ds = true := by
  cases n with
  | zero => simp [D.dp] at h
  | succ m => exact ⟨m, rfl, by simpa [D.dp] using h⟩
theorem dp_tup {n : Nat} {ds : List D} (h : D.dp n (.tup ds) = true) : ∃ m, n = m + 1 ∧ dps m ds = true := by
  cases n with
  | zero => simp [D.dp] at h
  | succ m => exact ⟨m, rfl, by simpa [D.dp] using h⟩
mutual
theorem eq_pd : ∀ (x : D) (n m : Nat) (y : D), x.dp n = true → y.dp m = true → PyData.eqv (pd x) (pd y) = x.eq y
  | .scr _, n, _, _, h, _ => (dp_scr h).elim
  | .dct _ _, n, _, _, h, _ => (dp_dct h).elim
  | .cell _, n, _, _, h, _ => (dp_cell h).elim
  | .ins _ _ _, n, _, _, h, _ => (dp_ins h).elim
  | .exc, n, _, _, h, _ => (dp_exc h).elim
  | .fn _, n, _, _, h, _ => (dp_fn h).elim
  | .dlk _ _, n, _, _, h, _ => (dp_dlk h).elim
  | .non, n, m, y, _, hy => by cases y <;> simp only [pd, PyData.eqv, D.eq] <;> first | (exact (dp_scr hy).elim) | (exact (dp_dct hy).elim) | (exact (dp_cell hy).elim) | (exact (dp_ins hy).elim) | (exact (dp_fn hy).elim) | (exact (dp_dlk hy).elim) | exact (dp_exc hy).elim
  | .bl _, n, m, y, _, hy => by cases y <;> simp only [pd, PyData.eqv, D.eq]
  | .int _, n, m, y, _, hy => by cases y <;> simp only [pd, PyData.eqv, D.eq]
  | .str _, n, m, y, _, hy => by
    cases y <;> simp only [pd, PyData.eqv, D.eq]
    exact tx_beq _ _
  | .lst xs, n, m, y, hx, hy => by
    obtain ⟨a, rfl, ha⟩ := dp_lst hx
    cases y <;> simp only [pd, PyData.eqv, D.eq]
    obtain ⟨b, rfl, hb⟩ := dp_lst hy
    exact eqs_pd _ _ _ _ ha hb
  | .tup xs, n, m, y, hx, hy => by
    obtain ⟨a, rfl, ha⟩ := dp_tup hx
    cases y <;> simp only [pd, PyData.eqv, D.eq]
    obtain ⟨b, rfl, hb⟩ := dp_tup hy
    exact eqs_pd _ _ _ _ ha hb
theorem eqs_pd : ∀ (xs : List D) (n m : Nat) (ys : List D), dps n xs = true → dps m ys = true → PyData.eqvAll (pds xs) (pds ys) = eqs xs ys
  | [], n, m, [], _, _ => by simp only [pds, PyData.eqvAll, eqs]
  | [], n, m, y :: ys, _, _ => by simp only [pds, PyData.eqvAll, eqs]
  | x :: xs, n, m, [], _, _ => by simp only [pds, PyData.eqvAll, eqs]
  | x :: xs, n, m, y :: ys, hx, hy => by
    simp only [dps, Bool.and_eq_true] at hx hy
    simp only [pds, PyData.eqvAll, eqs]
    rw [eq_pd x n m y hx.1 hy.1, eqs_pd xs n m ys hx.2 hy.2]
end
section
variable {W : Wd} {ρ : List Addr} {G H : Hp}
mutual
theorem Fz.dp (hg : Hle G H) : ∀ (n : Nat) (d : D) (v : V), d.dp n = true → Fz W ρ G d v → Dp W.K H v (pd d) ∧ (pd d).canLay0 = true ∧ (pd d).depth ≤ n + 1
  | n, .non, v, _, h => by unfold Fz at h; subst h; exact ⟨.non, by simp [pd, PyData.canLay0], by simp [pd, PyData.depth]⟩
  | n, .bl b, v, _, h => by unfold Fz at h; subst h; exact ⟨.bl b, by simp [pd, PyData.canLay0], by simp [pd, PyData.depth]⟩
  | n, .int b, v, _, h => by unfold Fz at h; subst h; exact ⟨.int b, by simp [pd, PyData.canLay0], by simp [pd, PyData.depth]⟩
  | n, .str s, v, _, h => by
    unfold Fz at h
    obtain ⟨h, o⟩ := h
    subst h
    refine ⟨.str _, ?_, by simp [pd, PyData.depth]⟩
    simp only [pd, PyData.canLay0, PyData.strOk, tx]
    simpa using o.2
  | n + 1, .lst ds, v, hd, h => by
    unfold Fz at h
    obtain ⟨a, vs, e, q, _, k⟩ := h
    subst e
    obtain ⟨h1, h2, h3⟩ := Fzs.dp hg n ds vs (by simpa [D.dp] using hd) k
    exact ⟨.lst (.of (hg _ _ q)) h1, by simpa [pd, PyData.canLay0] using h2, by simp only [pd, PyData.depth]; omega⟩
  | n + 1, .tup ds, v, hd, h => by
    unfold Fz at h
    obtain ⟨a, vs, e, q, _, k⟩ := h
    subst e
    obtain ⟨h1, h2, h3⟩ := Fzs.dp hg n ds vs (by simpa [D.dp] using hd) k
    exact ⟨.tup (hg.sqt q) h1, by simpa [pd, PyData.canLay0] using h2, by simp only [pd, PyData.depth]; omega⟩
  | 0, .lst ds, v, hd, h => by simp [D.dp] at hd
  | 0, .tup ds, v, hd, h => by simp [D.dp] at hd
  | n, .scr ds, v, hd, h => by cases n <;> simp [D.dp] at hd
  | n, .dct ks ds, v, hd, h => by cases n <;> simp [D.dp] at hd
  | n, .cell i, v, hd, h => by cases n <;> simp [D.dp] at hd
  | n, .ins C fs ds, v, hd, h => by cases n <;> simp [D.dp] at hd
  | n, .exc, v, hd, h => by cases n <;> simp [D.dp] at hd
  | n, .fn _, v, hd, h => by cases n <;> simp [D.dp] at hd
  | n, .dlk _ _, v, hd, h => by cases n <;> simp [D.dp] at hd
theorem Fzs.dp (hg : Hle G H) : ∀ (n : Nat) (ds : List D) (vs : List V), dps n ds = true → Fzs W ρ G ds vs → DpAll W.K H vs (pds ds) ∧ PyData.canLayAll0 (pds ds) = true ∧ PyData.depthAll (pds ds) ≤ n + 1
  | n, [], vs, _, h => by unfold Fzs at h; subst h; exact ⟨.nil, by simp [pds, PyData.canLayAll0], by simp [pds, PyData.depthAll]⟩
  | n, d :: ds, vs, hd, h => by
    unfold Fzs at h
    obtain ⟨v, r, e, q, k⟩ := h
    subst e
    simp only [dps, Bool.and_eq_true] at hd
    obtain ⟨h1, h2, h3⟩ := Fz.dp hg n d v hd.1 q
    obtain ⟨h4, h5, h6⟩ := Fzs.dp hg n ds r hd.2 k
    exact ⟨.cons h1 h4, by simp [pds, PyData.canLayAll0, h2, h5], by simp only [pds, PyData.depthAll]; omega⟩
end
theorem Lk.dp {d : D} {v : V} (hg : Hle G H) (h : Lk W ρ G H d v) (hd : d.dp 60 = true) : Dp W.K H v (pd d) ∧ SeqAt.shaped (pd d) = true := by
  have key : Dp W.K H v (pd d) ∧ (pd d).canLay0 = true ∧ (pd d).depth ≤ 61 := by
    cases d with
    | lst ds =>
      obtain ⟨a, vs, e, q, _, k⟩ := h
      subst e
      obtain ⟨h1, h2, h3⟩ := Fzs.dp hg 59 ds vs (by simpa [D.dp] using hd) k
      exact ⟨.lst (.of q) h1, by simpa [pd, PyData.canLay0] using h2, by simp only [pd, PyData.depth]; omega⟩
    | cell i => exact h.elim
    | dct ks ds => simp [D.dp] at hd
    | ins C fs ds => simp [D.dp] at hd
    | dlk ks ds => simp [D.dp] at hd
    | _ => exact Fz.dp (ρ := ρ) (G := G) hg 60 _ v hd h
  refine ⟨key.1, ?_⟩
  simp only [SeqAt.shaped, Bool.and_eq_true, decide_eq_true_eq]
  exact ⟨key.2.1, by omega⟩
end

section
variable {W : Wd} {ρ : List Addr} {G H : Hp} {f : Nat → D}
/-- data, some levels deep -/
def Dpd (W : Wd) (H : Hp) (n : Nat) (d : D) (v : V) : Prop := Dp W.K H v (pd d) ∧ (pd d).canLay0 = true ∧ (pd d).depth ≤ n + 1
mutual
theorem Fz.dpc (hg : Hle G H) (hf : ∀ (n i : Nat) (v : V), Fz W ρ G (.cell i) v → (f i).dp n = true → Dpd W H n (f i) v) : ∀ (n : Nat) (d : D) (v : V), (d.put f).dp n = true → Fz W ρ G d v → Dpd W H n (d.put f) v
  | n, .non, v, h, k => Fz.dp hg n _ v h k
  | n, .bl b, v, h, k => Fz.dp hg n _ v h k
  | n, .int b, v, h, k => Fz.dp hg n _ v h k
  | n, .str s, v, h, k => Fz.dp hg n _ v h k
  | n + 1, .lst ds, v, hd, h => by
    unfold Fz at h
    obtain ⟨a, vs, e, q, _, k⟩ := h
    subst e
    obtain ⟨h1, h2, h3⟩ := Fzs.dpc hg hf n ds vs (by simpa [D.dp, D.put] using hd) k
    exact ⟨.lst (.of (hg _ _ q)) h1, by simpa [pd, D.put, PyData.canLay0] using h2, by simp only [pd, D.put, PyData.depth]; omega⟩
  | n + 1, .tup ds, v, hd, h => by
    unfold Fz at h
    obtain ⟨a, vs, e, q, _, k⟩ := h
    subst e
    obtain ⟨h1, h2, h3⟩ := Fzs.dpc hg hf n ds vs (by simpa [D.dp, D.put] using hd) k
    exact ⟨.tup (hg.sqt q) h1, by simpa [pd, D.put, PyData.canLay0] using h2, by simp only [pd, D.put, PyData.depth]; omega⟩
  | 0, .lst ds, v, hd, h => by simp [D.dp, D.put] at hd
  | 0, .tup ds, v, hd, h => by simp [D.dp, D.put] at hd
  | n, .scr ds, v, hd, h => by cases n <;> simp [D.dp, D.put] at hd
  | n, .dct ks ds, v, hd, h => by cases n <;> simp [D.dp, D.put] at hd
  | n, .cell i, v, hd, h => by
    have hd : (f i).dp n = true := by simpa [D.put] using hd
    have := hf n i v h hd
    simpa [D.put] using this
  | n, .ins C fs ds, v, hd, h => by cases n <;> simp [D.dp, D.put] at hd
  | n, .exc, v, hd, h => by cases n <;> simp [D.dp, D.put] at hd
  | n, .fn _, v, hd, h => by cases n <;> simp [D.dp, D.put] at hd
  | n, .dlk _ _, v, hd, h => by cases n <;> simp [D.dp, D.put] at hd
theorem Fzs.dpc (hg : Hle G H) (hf : ∀ (n i : Nat) (v : V), Fz W ρ G (.cell i) v → (f i).dp n = true → Dpd W H n (f i) v) : ∀ (n : Nat) (ds : List D) (vs : List V), dps n (puts f ds) = true → Fzs W ρ G ds vs →
    DpAll W.K H vs (pds (puts f ds)) ∧ PyData.canLayAll0 (pds (puts f ds)) = true ∧ PyData.depthAll (pds (puts f ds)) ≤ n + 1
  | n, [], vs, _, h => by unfold Fzs at h; subst h; exact ⟨.nil, by simp [pds, puts, PyData.canLayAll0], by simp [pds, puts, PyData.depthAll]⟩
  | n, d :: ds, vs, hd, h => by
    unfold Fzs at h
    obtain ⟨v, r, e, q, k⟩ := h
    subst e
    simp only [dps, puts, Bool.and_eq_true] at hd
    obtain ⟨h1, h2, h3⟩ := Fz.dpc hg hf n d v hd.1 q
    obtain ⟨h4, h5, h6⟩ := Fzs.dpc hg hf n ds r hd.2 k
    exact ⟨.cons h1 h4, by simp [pds, puts, PyData.canLayAll0, h2, h5], by simp only [pds, puts, PyData.depthAll]; omega⟩
end
/-- a list, its items some levels deep -/
theorem Lst.dpc (hg : Hle G H) (hf : ∀ (n i : Nat) (v : V), Fz W ρ G (.cell i) v → (f i).dp n = true → Dpd W H n (f i) v) {n : Nat} {ds : List D} {a : Addr} {vs : List V} (ha : H a = some (.lst vs)) (k : Fzs W ρ G ds vs) (hd : ((D.lst ds).put f).dp n = true) : Dpd W H n ((D.lst ds).put f) (.ref a) := by
  cases n with
  | zero => simp [D.dp, D.put] at hd
  | succ n =>
    obtain ⟨h1, h2, h3⟩ := Fzs.dpc hg hf n ds vs (by simpa [D.dp, D.put] using hd) k
    exact ⟨.lst (.of ha) h1, by simpa [pd, D.put, PyData.canLay0] using h2, by simp only [pd, D.put, PyData.depth]; omega⟩
theorem Lst.dp0 (hg : Hle G H) {n : Nat} {ds : List D} {a : Addr} {vs : List V} (ha : H a = some (.lst vs)) (k : Fzs W ρ G ds vs) (hd : (D.lst ds).dp n = true) : Dpd W H n (.lst ds) (.ref a) := by
  cases n with
  | zero => simp [D.dp] at hd
  | succ n =>
    obtain ⟨h1, h2, h3⟩ := Fzs.dp hg n ds vs (by simpa [D.dp] using hd) k
    exact ⟨.lst (.of ha) h1, by simpa [pd, PyData.canLay0] using h2, by simp only [pd, PyData.depth]; omega⟩
theorem res_lst {M : Mem} {m n : Nat} {ds : List D} {a : Addr} {vs : List V} (hg : Hle G H) (hf : ∀ (m' : Nat), m = m' + 1 → ∀ (n i : Nat) (v : V), Fz W ρ G (.cell i) v → (res M m' (M.getD i .non)).dp n = true → Dpd W H n (res M m' (M.getD i .non)) v)
    (ha : H a = some (.lst vs)) (k : Fzs W ρ G ds vs) (hd : (res M m (.lst ds)).dp n = true) : Dpd W H n (res M m (.lst ds)) (.ref a) := by
  cases m with
  | zero => exact Lst.dp0 hg ha k hd
  | succ m => exact Lst.dpc hg (hf m rfl) ha k hd
/-- a shared object, put in -/
theorem res_cell {Fr : Hp} {M : Mem} (r : MRel W Fr ρ G M H) : ∀ (m n i : Nat) (v : V), Fz W ρ G (.cell i) v → (res M m (M.getD i .non)).dp n = true → Dpd W H n (res M m (M.getD i .non)) v := by
  intro m
  induction m with
  | zero =>
    intro n i v h hd
    unfold Fz at h
    obtain ⟨a, e, q⟩ := h
    subst e
    have hi : i < M.length := by rw [r.len]; exact (List.getElem?_eq_some_iff.mp q).1
    obtain ⟨ho, b1, c, _⟩ := r.mem i a M[i] q (List.getElem?_eq_getElem hi)
    have e : M.getD i .non = M[i] := by simp [List.getD, List.getElem?_eq_getElem hi]
    rw [e] at hd ⊢
    cases z : M[i] with
    | lst ds =>
      rw [z] at c hd
      obtain ⟨vs, rfl, l, k⟩ := c
      exact Lst.dp0 r.gh b1 k hd
    | dct ks ds => rw [z] at hd; cases n <;> simp [res, D.dp] at hd
    | ins C fs ds => rw [z] at hd; cases n <;> simp [res, D.dp] at hd
    | dlk ks ds => rw [z] at hd; cases n <;> simp [res, D.dp] at hd
    | _ => rw [z] at c; exact c.elim
  | succ m ih =>
    intro n i v h hd
    unfold Fz at h
    obtain ⟨a, e, q⟩ := h
    subst e
    have hi : i < M.length := by rw [r.len]; exact (List.getElem?_eq_some_iff.mp q).1
    obtain ⟨ho, b1, c, _⟩ := r.mem i a M[i] q (List.getElem?_eq_getElem hi)
    have e : M.getD i .non = M[i] := by simp [List.getD, List.getElem?_eq_getElem hi]
    rw [e] at hd ⊢
    cases z : M[i] with
    | lst ds =>
      rw [z] at c hd
      obtain ⟨vs, rfl, l, k⟩ := c
      exact Lst.dpc r.gh ih b1 k hd
    | dct ks ds => rw [z] at hd; cases n <;> simp [res, D.put, D.dp] at hd
    | ins C fs ds => rw [z] at hd; cases n <;> simp [res, D.put, D.dp] at hd
    | dlk ks ds => rw [z] at hd; cases n <;> simp [res, D.put, D.dp] at hd
    | _ => rw [z] at c; exact c.elim
theorem Lk.dpd {Fr : Hp} {M : Mem} {d : D} {v : V} (r : MRel W Fr ρ G M H) (h : Lk W ρ G H d v) (hd : (res M 4 d).dp 60 = true) : Dpd W H 60 (res M 4 d) v := by
  cases d with
  | lst ds =>
    obtain ⟨a, vs, e, q, _, k⟩ := h
    subst e
    exact Lst.dpc r.gh (res_cell r 3) q k hd
  | cell i => exact h.elim
  | dct ks ds => simp [res, D.put, D.dp] at hd
  | ins C fs ds => simp [res, D.put, D.dp] at hd
  | dlk ks ds => simp [res, D.put, D.dp] at hd
  | _ => exact Fz.dpc (ρ := ρ) (G := G) r.gh (res_cell r 3) 60 _ v hd h
theorem Lk.dpr {Fr : Hp} {M : Mem} {d : D} {v : V} (r : MRel W Fr ρ G M H) (h : Lk W ρ G H d v) (hd : (res M 4 d).dp 60 = true) : Dp W.K H v (pd (res M 4 d)) ∧ SeqAt.shaped (pd (res M 4 d)) = true := by
  have key := Lk.dpd r h hd
  refine ⟨key.1, ?_⟩
  have := key.2.2
  simp only [SeqAt.shaped, Bool.and_eq_true, decide_eq_true_eq]
  exact ⟨key.2.1, by omega⟩
end
theorem inL_pd {x : D} (hx : x.dp 60 = true) : ∀ {zs : List D}, dps 59 zs = true → ((pds zs).any fun z => PyData.eqv z (pd x)) = inL x zs
  | [], _ => rfl
  | z :: zs, h => by
    simp only [dps, Bool.and_eq_true] at h
    simp only [pds, List.any_cons, inL, eq_pd z 59 60 x h.1 hx, inL_pd hx h.2]

/-! ### comparisons -/
def cpA : Cop → CmpOp
  | .eq => .Eq | .ne => .NotEq | .lt => .Lt | .le => .LtE | .gt => .Gt | .ge => .GtE | .is => .Is | .isn => .IsNot | .isin => .In | .notin => .NotIn
theorem Aft.okB {W : Wd} {WW : WX} {Fr : Hp} {ρ : List Addr} {G : Hp} {σs : List SV} {M : Mem} {σ : L2.St} {H : Hp} {Q : VK} {o : Option Bool} (h : Aft W WW Fr (RRk W Fr) ρ G σs σ (okB o M) Q) (r : Rel W Fr ρ G σs M σ H) : ∃ b, o = some b ∧ Q (.bl b) H := by
  cases o with
  | none => exact h.elim
  | some b => exact ⟨b, rfl, h.one r rfl⟩
theorem Lk.flat {W : Wd} {ρ : List Addr} {G H : Hp} {d : D} {v : V} (h : Fz W ρ G d v) (f : d.flat = true) : flatV v = true := by
  cases d with
  | non => rw [show v = .non from h]; rfl
  | bl b => rw [show v = .bl b from h]; rfl
  | int b => rw [show v = .int b from h]; rfl
  | str b => rw [(show v = .str (tx b) ∧ OkS b from h).1]; rfl
  | _ => cases f
theorem flat_of {d : D} (f : d.flat = true) : (∃ W : V, ∀ (w : Wd) (ρ : List Addr) (G : Hp) (v : V), Fz w ρ G d v → v = W) := by
  cases d with
  | non => exact ⟨.non, fun _ _ _ _ h => h⟩
  | bl b => exact ⟨.bl b, fun _ _ _ _ h => h⟩
  | int b => exact ⟨.int b, fun _ _ _ _ h => h⟩
  | str b => exact ⟨.str (tx b), fun w ρ G v h => (show v = .str (tx b) ∧ OkS b from h).1⟩
  | _ => cases f
theorem eqV_eq {W : Wd} {ρ : List Addr} {G : Hp} {d e : D} {v u : V} (h : Fz W ρ G d v) (k : Fz W ρ G e u) (f : d.flat = true) (g : e.flat = true) : eqV v u = d.eq e := by
  cases d with
  | non =>
    rw [show v = .non from h]
    cases e with
    | non => rw [show u = .non from k]; simp only [eqV, D.eq]
    | bl b => rw [show u = .bl b from k]; simp only [eqV, D.eq]
    | int b => rw [show u = .int b from k]; simp only [eqV, D.eq]
    | str b => rw [(show u = .str (tx b) ∧ OkS b from k).1]; simp only [eqV, D.eq]
    | _ => cases g
  | bl a =>
    rw [show v = .bl a from h]
    cases e with
    | non => rw [show u = .non from k]; simp only [eqV, D.eq]
    | bl b => rw [show u = .bl b from k]; simp only [eqV, D.eq]
    | int b => rw [show u = .int b from k]; simp only [eqV, D.eq]
    | str b => rw [(show u = .str (tx b) ∧ OkS b from k).1]; simp only [eqV, D.eq]
    | _ => cases g
  | int a =>
    rw [show v = .int a from h]
    cases e with
    | non => rw [show u = .non from k]; simp only [eqV, D.eq]
    | bl b => rw [show u = .bl b from k]; simp only [eqV, D.eq]
    | int b => rw [show u = .int b from k]; simp only [eqV, D.eq]
    | str b => rw [(show u = .str (tx b) ∧ OkS b from k).1]; simp only [eqV, D.eq]
    | _ => cases g
  | str a =>
    rw [(show v = .str (tx a) ∧ OkS a from h).1]
    cases e with
    | non => rw [show u = .non from k]; simp only [eqV, D.eq]
    | bl b => rw [show u = .bl b from k]; simp only [eqV, D.eq]
    | int b => rw [show u = .int b from k]; simp only [eqV, D.eq]
    | str b => rw [(show u = .str (tx b) ∧ OkS b from k).1]; simp only [eqV, D.eq]; exact tx_beq _ _
    | _ => cases g
  | _ => cases f
theorem Fzs.flat {W : Wd} {ρ : List Addr} {G : Hp} : ∀ {ds : List D} {vs : List V}, Fzs W ρ G ds vs → ds.all D.flat = true → vs.all flatV = true
  | [], _, h, _ => by unfold Fzs at h; subst h; rfl
  | d :: ds, _, h, f => by
    unfold Fzs at h
    obtain ⟨v, r, e, q, k⟩ := h
    subst e
    simp only [List.all_cons, Bool.and_eq_true] at f ⊢
    exact ⟨Lk.flat (H := G) q f.1, k.flat f.2⟩
theorem inV_eq {W : Wd} {ρ : List Addr} {G : Hp} {x : D} {xv : V} (hx : Fz W ρ G x xv) (fx : x.flat = true) : ∀ {ds : List D} {vs : List V}, Fzs W ρ G ds vs → ds.all D.flat = true → inV xv vs = inL x ds
  | [], _, h, _ => by unfold Fzs at h; subst h; rfl
  | d :: ds, _, h, f => by
    unfold Fzs at h
    obtain ⟨v, r, e, q, k⟩ := h
    subst e
    simp only [List.all_cons, Bool.and_eq_true] at f
    have ih := inV_eq hx fx k f.2
    unfold inV at ih ⊢
    rw [List.any_cons, ih, inL, eqV_eq q hx f.1 fx]
theorem kx_inj {j k : Key} (z : kx j = kx k) : j = k := by
  cases j with
  | i a => cases k with
    | i b => injection z with z; subst z; rfl
    | s b => exact nomatch z
  | s a => cases k with
    | i b => exact nomatch z
    | s b =>
      have z : tx a = tx b := Sum.inr.inj z
      have := congrArg (fun s : Str => s.cps.toList) z
      rw [tx_cps, tx_cps] at this
      subst this; rfl
theorem OkS.key {k : Key} (h : OkK k) {W : Wd} {ρ : List Addr} {G : Hp} : Fz W ρ G (kD k) (kV (kx k)) := by
  cases k with
  | i n => exact (show _ = _ from rfl)
  | s t => exact .mkS h
theorem getK_val {W : Wd} {ρ : List Addr} {G : Hp} {k : Key} : ∀ {ks : List Key} {ds : List D} {vs : List V}, ks.length = vs.length → Fzs W ρ G ds vs → (∃ d v, getK k ks ds = some d ∧ valV ((ks.map kx).zip vs) (kx k) = some v ∧ Fz W ρ G d v) ∨ (getK k ks ds = none ∧ valV ((ks.map kx).zip vs) (kx k) = none)
  | [], ds, vs, h, f => .inr ⟨by cases ds <;> rfl, by simp [valV]⟩
  | j :: ks, [], vs, h, f => by unfold Fzs at f; subst f; simp at h
  | j :: ks, d :: ds, vs, h, f => by
    unfold Fzs at f
    obtain ⟨v, r, rfl, q, f⟩ := f
    show (∃ d' v', getK k (j :: ks) (d :: ds) = some d' ∧ valV ((kx j, v) :: ((ks.map kx).zip r)) (kx k) = some v' ∧ Fz W ρ G d' v') ∨ (getK k (j :: ks) (d :: ds) = none ∧ valV ((kx j, v) :: ((ks.map kx).zip r)) (kx k) = none)
    unfold getK
    by_cases e : j = k
    · subst e
      rw [valV_pos rfl, if_pos rfl]
      exact .inl ⟨d, v, rfl, rfl, q⟩
    · rw [valV_neg (fun z => e (kx_inj z)), if_neg e]
      exact getK_val (by simpa using h) f
theorem keyOf_val {W : Wd} {Fr : Hp} {ρ : List Addr} {G : Hp} {σs : List SV} {M : Mem} {σ : L2.St} {H : Hp} {d : D} {v : V} {k : Key} (r : Rel W Fr ρ G σs M σ H) (h : Bz W ρ G σs σ d v) (e : keyOf d = some k) : v = kV (kx k) ∧ OkK k := by
  cases d <;> simp only [keyOf, Option.some.injEq, reduceCtorEq] at e
  · subst e; exact ⟨h.int r, trivial⟩
  · subst e; exact h.str r
theorem keyOf_fz {W : Wd} {ρ : List Addr} {G : Hp} {d : D} {v : V} {k : Key} (h : Fz W ρ G d v) (e : keyOf d = some k) : v = kV (kx k) ∧ OkK k ∧ d = kD k := by
  cases d <;> simp only [keyOf, Option.some.injEq, reduceCtorEq] at e
  · subst e; exact ⟨h, trivial, rfl⟩
  · subst e; exact ⟨h.1, h.2, rfl⟩
/-- a dict that is looked at -/
theorem look_dct {W : Wd} {Fr : Hp} {ρ : List Addr} {G H : Hp} {σs : List SV} {M : Mem} {σ : L2.St} {d : D} {v : V} {ks : List Key} {ds : List D} (r : Rel W Fr ρ G σs M σ H) (b : Bz W ρ G σs σ d v) (h : dctOf d M = some (ks, ds)) : ∃ a vs, v = .ref a ∧ Rd H a (.dK ((ks.map kx).zip vs)) ∧ KsOk ks vs ∧ Fzs W ρ G ds vs := by
  have l := r.look b
  unfold dctOf at h
  split at h
  · rename_i e1
    cases h
    rw [e1] at l
    obtain ⟨a, vs, ea, ha, hl, f⟩ := l
    exact ⟨a, vs, ea, .inl ha, hl, f⟩
  · rename_i e1
    cases h
    rw [e1] at l
    obtain ⟨a, o, vs, ea, ha, hl, f⟩ := l
    exact ⟨a, vs, ea, .inr ⟨o, ha⟩, hl, f⟩
  · cases h
theorem valV_keys {k : Key} : ∀ {ks : List Key} {vs : List V}, ks.length = vs.length → (valV ((ks.map kx).zip vs) (kx k)).isSome = decide (k ∈ ks)
  | [], vs, h => by simp [valV]
  | j :: ks, [], h => by simp at h
  | j :: ks, v :: vs, h => by
    have ih := valV_keys (k := k) (ks := ks) (vs := vs) (by simpa using h)
    show (valV ((kx j, v) :: ((ks.map kx).zip vs)) (kx k)).isSome = _
    by_cases e : j = k
    · subst e
      rw [valV_pos rfl]; simp
    · rw [valV_neg (fun z => e (kx_inj z)), ih]
      have : (k = j) = False := by simp; exact fun z => e z.symm
      simp [this]
section
variable {X : Cx} {W : Wd} {WW : WX}
theorem op_isinD (hK : W.K = X.K) (hu : X.A.units + 64 < cLine) (neg : Bool) : OpR X (compareOp (if neg then .NotIn else .In)) (rO W WW fun x y M => okB ((isin x y M).map fun b => if neg then !b else b) M) := by
  intro pins s σ H x y v u Q I rx ry ⟨Fr, ρ, G, σs, M, τ, d, e, r, hx, hy, q⟩
  obtain ⟨b0, hb0, q⟩ := q.okB r
  obtain ⟨b, hb, eb⟩ := Option.map_eq_some_iff.mp hb0
  clear hb0
  subst eb
  have fin : ∀ {r1 r2 : R2}, OpR X (compareOp .In) r1 → OpR X (compareOp .NotIn) r2 → (neg = false → r1 x y H Q) → (neg = true → r2 x y H Q) → wpAny (model X.prog X.w) X.A (compareOp (if neg then .NotIn else .In) v u) (EP X pins σ Q) X.xe s := fun o1 o2 z1 z2 => by
    cases neg with
    | false => exact o1 pins s σ H x y v u Q I rx ry (z1 rfl)
    | true => exact o2 pins s σ H x y v u Q I rx ry (z2 rfl)
  unfold isin at hb
  split at hb
  · rename_i t
    obtain ⟨ey, oy⟩ := hy.str r
    split at hb
    · rename_i c
      obtain ⟨ex, ox⟩ := hx.str r
      simp only [Option.some.injEq] at hb
      subst hb
      refine fin op_in_sign op_notIn_sign (fun z => ⟨c, tx t, ex, ey, ?_⟩) (fun z => ⟨c, tx t, ex, ey, ?_⟩)
      · subst z; rw [tx_cps]; exact q
      · subst z; rw [tx_cps]; exact q
    · cases hb
  · have l := r.look hy
    have dat : ∀ {e' : D}, Lk W ρ G H e' y → isinG d e' M = some b → wpAny (model X.prog X.w) X.A (compareOp (if neg then .NotIn else .In) v u) (EP X pins σ Q) X.xe s := fun {e'} l hb => by
      unfold isinG at hb
      have lx := r.look hx
      have dctc : ∀ {zs : List D}, (res M 4 e' = .lst zs ∨ res M 4 e' = .tup zs) → dctIn (deref M d) zs = some b → wpAny (model X.prog X.w) X.A (compareOp (if neg then .NotIn else .In) v u) (EP X pins σ Q) X.xe s := fun {zs} ez hb => by
        unfold dctIn at hb
        split at hb
        · rename_i ks ds ed
          split at hb
          · rename_i hz
            simp only [Bool.and_eq_true] at hz
            simp only [Option.some.injEq] at hb
            subst hb
            rw [ed] at lx
            obtain ⟨a, vs, ea, ha, _, _⟩ := lx
            have k2 := Lk.dpd r.toMRel l (by rcases ez with ez | ez <;> (rw [ez]; exact hz.1))
            have ss : ∀ {zs : List D} {xs : List V}, (zs.all fun z => match z with
              | .str _ => true
              | _ => false) = true → DpAll W.K H xs (pds zs) → ∀ z ∈ xs, ∃ t, z = V.str t := by
              intro zs
              induction zs with
              | nil =>
                intro xs _ h z hz
                simp only [pds] at h
                cases h
                cases hz
              | cons z zs ih =>
                intro xs hs h
                simp only [pds] at h
                simp only [List.all_cons, Bool.and_eq_true] at hs
                cases h with
                | cons h1 h2 =>
                  intro y hy
                  rcases List.mem_cons.mp hy with rfl | hy
                  · cases z with
                    | str t =>
                      simp only [pd] at h1
                      cases h1
                      exact ⟨_, rfl⟩
                    | _ => simp at hs
                  · exact ih hs.2 h2 y hy
            have q : Q (.bl neg) H := by
              cases neg <;> exact q
            rcases ez with ez | ez
            · rw [ez] at k2
              have k2 := k2.1
              simp only [pd] at k2
              cases k2 with
              | lst hq hd => exact op_in_dct hu neg pins s σ H x _ v u Q I rx ry ⟨a, _, _, _, ea, .inl ha, rfl, .inl (hK ▸ hq), ss hz.2 hd, q⟩
            · rw [ez] at k2
              have k2 := k2.1
              simp only [pd] at k2
              cases k2 with
              | tup hq hd => exact op_in_dct hu neg pins s σ H x _ v u Q I rx ry ⟨a, _, _, _, ea, .inl ha, rfl, .inr (hK ▸ hq), ss hz.2 hd, q⟩
          · cases hb
        · cases hb
      split at hb
      · rename_i zs ez
        split at hb
        · rename_i hz
          simp only [Bool.and_eq_true] at hz
          simp only [Option.some.injEq] at hb
          have k1 := Lk.dpd r.toMRel lx hz.1
          have k2 := Lk.dpd r.toMRel l (by rw [ez]; exact hz.2)
          rw [ez] at k2
          obtain ⟨as, r1⟩ := Dp.reads I _ x v (hK ▸ k1.1) rx
          obtain ⟨bs, r2⟩ := Dp.reads I _ y u (hK ▸ k2.1) ry
          have hxs : PyData.canLayAll0 (pds zs) = true := by simpa [pd, PyData.canLay0] using k2.2.1
          have hroom : X.A.units + 1 + min (PyData.depthAll (pds zs)) (pd (res M 4 (deref M d))).depth < cLine := by
            have := k1.2.2
            have h2 : min (PyData.depthAll (pds zs)) (pd (res M 4 (deref M d))).depth ≤ (pd (res M 4 (deref M d))).depth := Nat.min_le_right _ _
            omega
          have ei := inL_pd hz.1 hz.2
          rw [hb] at ei
          cases neg with
          | false => exact SeqAt.in_list_reads r2 r1 hxs k1.2.1 hroom ⟨.bl _, H, I, rfl, by rw [ei]; exact q⟩
          | true => exact SeqAt.notIn_list_reads r2 r1 hxs k1.2.1 hroom ⟨.bl _, H, I, rfl, by rw [ei]; exact q⟩
        · exact dctc (.inl ez) hb
      · rename_i zs ez
        split at hb
        · rename_i hz
          simp only [Bool.and_eq_true] at hz
          simp only [Option.some.injEq] at hb
          have k1 := Lk.dpd r.toMRel lx hz.1
          have k2 := Lk.dpd r.toMRel l (by rw [ez]; exact hz.2)
          rw [ez] at k2
          obtain ⟨as, r1⟩ := Dp.reads I _ x v (hK ▸ k1.1) rx
          obtain ⟨bs, r2⟩ := Dp.reads I _ y u (hK ▸ k2.1) ry
          have hxs : PyData.canLayAll0 (pds zs) = true := by simpa [pd, PyData.canLay0] using k2.2.1
          have hroom : X.A.units + 1 + min (PyData.depthAll (pds zs)) (pd (res M 4 (deref M d))).depth < cLine := by
            have := k1.2.2
            have h2 : min (PyData.depthAll (pds zs)) (pd (res M 4 (deref M d))).depth ≤ (pd (res M 4 (deref M d))).depth := Nat.min_le_right _ _
            omega
          have ei := inL_pd hz.1 hz.2
          rw [hb] at ei
          cases neg with
          | false => exact SeqAt.in_tuple_reads r2 r1 hxs k1.2.1 hroom ⟨.bl _, H, I, rfl, by rw [ei]; exact q⟩
          | true => exact SeqAt.notIn_tuple_reads r2 r1 hxs k1.2.1 hroom ⟨.bl _, H, I, rfl, by rw [ei]; exact q⟩
        · exact dctc (.inr ez) hb
      · cases hb
    have seq : ∀ {ds : List D} {vs : List V} {a : Addr} {e' : D}, y = .ref a → (SqL X.K H a vs ∨ SqT X.K H a vs) → Fzs W ρ G ds vs → (if (d.flat && ds.all D.flat) = true then some (inL d ds) else isinG d e' M) = some b → (isinG d e' M = some b → wpAny (model X.prog X.w) X.A (compareOp (if neg then .NotIn else .In) v u) (EP X pins σ Q) X.xe s) → wpAny (model X.prog X.w) X.A (compareOp (if neg then .NotIn else .In) v u) (EP X pins σ Q) X.xe s := fun {ds vs a e'} ea ha fa hb gen => by
      split at hb
      · rename_i hf
        simp only [Bool.and_eq_true] at hf
        simp only [Option.some.injEq] at hb
        have fx : Fz W ρ G d x := hx.nob r (fun ho c => by cases d <;> first | exact c | (exact absurd hf.1 (by simp [D.flat])))
        have ei := inV_eq fx hf.1 fa hf.2
        refine fin op_in_seq op_notIn_seq (fun z => ⟨a, vs, ea, ha, Lk.flat (H := H) fx hf.1, fa.flat hf.2, ?_⟩) (fun z => ⟨a, vs, ea, ha, Lk.flat (H := H) fx hf.1, fa.flat hf.2, ?_⟩)
        · rw [ei, hb]; subst z; exact q
        · rw [ei, hb]; subst z; exact q
      · exact gen hb
    split at hb
    · rename_i ys e1
      rw [e1] at l
      have lk := l
      obtain ⟨a, vs, ea, ha, la, fa⟩ := l
      exact seq ea (.inl (.of ha)) fa hb fun hb => dat lk hb
    · rename_i ys e1
      rw [e1] at l
      have lk := l
      have l : Fz W ρ G (.tup ys) y := l
      unfold Fz at l
      obtain ⟨a, vs, ea, ha, la, fa⟩ := l
      exact seq ea (.inr (hK ▸ r.gh.sqt ha)) fa hb fun hb => dat lk hb
    · rename_i ks vs' e1
      rw [e1] at l
      obtain ⟨a, vs, ea, ha, hl, fa⟩ := l
      subst ea
      cases ry
      have dd : ∀ k : Key, x = kV (kx k) → b = decide (k ∈ ks) → wpAny (model X.prog X.w) X.A (compareOp (if neg then .NotIn else .In) v (.ref a)) (EP X pins σ Q) X.xe s := fun k ek eb => by
        have g : DGet H a x (valV ((ks.map kx).zip vs) (kx k)) := by rw [ek]; exact .k ha
        have es := valV_keys (k := k) hl.1
        rw [← eb] at es
        cases neg with
        | false => exact d_in (by omega) I g rx fun s3 I3 => ⟨.bl _, H, I3, rfl, by rw [es]; exact q⟩
        | true => exact d_notIn (by omega) I g rx fun s3 I3 => ⟨.bl _, H, I3, rfl, by rw [es]; exact q⟩
      split at hb
      · rename_i i
        simp only [Option.some.injEq] at hb
        exact dd (.i i) (hx.int r) hb.symm
      · rename_i t
        simp only [Option.some.injEq] at hb
        exact dd (.s t) (hx.str r).1 hb.symm
      · cases hb
    · cases hb
theorem isN_eq {W : Wd} {Fr : Hp} {ρ : List Addr} {G H : Hp} {σs : List SV} {M : Mem} {σ : L2.St} {d : D} {v : V} (r : Rel W Fr ρ G σs M σ H) (h : Bz W ρ G σs σ d v) : isN d = decide (v = .non) := by
  cases d with
  | non => rw [show v = .non from h.nob r (fun _ z => z)]; rfl
  | bl b => rw [h.bl r]; rfl
  | int b => rw [h.int r]; rfl
  | str b => rw [(h.str r).1]; rfl
  | _ =>
    have : ∃ a, v = .ref a := by
      rcases h with h | ⟨i, e1, e2⟩
      · unfold Fz at h
        first
          | (obtain ⟨a, vs, e, _⟩ := h; exact ⟨a, e⟩)
          | (obtain ⟨a, dx, vs, e, _⟩ := h; exact ⟨a, e⟩)
          | exact ⟨_, h⟩
          | (obtain ⟨a, e, _⟩ := h; exact ⟨a, e⟩)
          | (obtain ⟨a, _, e⟩ := h; exact ⟨a, e⟩)
      · obtain ⟨p, e3, n⟩ := r.own i _ e1
        rw [e2] at e3; cases e3; exact ⟨p, rfl⟩
    obtain ⟨a, rfl⟩ := this
    rfl
end
end VM
/-! VMS: sorted of things of one shape. -/
namespace VM
open PySem L2 PySem.Spec PyProof.Rows

/-! ### a sort by insertion is the sort -/
section
variable {α : Type} {le : α → α → Bool}
def insG (le : α → α → Bool) (x : α) : List α → List α
  | [] => [x]
  | y :: r => if le x y then x :: y :: r else y :: insG le x r
def sortG (le : α → α → Bool) : List α → List α
  | [] => []
  | x :: r => insG le x (sortG le r)
theorem insG_perm (x : α) : ∀ l, (insG le x l).Perm (x :: l)
  | [] => .refl _
  | y :: r => by
    unfold insG
    split
    · exact .refl _
    · exact ((insG_perm x r).cons y).trans (.swap _ _ _)
theorem sortG_perm : ∀ l, (sortG le l).Perm l
  | [] => .refl _
  | x :: r => (insG_perm x _).trans ((sortG_perm r).cons x)
theorem insG_pair (h : PySem.W.TotalLe le) (x : α) : ∀ l : List α, l.Pairwise (fun a b => le a b = true) → (insG le x l).Pairwise (fun a b => le a b = true)
  | [], _ => by simp [insG]
  | y :: r, p => by
    have p' := List.pairwise_cons.mp p
    unfold insG
    split
    · rename_i k
      refine List.pairwise_cons.mpr ⟨fun z hz => ?_, p⟩
      rcases List.mem_cons.mp hz with e | hz
      · rw [e]; exact k
      · exact h.trans _ _ _ k (p'.1 z hz)
    · rename_i k
      refine List.pairwise_cons.mpr ⟨fun z hz => ?_, insG_pair h x r p'.2⟩
      rcases List.mem_cons.mp ((insG_perm x r).mem_iff.mp hz) with e | hz
      · rw [e]; exact (h.total x y).resolve_left k
      · exact p'.1 z hz
theorem sortG_pair (h : PySem.W.TotalLe le) : ∀ l : List α, (sortG le l).Pairwise (fun a b => le a b = true)
  | [] => .nil
  | x :: r => insG_pair h x _ (sortG_pair h r)
theorem insG_rank (h : PySem.W.TotalLe le) (x c : α) : ∀ l : List α, (insG le x l).filter (PySem.W.sameRank le c) = (x :: l).filter (PySem.W.sameRank le c)
  | [] => rfl
  | y :: r => by
    unfold insG
    split
    · rfl
    · rename_i k
      rw [List.filter_cons, insG_rank h x c r, List.filter_cons, List.filter_cons (x := x), List.filter_cons (x := y)]
      by_cases hx : PySem.W.sameRank le c x = true
      · by_cases hy : PySem.W.sameRank le c y = true
        · exfalso
          unfold PySem.W.sameRank at hx hy
          rw [Bool.and_eq_true] at hx hy
          exact k (h.trans _ _ _ hx.2 hy.1)
        · simp [hx, hy]
      · simp [hx]
theorem sortG_rank (h : PySem.W.TotalLe le) (c : α) : ∀ l : List α, (sortG le l).filter (PySem.W.sameRank le c) = l.filter (PySem.W.sameRank le c)
  | [] => rfl
  | x :: r => by
    show (insG le x (sortG le r)).filter _ = _
    rw [insG_rank h, List.filter_cons, List.filter_cons, sortG_rank h c r]
theorem sortG_eq (h : PySem.W.TotalLe le) (l : List α) : sortG le l = l.mergeSort le := PySem.W.sort_unique h (sortG_pair h l) (sortG_rank h · l)
theorem insG_map {β : Type} {le' : β → β → Bool} (f : α → β) (x : α) : ∀ {l : List α}, (∀ y ∈ l, le' (f x) (f y) = le x y) → insG le' (f x) (l.map f) = (insG le x l).map f
  | [], _ => rfl
  | y :: r, h => by
    simp only [List.map_cons, insG]
    rw [h y List.mem_cons_self]
    split
    · rfl
    · rw [insG_map f x fun z hz => h z (List.mem_cons_of_mem _ hz)]; rfl
theorem sortG_map {β : Type} {le' : β → β → Bool} (f : α → β) : ∀ {l : List α}, (∀ x ∈ l, ∀ y ∈ l, le' (f x) (f y) = le x y) → sortG le' (l.map f) = (sortG le l).map f
  | [], _ => rfl
  | x :: r, h => by
    show insG le' (f x) (sortG le' (r.map f)) = (insG le x (sortG le r)).map f
    rw [sortG_map f fun a ha b hb => h a (List.mem_cons_of_mem _ ha) b (List.mem_cons_of_mem _ hb)]
    exact insG_map f x fun y hy => h x List.mem_cons_self y (List.mem_cons_of_mem _ ((sortG_perm r).mem_iff.mp hy))
end
theorem insD_eq (x : VM.D) : ∀ l, insD x l = insG (fun a b => !b.lt a) x l
  | [] => rfl
  | y :: r => by
    unfold insD insG
    rw [insD_eq x r]
    cases y.lt x <;> rfl
theorem sortDs_eq : ∀ l, sortDs l = sortG (fun a b : VM.D => !b.lt a) l
  | [] => rfl
  | x :: r => by unfold sortDs sortG; rw [insD_eq, sortDs_eq r]

/-! ### the order of things of one shape -/
theorem ltS_eq : ∀ s t : List Nat, ltS s t = decide (s < t)
  | s, [] => by cases s <;> simp [ltS]
  | [], b :: t => by simp [ltS]
  | a :: s, b :: t => by
    unfold ltS
    by_cases h : a = b
    · subst h
      rw [if_pos rfl, ltS_eq s t]
      simp [List.cons_lt_cons_iff]
    · rw [if_neg h]
      simp [List.cons_lt_cons_iff, h]
theorem shp1_lt : ∀ {x y : VM.D} {n : Nat}, shp1 x = some n → shp1 y = some n → PySem.W.dataLt (pd x) (pd y) = x.lt y ∧ PySem.W.alike (pd x) (pd y) = true ∧ PyData.eqv (pd x) (pd y) = x.eq y := by
  intro x y n hx hy
  cases x <;> simp only [shp1, Option.some.injEq, reduceCtorEq] at hx
  · cases y <;> simp only [shp1, Option.some.injEq, reduceCtorEq] at hy
    · simp only [pd, D.lt, PySem.W.dataLt_int, PySem.W.alike, PyData.eqv, D.eq, and_self]
    · omega
  · cases y <;> simp only [shp1, Option.some.injEq, reduceCtorEq] at hy
    · omega
    · simp only [pd, D.lt, PySem.W.dataLt_str, PySem.W.alike, PyData.eqv, D.eq, tx_cps, ltS_eq, tx_beq, and_self]
theorem shps_lt : ∀ {xs ys : List VM.D} {ns : List Nat}, shps xs = some ns → shps ys = some ns → PyProof.Rows.lexLt itemOrd (PySem.W.keyToksAll (pds xs)) (PySem.W.keyToksAll (pds ys)) = lts xs ys ∧ PySem.W.alikeAll (pds xs) (pds ys) = true
  | [], ys, ns, hx, hy => by
    simp only [shps, Option.some.injEq] at hx
    subst hx
    cases ys with
    | nil => exact ⟨by decide +kernel, rfl⟩
    | cons y ys =>
      exfalso
      simp only [shps] at hy
      split at hy <;> cases hy
  | x :: xs, ys, ns, hx, hy => by
    simp only [shps] at hx
    split at hx
    · rename_i n ns' h1 h2
      cases hx
      cases ys with
      | nil => simp [shps] at hy
      | cons y ys =>
        simp only [shps] at hy
        split at hy
        · rename_i m ms h3 h4
          simp only [Option.some.injEq, List.cons.injEq] at hy
          obtain ⟨rfl, rfl⟩ := hy
          obtain ⟨a1, a2, a3⟩ := shp1_lt h1 h3
          obtain ⟨b1, b2⟩ := shps_lt h2 h4
          simp only [pds, lts]
          refine ⟨?_, by simp only [PySem.W.alikeAll, a2, b2, Bool.and_self]⟩
          cases e : x.eq y with
          | true =>
            rw [if_pos rfl, PySem.W.dataLt_all_yes a2 (by rw [a3, e]), b1]
          | false =>
            rw [if_neg Bool.false_ne_true, PySem.W.dataLt_all_no a2 (by rw [a3, e]), a1]
        · cases hy
    · cases hx
theorem shp_lt {x y : VM.D} {s : List Nat} (hx : shp x = some s) (hy : shp y = some s) : PySem.W.dataLt (pd x) (pd y) = x.lt y ∧ PySem.W.alike (pd x) (pd y) = true := by
  cases x with
  | tup xs =>
    obtain ⟨ns, h1, e1⟩ := Option.map_eq_some_iff.mp (show (shps xs).map (0 :: ·) = some s from hx)
    subst e1
    cases y with
    | tup ys =>
      obtain ⟨ms, h2, e2⟩ := Option.map_eq_some_iff.mp (show (shps ys).map (0 :: ·) = some (0 :: ns) from hy)
      cases e2
      obtain ⟨a, b⟩ := shps_lt h1 h2
      exact ⟨by simp only [pd, D.lt, PySem.W.dataLt_tuple]; exact a, by simp only [pd, PySem.W.alike]; exact b⟩
    | _ => simp [shp, shp1] at hy
  | int i =>
    simp only [shp, shp1, Option.map_some, Option.some.injEq] at hx
    subst hx
    cases y with
    | int j => exact ⟨(shp1_lt (n := 1) rfl rfl).1, (shp1_lt (n := 1) rfl rfl).2.1⟩
    | tup ys =>
      obtain ⟨ms, h2, e2⟩ := Option.map_eq_some_iff.mp (show (shps ys).map (0 :: ·) = some [1] from hy)
      simp at e2
    | _ => simp [shp, shp1] at hy
  | str i =>
    simp only [shp, shp1, Option.map_some, Option.some.injEq] at hx
    subst hx
    cases y with
    | str j => exact ⟨(shp1_lt (n := 2) rfl rfl).1, (shp1_lt (n := 2) rfl rfl).2.1⟩
    | tup ys =>
      obtain ⟨ms, h2, e2⟩ := Option.map_eq_some_iff.mp (show (shps ys).map (0 :: ·) = some [2] from hy)
      simp at e2
    | _ => simp [shp, shp1] at hy
  | _ => simp [shp, shp1] at hx
theorem shp1_dp {d : VM.D} {n m : Nat} (h : shp1 d = some n) : d.dp m = true := by cases d <;> simp [shp1] at h <;> cases m <;> simp [D.dp]
theorem shps_dp : ∀ {ds : List VM.D} {ns : List Nat} {m : Nat}, shps ds = some ns → dps m ds = true
  | [], _, _, _ => by simp [dps]
  | d :: ds, ns, m, h => by
    simp only [shps] at h
    split at h
    · rename_i n ns' h1 h2
      simp only [dps, shp1_dp h1, shps_dp h2, Bool.and_self]
    · cases h
theorem shp_dp {d : VM.D} {s : List Nat} (h : shp d = some s) : d.dp 1 = true := by
  cases d with
  | tup ds =>
    obtain ⟨ns, h1, _⟩ := Option.map_eq_some_iff.mp (show (shps ds).map (0 :: ·) = some s from h)
    simp only [D.dp]
    exact shps_dp h1
  | int _ => simp [D.dp]
  | str _ => simp [D.dp]
  | _ => simp [shp, shp1] at h
theorem shp_kind {ds : List VM.D} {s : List Nat} (hs : s ≠ [0]) (h : ∀ d ∈ ds, shp d = some s) : PySem.W.Sortable (ds.map pd) := by
  have key : ∀ {d : VM.D}, shp d = some s → ((∃ r, s = 0 :: r) ∧ ∃ x r, pd d = .tuple (x :: r)) ∨ ((¬ ∃ r, s = 0 :: r) ∧ pd d ≠ .none ∧ ∀ xs, pd d ≠ .tuple xs) := fun {d} h => by
    cases d with
    | tup ds =>
      obtain ⟨ns, h1, e⟩ := Option.map_eq_some_iff.mp (show (shps ds).map (0 :: ·) = some s from h)
      subst e
      refine .inl ⟨⟨ns, rfl⟩, ?_⟩
      cases ds with
      | nil => simp only [shps, Option.some.injEq] at h1; subst h1; exact absurd rfl hs
      | cons x r => exact ⟨pd x, pds r, by simp [pd, pds]⟩
    | int i =>
      simp only [shp, shp1, Option.map_some, Option.some.injEq] at h
      subst h
      exact .inr ⟨fun ⟨r, e⟩ => by simp at e, by simp [pd], by simp [pd]⟩
    | str i =>
      simp only [shp, shp1, Option.map_some, Option.some.injEq] at h
      subst h
      exact .inr ⟨fun ⟨r, e⟩ => by simp at e, by simp [pd], by simp [pd]⟩
    | _ => simp [shp, shp1] at h
  by_cases z : ∃ r, s = 0 :: r
  · refine .inl fun d hd => ?_
    obtain ⟨x, hx, rfl⟩ := List.mem_map.mp hd
    rcases key (h x hx) with ⟨_, q⟩ | ⟨n, _⟩
    · exact q
    · exact absurd z n
  · refine .inr fun d hd => ?_
    obtain ⟨x, hx, rfl⟩ := List.mem_map.mp hd
    rcases key (h x hx) with ⟨n, _⟩ | ⟨_, q⟩
    · exact absurd n z
    · exact q
theorem sortD_ok {xs ys : List VM.D} (h : sortD xs = some ys) : ys = sortDs xs ∧ ∃ s, s ≠ [0] ∧ ∀ d ∈ xs, shp d = some s := by
  unfold sortD at h
  cases xs with
  | nil =>
    simp only [Option.some.injEq] at h
    exact ⟨h.symm, [1], by decide, by simp⟩
  | cons x r =>
    simp only [Bool.and_eq_true, List.all_eq_true, decide_eq_true_eq, bne_iff_ne, ne_eq] at h
    split at h
    · rename_i k
      simp only [Option.some.injEq] at h
      obtain ⟨⟨k1, k2⟩, k3⟩ := k
      obtain ⟨s, hs⟩ := Option.isSome_iff_exists.mp k1
      refine ⟨h.symm, s, fun z => k2 (by rw [hs, z]), fun d hd => ?_⟩
      rcases List.mem_cons.mp hd with e | hd
      · rw [e]; exact hs
      · rw [k3 d hd]; exact hs
    · cases h

/-! ### comparisons -/
section
variable {X : Cx} {W : Wd} {WW : WX}
theorem op_cmpG (hK : W.K = X.K) (hu : X.A.units + 64 < cLine) {op : CmpOp} {f : Int → Int → Bool} {g : VM.D → VM.D → Bool} {G : PyData → PyData → Bool} (h : OpR X (compareOp op) (rI0 fun i j => .bl (f i j)))
    (hd : ∀ {s : Shared} {E : Value → Shared → Prop} {a b : Value} {da db : PyData} {as bs : List Addr} {Q : Value → Shared → Prop}, Reads s.heap a da as → Reads s.heap b db bs → PySem.W.alike da db = true → da ≠ .none → X.A.units + min da.depth db.depth < cLine → Q (.bool (G da db)) s → wpAny (model X.prog X.w) X.A (compareOp op a b) Q E s)
    (hg : ∀ {x y : VM.D} {s : List Nat}, shp x = some s → shp y = some s → G (pd x) (pd y) = g x y) : OpR X (compareOp op) (rO W WW fun x y M => okB (cmpG f g x y) M) := by
  intro pins s σ H x y v u Q I rx ry ⟨Fr, ρ, G', σs, M, τ, d, e, r, hx, hy, q⟩
  obtain ⟨b, hb, q'⟩ := q.okB r
  clear q
  unfold cmpG at hb
  split at hb
  · rename_i i j
    simp only [Option.some.injEq] at hb
    subst hb
    exact h pins s σ H x y v u Q I rx ry ⟨i, j, hx.int r, hy.int r, q'⟩
  · rename_i xs ys
    split at hb
    · rename_i hs
      simp only [decide_eq_true_eq, Bool.and_eq_true] at hs
      simp only [Option.some.injEq] at hb
      obtain ⟨sh, e1⟩ := Option.isSome_iff_exists.mp hs.1
      have e2 : shp (.tup ys) = some sh := hs.2 ▸ e1
      have fx : Fz W ρ G' (.tup xs) x := hx.nob r (fun _ z => z)
      have fy : Fz W ρ G' (.tup ys) y := hy.nob r (fun _ z => z)
      obtain ⟨a1, a2, a3⟩ := Fz.dp r.gh 1 _ _ (shp_dp e1) fx
      obtain ⟨b1, b2, b3⟩ := Fz.dp r.gh 1 _ _ (shp_dp e2) fy
      obtain ⟨as, r1⟩ := Dp.reads I _ x v (hK ▸ a1) rx
      obtain ⟨bs, r2⟩ := Dp.reads I _ y u (hK ▸ b1) ry
      refine hd r1 r2 (shp_lt e1 e2).2 (by simp [pd]) ?_ ⟨.bl _, H, I, rfl, ?_⟩
      · have : min (pd (.tup xs)).depth (pd (.tup ys)).depth ≤ (pd (.tup xs)).depth := Nat.min_le_left _ _
        omega
      · rw [hg e1 e2, hb]; exact q'
    · cases hb
  · cases hb
theorem op_cmpD (hK : W.K = X.K) (hu : X.A.units + 64 < cLine) : ∀ o : Cop, OpR X (compareOp (cpA o)) (rO W WW fun x y M => okB (cmpop o x y M) M)
  | .lt => op_cmpG hK hu op_lt (fun ra rb h hn hu q => PySem.W.lt_data ra rb h hn hu q) fun h1 h2 => (shp_lt h1 h2).1
  | .le => op_cmpG (g := fun x y => !y.lt x) (G := fun a b => !PySem.W.dataLt b a) hK hu op_le (fun ra rb h hn hu q => PySem.W.le_data ra rb h hn hu q) fun h1 h2 => by rw [(shp_lt h2 h1).1]
  | .gt => op_cmpG hK hu op_gt (fun ra rb h hn hu q => PySem.W.gt_data ra rb h hn hu q) fun h1 h2 => (shp_lt h2 h1).1
  | .ge => op_cmpG (g := fun x y => !x.lt y) (G := fun a b => !PySem.W.dataLt a b) hK hu op_ge (fun ra rb h hn hu q => PySem.W.ge_data ra rb h hn hu q) fun h1 h2 => by rw [(shp_lt h1 h2).1]
  | .isin => by
    have h := op_isinD (WW := WW) hK hu false
    have e : (fun (x y : D) (M : Mem) => okB (cmpop .isin x y M) M) = fun x y M => okB ((isin x y M).map fun b => if false then !b else b) M := by
      funext x y M
      simp [cmpop]
    rw [e]; exact h
  | .notin => by
    have h := op_isinD (WW := WW) hK hu true
    have e : (fun (x y : D) (M : Mem) => okB (cmpop .notin x y M) M) = fun x y M => okB ((isin x y M).map fun b => if true then !b else b) M := by
      funext x y M
      simp [cmpop]
    rw [e]; exact h
  | .is => by
    intro pins s σ H x y v u Q I rx ry ⟨Fr, ρ, G, σs, M, τ, d, e, r, hx, hy, q⟩
    obtain ⟨b, hb, q⟩ := q.okB r
    simp only [cmpop] at hb
    unfold isop at hb
    split at hb
    · simp only [Option.some.injEq] at hb
      subst hb
      rw [isN_eq r hx] at q
      exact op_isN pins s σ H x y v u Q I rx ry ⟨hy.nob r (fun _ z => z), q⟩
    · cases hb
  | .isn => by
    intro pins s σ H x y v u Q I rx ry ⟨Fr, ρ, G, σs, M, τ, d, e, r, hx, hy, q⟩
    obtain ⟨b, hb, q⟩ := q.okB r
    simp only [cmpop] at hb
    unfold isop at hb
    split at hb
    · simp only [Option.map_some, Option.some.injEq] at hb
      subst hb
      rw [isN_eq r hx] at q
      exact op_notN pins s σ H x y v u Q I rx ry ⟨hy.nob r (fun _ z => z), q⟩
    · cases hb
  | .eq => by
    intro pins s σ H x y v u Q I rx ry ⟨Fr, ρ, G, σs, M, τ, d, e, r, hx, hy, q⟩
    obtain ⟨b, hb, q⟩ := q.okB r
    simp only [cmpop] at hb
    unfold eqop at hb
    split at hb
    · rename_i hd
      simp only [Bool.and_eq_true] at hd
      simp only [Option.some.injEq] at hb
      obtain ⟨h1, h2⟩ := (r.look hx).dpr r.toMRel hd.1
      obtain ⟨h3, h4⟩ := (r.look hy).dpr r.toMRel hd.2
      refine op_eqD hu pins s σ H x y v u Q I rx ry ⟨_, _, hK ▸ h1, hK ▸ h3, h2, h4, ?_⟩
      rw [eq_pd _ 60 60 _ hd.1 hd.2, hb]; exact q
    · cases hb
  | .ne => by
    intro pins s σ H x y v u Q I rx ry ⟨Fr, ρ, G, σs, M, τ, d, e, r, hx, hy, q⟩
    obtain ⟨b, hb, q⟩ := q.okB r
    simp only [cmpop] at hb
    unfold eqop at hb
    split at hb
    · rename_i hd
      simp only [Bool.and_eq_true] at hd
      simp only [Option.map_some, Option.some.injEq] at hb
      obtain ⟨h1, h2⟩ := (r.look hx).dpr r.toMRel hd.1
      obtain ⟨h3, h4⟩ := (r.look hy).dpr r.toMRel hd.2
      refine op_neD hu pins s σ H x y v u Q I rx ry ⟨_, _, hK ▸ h1, hK ▸ h3, h2, h4, ?_⟩
      rw [eq_pd _ 60 60 _ hd.1 hd.2, hb]; exact q
    · cases hb
end
/-! ### sorted(xs) -/
theorem vals_each {α : Type} (f : α → V) : ∀ {zs : List α} {us : List Value}, Vals (zs.map f) us → PySem.W.EachIs (fun u z => RelV (f z) u) us zs
  | [], us, h => by cases h; exact .nil
  | z :: zs, us, h => by
    cases h with
    | cons r1 r2 => exact .cons r1 (vals_each f r2)
theorem each_vals {α : Type} (f : α → V) : ∀ {zs : List α} {us : List Value}, PySem.W.EachIs (fun u z => RelV (f z) u) us zs → Vals (zs.map f) us
  | [], us, h => by cases h; exact .nil
  | z :: zs, us, h => by
    cases h with
    | cons r1 r2 => exact .cons r1 (each_vals f r2)
def rSortV (K : PySem.W.Frag) : List V → Hp → VK → Prop := fun vs H Q => ∃ (a : Addr) (zs : List (V × VM.D)) (s : List Nat), vs = [V.ref a] ∧ SqL K H a (zs.map (·.1)) ∧ (∀ z ∈ zs, Dp K H z.1 (pd z.2) ∧ (pd z.2).depth ≤ 60) ∧ s ≠ [0] ∧ (∀ z ∈ zs, shp z.2 = some s) ∧
  ∀ p, H p = none → Q (.ref p) (upd H p (.lst ((sortG (fun x y : V × VM.D => !y.2.lt x.2) zs).map (·.1))))
theorem cr_sortV {X : Cx} (hu : X.A.units + 64 < cLine) : CallR X (.builtin "sorted") (rSortV X.K) := by
  intro pins s σ H vs us Q I r ⟨a, zs, sh, e0, hq, hd, hs0, hs, q⟩
  subst e0
  obtain ⟨its, rv, hl, hz⟩ := I.list hq
  rw [Vals.ref1 r]
  have len : its.length = zs.length := by rw [← rv.length, List.length_map]
  have each := vals_each (fun z : V × VM.D => z.1) rv
  let hp := PySem.W.sortingHeap (PySem.W.copyHeap s.heap its) (s.heap.objs.size + 1) its
  have old : ∀ b o, s.heap.get? b = some o → hp.get? b = some o := fun b o e => PySem.W.sorting_copy_old e
  have reads : ∀ z ∈ zs, ∀ u, RelV z.1 u → ∃ as, Reads hp u (pd z.2) as := fun z hz u ru => by
    obtain ⟨as, h⟩ := Dp.reads I (pd z.2) z.1 u (hd z hz).1 ru
    exact ⟨as, Reads.keeps old h⟩
  have mem : ∀ {us : List Value} {zs' : List (V × VM.D)}, PySem.W.EachIs (fun u (z : V × VM.D) => RelV z.1 u) us zs' → (∀ z ∈ zs', z ∈ zs) → PySem.W.EachIs (fun u (d : PyData) => ∃ as, Reads hp u d as) us (zs'.map fun z => pd z.2) := by
    intro us zs' h
    induction h with
    | nil => exact fun _ => .nil
    | cons h1 _ ih => exact fun m => .cons (reads _ (m _ List.mem_cons_self) _ h1) (ih fun z hz => m z (List.mem_cons_of_mem _ hz))
  have alike : PySem.W.AllAlike (zs.map fun z => pd z.2) := by
    intro d hd' d' hd''
    obtain ⟨z, hz, rfl⟩ := List.mem_map.mp hd'
    obtain ⟨z', hz', rfl⟩ := List.mem_map.mp hd''
    exact (shp_lt (hs z hz) (hs z' hz')).2
  have kind : PySem.W.Sortable (zs.map fun z => pd z.2) := by
    have := shp_kind (ds := zs.map (·.2)) hs0 (fun d hd => by obtain ⟨z, hz, rfl⟩ := List.mem_map.mp hd; exact hs z hz)
    rwa [List.map_map] at this
  have S : PySem.W.SortsAt X.prog X.w X.A.in1.in1 { s with heap := hp } (PySem.W.dataKind hp (zs.map fun z => pd z.2)) its :=
    PySem.W.SortsAt.data (s := { s with heap := hp }) (mem each fun _ h => h) alike kind fun d hd' => by
      obtain ⟨z, hz, rfl⟩ := List.mem_map.mp hd'
      have := (hd z hz).2
      show X.A.units + 1 + 1 + _ < cLine
      omega
  refine PySem.W.sorted_vals hl.isList S (by rw [len]; have := hz; rw [List.length_map] at this; exact this) ?_
  have keys : PySem.W.EachIs (fun v (b : V × VM.D) => (PySem.W.dataKind hp (zs.map fun z => pd z.2)).keyOf v = some (PySem.W.keyToks (pd b.2))) its zs := by
    have : ∀ {us : List Value} {zs' : List (V × VM.D)}, PySem.W.EachIs (fun u (z : V × VM.D) => RelV z.1 u) us zs' → (∀ z ∈ zs', z ∈ zs) → PySem.W.EachIs (fun v (b : V × VM.D) => (PySem.W.dataKind hp (zs.map fun z => pd z.2)).keyOf v = some (PySem.W.keyToks (pd b.2))) us zs' := by
      intro us zs' h
      induction h with
      | nil => exact fun _ => .nil
      | @cons u z _ _ h1 _ ih =>
        intro m
        obtain ⟨as, rd⟩ := reads _ (m _ List.mem_cons_self) _ h1
        exact .cons (PySem.W.dataKind_some alike (List.mem_map.mpr ⟨_, m _ List.mem_cons_self, rfl⟩) rd) (ih fun z hz => m z (List.mem_cons_of_mem _ hz))
    exact this each fun _ h => h
  have out := PySem.W.sortVals_each (κ := PySem.W.dataKind hp (zs.map fun z => pd z.2)) (rev := false) (fun b : V × VM.D => PySem.W.keyToks (pd b.2)) each keys
  have es : zs.mergeSort (PySem.W.sortLe (PySem.W.dataKind hp (zs.map fun z => pd z.2)).toKeyOrd false fun b : V × VM.D => PySem.W.keyToks (pd b.2)) = sortG (fun x y : V × VM.D => !y.2.lt x.2) zs := by
    refine (sortG_eq (PySem.W.sortLe_total _ _ _) zs).symm.trans ?_
    have := sortG_map (le := fun x y : V × VM.D => !y.2.lt x.2) (le' := PySem.W.sortLe (PySem.W.dataKind hp (zs.map fun z => pd z.2)).toKeyOrd false fun b : V × VM.D => PySem.W.keyToks (pd b.2)) id (l := zs) (fun x hx y hy => by
      show (!PyProof.Rows.lexLt itemOrd (PySem.W.keyToks (pd y.2)) (PySem.W.keyToks (pd x.2))) = _
      rw [show PyProof.Rows.lexLt itemOrd (PySem.W.keyToks (pd y.2)) (PySem.W.keyToks (pd x.2)) = y.2.lt x.2 from (shp_lt (hs y hy) (hs x hx)).1])
    rwa [List.map_id, List.map_id] at this
  rw [es] at out
  have rv2 := each_vals (fun z : V × VM.D => z.1) out
  obtain ⟨ep, he'⟩ := PyProof.Rows.sortedAll_at s.heap its (PySem.W.sortVals (PySem.W.dataKind hp (zs.map fun z => pd z.2)) false its its).toArray
  have hlen : ((sortG (fun x y : V × VM.D => !y.2.lt x.2) zs).map (·.1)).length ≤ sizeLine := by
    rw [List.length_map, (sortG_perm zs).length_eq]
    rw [List.length_map] at hz
    exact hz
  exact ⟨.ref _, upd H (s.heap.objs.size + 1) (.lst _), I.laid (t' := s.toks) (fun _ _ => PyProof.Rows.sortedAll_old) (Nat.le_succ _) ⟨hlen, _, ep, rv2, he'⟩, rfl, q _ (I.hok.fresh (Nat.le_succ _))⟩
end VM
/-! VMR: sorted of a dict of texts of any size. -/
namespace VM
open PySem L2 PySem.Spec PyProof.Rows
abbrev StrE : Value → List Nat → Prop := fun u s => ∃ t, u = .str (tx s) t
theorem each_of_strs : ∀ {ss : List (List Nat)} {us : List Value}, StrsAre us (ss.map tx) → PySem.W.EachIs StrE us ss
  | [], us, h => by cases h; exact .nil
  | s :: ss, us, h => by
    cases h with
    | cons y t h => exact .cons ⟨t, rfl⟩ (each_of_strs h)
theorem strs_of_each : ∀ {us : List Value} {ss : List (List Nat)}, PySem.W.EachIs StrE us ss → StrsAre us (ss.map tx) := by
  intro us ss h
  induction h with
  | nil => exact .nil
  | cons h1 _ ih =>
    obtain ⟨t, rfl⟩ := h1
    exact .cons _ t ih
theorem strsAt : ∀ {us : List Value} {ks : List Str}, us.length = ks.length → (∀ (j : Nat) (v : Value), us[j]? = some v → ∃ y t, ks[j]? = some y ∧ v = .str y t) → StrsAre us ks
  | [], [], _, _ => .nil
  | [], _ :: _, h, _ => by simp at h
  | _ :: _, [], h, _ => by simp at h
  | u :: us, k :: ks, h, f => by
    obtain ⟨y, t, e, ev⟩ := f 0 u rfl
    have e : k = y := Option.some.inj e
    subst e
    subst ev
    exact .cons k t (strsAt (by simpa using h) fun j v hj => f (j + 1) v hj)
theorem call_sortedDL {X : Cx} (hu : X.A.units + 64 < cLine) (hcalm : X.calm = true) : CallR X (.builtin "sorted") (fun xs H Q => ∃ (a : Addr) (kvs : List (L2.Key × V)) (ss : List (List Nat)), xs = [.ref a] ∧ Rd H a (.dK kvs) ∧ kvs.map (·.1) = ss.map (fun s => Sum.inr (tx s)) ∧ ss.length ≤ sizeLine ∧
    ∀ p, H p = none → Q (.ref p) (upd H p (.lst ((sortG (fun a b : List Nat => !(ltS b a)) ss).map fun s => V.str (tx s))))) := by
  intro pins s σ H xs us Q I r q
  obtain ⟨a, kvs, ss, ex, hd, hks, hss, q⟩ := q
  subst ex
  obtain ⟨u, eu, rx⟩ := vals1 r
  subst eu
  cases rx
  obtain ⟨z, lo, vs, rel, dd⟩ := dk_rd I.hok hd
  obtain ⟨ep, hat⟩ := dd.dictAt
  have hkeys : vs.map (·.1) = (ss.map tx).map Sum.inr := by rw [rel.keys.symm.trans hks, List.map_map]; rfl
  have hl : vs.length = ss.length := by
    have e := congrArg List.length hkeys
    rw [List.length_map, List.length_map, List.length_map] at e
    exact e
  have h16 : vs.length ≤ sizeLine := by rw [hl]; exact hss
  refine Calls.call_function_entry PyProof.Rows.kind_sorted PyProof.Rows.plain_sorted PyProof.Rows.entry_sorted (PyProof.Rows.args_sorted1 _) ?_
  unfold Builtin.«sorted»
  refine wpAny_bind (m := checkCount "sorted" 1 1 _) (wpAny_pure ?_)
  refine wpAny_bind (PySem.W.kdu_collect (A := X.A.in1) (PySem.W.kdl_dict (knd := mixKind X.prog X.w) (kvs := vs) (ep := ep) lo) (I.ok.hd hcalm) hat h16 fun h' tk acc hk hacc => ?_)
  have hal : acc.toList.length = ss.length := by rw [Array.length_toList, hacc.1, hl]
  have hS : StrsAre acc.toList (ss.map tx) := strsAt (by rw [hal, List.length_map]) fun j v e => by
    obtain ⟨k, x, e1, e2⟩ := hacc.2 j v (by rw [← Array.getElem?_toList]; exact e)
    have e3 : (vs.map (·.1))[j]? = some k := by rw [List.getElem?_map, e1]; all_goals rfl
    rw [hkeys, List.getElem?_map] at e3
    cases e4 : (ss.map tx)[j]? with
    | none => rw [e4] at e3; cases e3
    | some y =>
      rw [e4] at e3
      have e5 : Sum.inr y = k := Option.some.inj e3
      subst e5
      obtain ⟨t, ev⟩ := Value.isStrOf_shape (x := y) (v := v) e2
      exact ⟨y, t, rfl, ev⟩
  have hE := each_of_strs hS
  have I1 : Inv X pins σ H { s with heap := h', toks := tk } := I.kept hk
  have hsz : acc.toList.length ≤ sizeLine := by rw [hal, ← hl]; exact h16
  refine wpAny_bind (wpAny_newList ?_ hsz)
  have hoL : (h'.push (seqObj "list" acc.toList.toArray 0)).get? h'.objs.size = some (seqObj "list" acc.toList.toArray 0) := Heap.get?_push_size _ rfl
  show wpAny _ _ _ _ _ { s with heap := h'.push (seqObj "list" acc.toList.toArray 0), toks := tk }
  let h1 := h'.push (seqObj "list" acc.toList.toArray 0)
  let hp := PySem.W.sortingHeap h1 h'.objs.size acc.toList
  have mem : ∀ {us : List Value} {zs : List (List Nat)}, PySem.W.EachIs StrE us zs → PySem.W.EachIs (fun u (d : PyData) => ∃ as, Reads hp u d as) us (zs.map fun s => pd (.str s)) := by
    intro us zs h
    induction h with
    | nil => exact .nil
    | cons h1 _ ih =>
      obtain ⟨t, rfl⟩ := h1
      exact .cons ⟨_, .str _ t⟩ ih
  have shs : ∀ s : List Nat, shp (.str s) = some [2] := fun _ => rfl
  have alike : PySem.W.AllAlike (ss.map fun s => pd (.str s)) := by
    intro d hd' d' hd''
    obtain ⟨z, hz, rfl⟩ := List.mem_map.mp hd'
    obtain ⟨z', hz', rfl⟩ := List.mem_map.mp hd''
    exact (shp_lt (shs z) (shs z')).2
  have kind : PySem.W.Sortable (ss.map fun s => pd (.str s)) := by
    have := shp_kind (ds := ss.map VM.D.str) (s := [2]) (by decide) (fun d hd => by obtain ⟨z, hz, rfl⟩ := List.mem_map.mp hd; exact shs z)
    rwa [List.map_map] at this
  have S : PySem.W.SortsAt X.prog X.w X.A.in1.in1 { s with heap := hp, toks := tk } (PySem.W.dataKind hp (ss.map fun s => pd (.str s))) acc.toList :=
    PySem.W.SortsAt.data (s := { s with heap := hp, toks := tk }) (mem hE) alike kind fun d hd' => by
      obtain ⟨z, hz, rfl⟩ := List.mem_map.mp hd'
      have : (pd (.str z)).depth ≤ 1 := by simp [pd, PyData.depth]
      show X.A.units + 1 + 1 + _ < cLine
      omega
  have keys : PySem.W.EachIs (fun v (b : List Nat) => (PySem.W.dataKind hp (ss.map fun s => pd (.str s))).keyOf v = some (PySem.W.keyToks (pd (.str b)))) acc.toList ss := by
    have : ∀ {us : List Value} {zs' : List (List Nat)}, PySem.W.EachIs StrE us zs' → (∀ z ∈ zs', z ∈ ss) → PySem.W.EachIs (fun v (b : List Nat) => (PySem.W.dataKind hp (ss.map fun s => pd (.str s))).keyOf v = some (PySem.W.keyToks (pd (.str b)))) us zs' := by
      intro us zs' h
      induction h with
      | nil => exact fun _ => .nil
      | @cons u z _ _ h1 _ ih =>
        intro m
        obtain ⟨t, rfl⟩ := h1
        exact .cons (PySem.W.dataKind_some alike (List.mem_map.mpr ⟨z, m _ List.mem_cons_self, rfl⟩) (.str _ t)) (ih fun z hz => m z (List.mem_cons_of_mem _ hz))
    exact this hE fun _ h => h
  have out := PySem.W.sortVals_each (κ := PySem.W.dataKind hp (ss.map fun s => pd (.str s))) (rev := false) (fun b : List Nat => PySem.W.keyToks (pd (.str b))) hE keys
  have es : ss.mergeSort (PySem.W.sortLe (PySem.W.dataKind hp (ss.map fun s => pd (.str s))).toKeyOrd false fun b : List Nat => PySem.W.keyToks (pd (.str b))) = sortG (fun x y : List Nat => !(ltS y x)) ss := by
    refine (sortG_eq (PySem.W.sortLe_total _ _ _) ss).symm.trans ?_
    have := sortG_map (le := fun x y : List Nat => !(ltS y x)) (le' := PySem.W.sortLe (PySem.W.dataKind hp (ss.map fun s => pd (.str s))).toKeyOrd false fun b : List Nat => PySem.W.keyToks (pd (.str b))) id (l := ss) (fun x hx y hy => by
      show (!PyProof.Rows.lexLt itemOrd (PySem.W.keyToks (pd (.str y))) (PySem.W.keyToks (pd (.str x)))) = _
      rw [show PyProof.Rows.lexLt itemOrd (PySem.W.keyToks (pd (.str y))) (PySem.W.keyToks (pd (.str x))) = (VM.D.str y).lt (.str x) from (shp_lt (shs y) (shs x)).1]
      rfl)
    rwa [List.map_id, List.map_id] at this
  rw [es] at out
  have so := strs_of_each out
  refine wpAny_bind (wpAny_holding (wpAny_call_entry PyProof.Rows.slot_list_sort ⟨_, hoL, rfl⟩ PyProof.Rows.entry_list_sort
    (PySem.W.list_sort_vals (s := { s with heap := h1, toks := tk }) hoL S hsz ⟨_, rfl, ?_⟩) (PyProof.Rows.args_list_sort _)))
  obtain ⟨e', he'⟩ := PyProof.Rows.sortedHeap_at (vs := acc.toList) (out := (PySem.W.sortVals (PySem.W.dataKind hp (ss.map fun s => pd (.str s))) false acc.toList acc.toList).toArray) hoL
  have hlen : ((sortG (fun a b : List Nat => !(ltS b a)) ss).map fun s => V.str (tx s)).length ≤ sizeLine := by
    rw [List.length_map, (sortG_perm _).length_eq, ← hl]
    exact h16
  have vr : Vals ((sortG (fun a b : List Nat => !(ltS b a)) ss).map fun s => V.str (tx s)) (PySem.W.sortVals (PySem.W.dataKind hp (ss.map fun s => pd (.str s))) false acc.toList acc.toList) := by
    have := vals_of_strs so
    rwa [List.map_map] at this
  refine wpAny_pure ⟨_, rfl, .ref h'.objs.size, upd H h'.objs.size (.lst ((sortG (fun a b : List Nat => !(ltS b a)) ss).map fun s => V.str (tx s))), I1.laid (t' := tk) (fun b u e => ?_) (Nat.le_refl _)
    (show ObjOk X.prog X.w _ _ _ (.lst _) from ⟨hlen, _, e', vr, he'⟩), rfl, q _ (I1.hok.fresh (Nat.le_refl _))⟩
  have hb : b < h'.objs.size := Heap.lt_size e
  rw [PyProof.Rows.sortedHeap_old (Nat.ne_of_lt hb) (by rw [size_push']; exact Nat.lt_succ_of_lt hb)]
  exact Heap.get?_push_of_some _ e
end VM
/-! VM3: subscripts and built-ins. -/
namespace VM
open PySem L2 PySem.Spec PyProof.Rows
section
variable {X : Cx} {W : Wd} {WW : WX}
theorem Aft.okO {W : Wd} {WW : WX} {Fr : Hp} {ρ : List Addr} {G : Hp} {σs : List SV} {M : Mem} {σ : L2.St} {Q : VK} {o : Option D} (h : Aft W WW Fr (RRk W Fr) ρ G σs σ (okO o M) Q) : ∃ d, o = some d ∧ Aft W WW Fr (RRk W Fr) ρ G σs σ (ok1 d M) Q := by
  cases o with
  | none => exact h.elim
  | some b => exact ⟨b, rfl, h⟩
theorem Aft.okI {W : Wd} {WW : WX} {Fr : Hp} {ρ : List Addr} {G : Hp} {σs : List SV} {M : Mem} {σ : L2.St} {H : Hp} {Q : VK} {o : Option Int} (h : Aft W WW Fr (RRk W Fr) ρ G σs σ (okI o M) Q) (r : Rel W Fr ρ G σs M σ H) : ∃ d, o = some d ∧ Q (.int d) H := by
  cases o with
  | none => exact h.elim
  | some b => exact ⟨b, rfl, h.one r rfl⟩
theorem Fzs.at {W : Wd} {ρ : List Addr} {G : Hp} {ds : List D} {vs : List V} {i : Int} {d : D} (h : Fzs W ρ G ds vs) (e : at? ds i = some d) : ∃ v, atI vs i = some v ∧ Fz W ρ G d v := by
  unfold at? at e
  obtain ⟨j, e1, e2⟩ := Option.bind_eq_some_iff.mp e
  obtain ⟨v, h1, h2⟩ := h.get e2
  refine ⟨v, ?_, h2⟩
  unfold atI
  have : ixN vs.length i = some j := by rw [← h.length]; exact e1
  rw [this]
  exact h1
theorem ix_dict (hu : X.A.units + 1 < cLine) : IxR X (fun x y H Q => ∃ a v, x = .ref a ∧ DGet H a y (some v) ∧ Q v H) := by
  intro value slice pins s σ H x y v u Q I rx ry ⟨a, w, ex, g, q⟩ hs
  subst ex
  cases rx
  exact PyProof.Rows.tail_any (dict_typeIs I g) PySem.F.slot_dict_getitem.lookup (d_getItem hu I g ry fun w' s3 I3 rw' => ⟨w, H, I3, rw', q⟩) hs
theorem ix_all (hK : W.K = X.K) (hu : X.A.units + 64 < cLine) : IxR X (rO W WW index) := by
  intro value slice pins s σ H x y v u Q I rx ry ⟨Fr, ρ, G, σs, M, τ, d, e, r, hx, hy, q⟩ hs
  have dd : ∀ {ks : List Key} {ds : List D} (k : Key), y = kV (kx k) → dctOf d M = some (ks, ds) → Aft W WW Fr (RRk W Fr) ρ G σs τ (okO (getK k ks ds) M) Q → wpAny (model X.prog X.w) X.A (subscriptTail value slice v u) (EP X pins σ Q) X.xe s := fun {ks ds} k ey e q => by
    obtain ⟨a, vs, ea, ha, hl, f⟩ := look_dct r hx e
    obtain ⟨d', h1, q⟩ := q.okO
    rcases getK_val (k := k) hl.1 f with ⟨d2, v2, g1, g2, g3⟩ | ⟨g1, _⟩
    · rw [h1] at g1
      cases g1
      exact ix_dict (by omega) value slice pins s σ H x y v u Q I rx ry ⟨a, v2, ea, .inl ⟨_, _, ha, ey, g2.symm⟩, q.one r g3⟩ hs
    · rw [h1] at g1; cases g1
  unfold index at q
  split at q
  · rename_i i
    have ey := hy.int r
    have l := r.look hx
    have fin : ∀ {r' : R2}, IxR X r' → r' x y H Q → wpAny (model X.prog X.w) X.A (subscriptTail value slice v u) (EP X pins σ Q) X.xe s := fun o z => o value slice pins s σ H x y v u Q I rx ry z hs
    split at q
    · rename_i xs e1
      rw [e1] at l
      obtain ⟨a, vs, ea, ha, la, fa⟩ := l
      obtain ⟨d', h1, q⟩ := q.okO
      obtain ⟨z, h2, h3⟩ := fa.at h1
      exact fin ix_list ⟨a, vs, i, z, ea, ey, .of ha, h2, q.one r h3⟩
    · rename_i xs e1
      rw [e1] at l
      have l : Fz W ρ G (.scr xs) x := l
      unfold Fz at l
      obtain ⟨a, vs, ea, ha, la, fa⟩ := l
      obtain ⟨d', h1, q⟩ := q.okO
      obtain ⟨z, h2, h3⟩ := fa.at h1
      exact fin ix_list ⟨a, vs, i, z, ea, ey, hK ▸ r.gh.sql ha, h2, q.one r h3⟩
    · rename_i xs e1
      rw [e1] at l
      have l : Fz W ρ G (.tup xs) x := l
      unfold Fz at l
      obtain ⟨a, vs, ea, ha, la, fa⟩ := l
      obtain ⟨d', h1, q⟩ := q.okO
      obtain ⟨z, h2, h3⟩ := fa.at h1
      exact fin ix_tup ⟨a, vs, i, z, ea, ey, hK ▸ r.gh.sqt ha, h2, q.one r h3⟩
    · rename_i xs e1
      rw [e1] at l
      have l : Fz W ρ G (.str xs) x := l
      unfold Fz at l
      obtain ⟨ea, oa⟩ := l
      obtain ⟨d', h1, q⟩ := q.okO
      obtain ⟨c, h2, ec⟩ := Option.map_eq_some_iff.mp h1
      subst ec
      have hc : c ∈ xs := by
        unfold at? at h2
        obtain ⟨j, e1, e2⟩ := Option.bind_eq_some_iff.mp h2
        exact List.mem_of_getElem? e2
      refine fin ix_str ⟨tx xs, i, c, ea, ey, by rw [tx_len, line_eq]; exact Nat.le_of_lt oa.1, by rw [tx_cps]; exact h2, ?_⟩
      have := q.one r (v := .str (tx [c])) (.mkS ⟨(show 1 < line by decide), fun z hz => by simp at hz; subst hz; exact oa.2 _ hc⟩)
      exact this
    · rename_i ks ds e1
      exact dd (.i i) ey (by unfold dctOf; rw [e1]) q
    · rename_i ks ds e1
      exact dd (.i i) ey (by unfold dctOf; rw [e1]) q
    · exact q.elim
  · rename_i t
    have ey := (hy.str r).1
    split at q
    · rename_i ks ds e1
      exact dd (.s t) ey (by unfold dctOf; rw [e1]) q
    · rename_i ks ds e1
      exact dd (.s t) ey (by unfold dctOf; rw [e1]) q
    · exact q.elim
  · exact q.elim

/-! ### built-ins -/
def rC (W : Wd) (WW : WX) (f : List D → Mem → Rs KD) : List V → Hp → VK → Prop := fun xs H Q => ∃ (Fr : Hp) (ρ : List Addr) (G : Hp) (σs : List SV) (M : Mem) (σ : L2.St) (ds : List D),
  Rel W Fr ρ G σs M σ H ∧ Bzs W ρ G σs σ ds xs ∧ Aft W WW Fr (RRk W Fr) ρ G σs σ (f ds M) Q
theorem Bzs.one {W : Wd} {ρ : List Addr} {G : Hp} {σs : List SV} {σ : L2.St} {d : D} {xs : List V} (h : Bzs W ρ G σs σ [d] xs) : ∃ x, xs = [x] ∧ Bz W ρ G σs σ d x := by
  unfold Bzs at h
  obtain ⟨v, r, e, b, k⟩ := h
  unfold Bzs at k
  subst k
  exact ⟨v, e, b⟩
theorem Bzs.two {W : Wd} {ρ : List Addr} {G : Hp} {σs : List SV} {σ : L2.St} {d e : D} {xs : List V} (h : Bzs W ρ G σs σ [d, e] xs) : ∃ x y, xs = [x, y] ∧ Bz W ρ G σs σ d x ∧ Bz W ρ G σs σ e y := by
  unfold Bzs at h
  obtain ⟨v, r, ex, b, k⟩ := h
  obtain ⟨y, e2, b2⟩ := k.one
  subst e2
  exact ⟨v, y, ex, b, b2⟩
theorem sumI_ints {W : Wd} {ρ : List Addr} {G : Hp} : ∀ {ds : List D} {vs : List V} {i : Int}, Fzs W ρ G ds vs → sumI ds = some i → ∃ ns : List Int, vs = ns.map V.int ∧ ns.sum = i
  | [], vs, i, h, e => by
    unfold Fzs at h
    simp only [sumI, Option.some.injEq] at e
    exact ⟨[], h, e⟩
  | d :: ds, vs, i, h, e => by
    unfold Fzs at h
    obtain ⟨v, r, ev, q, k⟩ := h
    cases d with
    | int a =>
      simp only [sumI, Option.map_eq_some_iff] at e
      obtain ⟨j, e1, e2⟩ := e
      obtain ⟨ns, h1, h2⟩ := sumI_ints k e1
      have q : v = .int a := q
      refine ⟨a :: ns, by rw [ev, q, h1]; rfl, by rw [List.sum_cons, h2, e2]⟩
    | _ => simp [sumI] at e
theorem allB_bls {W : Wd} {ρ : List Addr} {G : Hp} : ∀ {ds : List D} {vs : List V} {b : Bool}, Fzs W ρ G ds vs → allB ds = some b → ∃ bs : List Bool, vs = bs.map V.bl ∧ bs.all id = b
  | [], vs, i, h, e => by
    unfold Fzs at h
    simp only [allB, Option.some.injEq] at e
    exact ⟨[], h, e⟩
  | d :: ds, vs, i, h, e => by
    unfold Fzs at h
    obtain ⟨v, r, ev, q, k⟩ := h
    cases d with
    | bl a =>
      simp only [allB, Option.map_eq_some_iff] at e
      obtain ⟨j, e1, e2⟩ := e
      obtain ⟨ns, h1, h2⟩ := allB_bls k e1
      have q : v = .bl a := q
      refine ⟨a :: ns, by rw [ev, q, h1]; rfl, by rw [List.all_cons, h2, ← e2]; rfl⟩
    | _ => simp [allB] at e
theorem c_len (hK : W.K = X.K) : CallR X (.builtin "len") (rC W WW (pf .len)) := by
  intro pins s σ H xs us Q I rx ⟨Fr, ρ, G, σs, M, τ, ds, r, hx, q⟩
  change Aft W WW Fr (RRk W Fr) ρ G σs τ (pfLen ds M) Q at q
  unfold pfLen at q
  split at q
  · rename_i a
    obtain ⟨x, ex, bx⟩ := hx.one
    obtain ⟨i, hi, q⟩ := q.okI r
    have l := r.look bx
    have fin : ∀ {r' : List V → Hp → VK → Prop}, CallR X (.builtin "len") r' → r' xs H Q → wpAny (model X.prog X.w) X.A (PySem.call (.builtin "len") us) (EP X pins σ Q) X.xe s := fun o z => o pins s σ H xs us Q I rx z
    unfold lenD at hi
    split at hi
    · rename_i t e1
      rw [e1] at l
      have l : Fz W ρ G (.str t) x := l
      unfold Fz at l
      simp only [Option.some.injEq] at hi
      subst hi
      refine fin call_len ⟨x, t.length, ex, ?_, q⟩
      rw [l.1]
      exact ⟨by rw [tx_len, line_eq]; exact Nat.le_of_lt l.2.1, (tx_len t).symm⟩
    · rename_i t e1
      rw [e1] at l
      obtain ⟨p, vs, ea, ha, la, fa⟩ := l
      simp only [Option.some.injEq] at hi
      subst hi
      refine fin call_len ⟨x, t.length, ex, ?_, q⟩
      rw [ea]
      exact .inl ⟨vs, .of ha, fa.length⟩
    · rename_i t e1
      rw [e1] at l
      have l : Fz W ρ G (.tup t) x := l
      unfold Fz at l
      obtain ⟨p, vs, ea, ha, la, fa⟩ := l
      simp only [Option.some.injEq] at hi
      subst hi
      refine fin call_len ⟨x, t.length, ex, ?_, q⟩
      rw [ea]
      exact .inr ⟨vs, hK ▸ r.gh.sqt ha, fa.length⟩
    · rename_i t e1
      rw [e1] at l
      have l : Fz W ρ G (.scr t) x := l
      unfold Fz at l
      obtain ⟨p, vs, ea, ha, la, fa⟩ := l
      simp only [Option.some.injEq] at hi
      subst hi
      refine fin call_len ⟨x, t.length, ex, ?_, q⟩
      rw [ea]
      exact .inl ⟨vs, hK ▸ r.gh.sql ha, fa.length⟩
    · rename_i ks t e1
      rw [e1] at l
      obtain ⟨p, vs, ea, ha, hl, fa⟩ := l
      simp only [Option.some.injEq] at hi
      subst hi
      refine fin call_lenD ⟨p, _, by rw [ex, ea], ha, ?_⟩
      have : ((ks.map kx).zip vs).length = ks.length := by simp [hl.1]
      rw [this]; exact q
    · cases hi
  · exact q.elim
theorem c_abs : CallR X (.builtin "abs") (rC W WW (pf .abs)) := by
  intro pins s σ H xs us Q I rx ⟨Fr, ρ, G, σs, M, τ, ds, r, hx, q⟩
  change Aft W WW Fr (RRk W Fr) ρ G σs τ (pfAbs ds M) Q at q
  unfold pfAbs at q
  split at q
  · rename_i i
    obtain ⟨x, ex, bx⟩ := hx.one
    exact call_abs pins s σ H xs us Q I rx ⟨i, by rw [ex, bx.int r], q.one r rfl⟩
  · exact q.elim
theorem c_int : CallR X (.type "int") (rC W WW (pf .int)) := by
  intro pins s σ H xs us Q I rx ⟨Fr, ρ, G, σs, M, τ, ds, r, hx, q⟩
  change Aft W WW Fr (RRk W Fr) ρ G σs τ (pfInt ds M) Q at q
  unfold pfInt at q
  split at q
  · rename_i i
    obtain ⟨x, ex, bx⟩ := hx.one
    exact call_int1 pins s σ H xs us Q I rx (.inl ⟨i, by rw [ex, bx.int r], q.one r rfl⟩)
  · rename_i t
    obtain ⟨x, ex, bx⟩ := hx.one
    split at q
    · rename_i h
      obtain ⟨h1, h2⟩ := h
      obtain ⟨ev, oa⟩ := bx.str r
      simp only [isDg, Bool.and_eq_true, Bool.not_eq_true', List.all_eq_true, decide_eq_true_eq] at h1
      refine call_int_str pins s σ H xs us Q I rx ⟨tx t, dgv t, by rw [ex, ev], ?_, by rw [tx_len]; exact h2, q.one r rfl⟩
      rw [PySem.intText_digits (x := tx t) (by rw [tx_cps]; exact h1.2) (by rw [tx_cps]; intro z; rw [z] at h1; simp at h1) (by rw [tx_len]; omega), tx_cps]
      rfl
    · exact q.elim
  · rename_i i
    obtain ⟨x, ex, bx⟩ := hx.one
    exact call_int1 pins s σ H xs us Q I rx (.inr ⟨i, by rw [ex, bx.bl r], q.one r rfl⟩)
  · exact q.elim
theorem c_divmod : CallR X (.builtin "divmod") (rC W WW (pf .divmod)) := by
  intro pins s σ H xs us Q I rx ⟨Fr, ρ, G, σs, M, τ, ds, r, hx, q⟩
  change Aft W WW Fr (RRk W Fr) ρ G σs τ (pfDivmod ds M) Q at q
  unfold pfDivmod at q
  split at q
  · rename_i i j
    obtain ⟨x, y, ex, bx, bY⟩ := hx.two
    split at q
    · rename_i hj
      refine call_divmodW pins s σ H xs us Q I rx ⟨i, j, by rw [ex, bx.int r, bY.int r], ⟨hj.1, PyProof.noPylong_of_log2 hj.2⟩, fun p hp => q.new1 r hp ?_⟩
      unfold Fz
      exact ⟨p, _, rfl, .of upd_same, (show 2 < line by decide), .cons rfl (.cons rfl .nil)⟩
    · exact q.elim
  · exact q.elim
theorem c_sum (hK : W.K = X.K) (hc : X.calm = true) : CallR X (.builtin "sum") (rC W WW (pf .sum)) := by
  intro pins s σ H xs us Q I rx ⟨Fr, ρ, G, σs, M, τ, ds, r, hx, q⟩
  change Aft W WW Fr (RRk W Fr) ρ G σs τ (pfSum ds M) Q at q
  unfold pfSum at q
  split at q
  · rename_i a
    obtain ⟨x, ex, bx⟩ := hx.one
    have l := r.look bx
    split at q
    · rename_i t e1
      rw [e1] at l
      obtain ⟨p, vs, ea, ha, la, fa⟩ := l
      obtain ⟨i, hi, q⟩ := q.okI r
      obtain ⟨ns, h1, h2⟩ := sumI_ints fa hi
      subst h1
      exact cr_sum hc pins s σ H xs us Q I rx ⟨p, ns, by rw [ex, ea], .of ha, by rw [h2]; exact q⟩
    · exact q.elim
  · exact q.elim
theorem c_all (hK : W.K = X.K) (hc : X.calm = true) : CallR X (.builtin "all") (rC W WW (pf .all)) := by
  intro pins s σ H xs us Q I rx ⟨Fr, ρ, G, σs, M, τ, ds, r, hx, q⟩
  change Aft W WW Fr (RRk W Fr) ρ G σs τ (pfAll ds M) Q at q
  unfold pfAll at q
  split at q
  · rename_i a
    obtain ⟨x, ex, bx⟩ := hx.one
    have l := r.look bx
    split at q
    · rename_i t e1
      rw [e1] at l
      obtain ⟨p, vs, ea, ha, la, fa⟩ := l
      obtain ⟨i, hi, q⟩ := q.okB r
      obtain ⟨ns, h1, h2⟩ := allB_bls fa hi
      subst h1
      exact cr_all hc pins s σ H xs us Q I rx ⟨p, ns, by rw [ex, ea], .of ha, by rw [h2]; exact q⟩
    · exact q.elim
  · exact q.elim
theorem look_lst {W : Wd} {Fr : Hp} {ρ : List Addr} {G H : Hp} {σs : List SV} {M : Mem} {σ : L2.St} {d : D} {v : V} {xs : List D} (r : Rel W Fr ρ G σs M σ H) (b : Bz W ρ G σs σ d v) (h : lstOf d M = some xs) : ∃ a vs, v = .ref a ∧ SqL W.K H a vs ∧ xs.length < line ∧ Fzs W ρ G xs vs := by
  have l := r.look b
  unfold lstOf at h
  split at h
  · rename_i t e1
    rw [e1] at l
    cases h
    obtain ⟨p, vs, ea, ha, la, fa⟩ := l
    exact ⟨p, vs, ea, .of ha, la, fa⟩
  · rename_i t e1
    rw [e1] at l
    cases h
    have l : Fz W ρ G (.scr xs) v := l
    unfold Fz at l
    obtain ⟨p, vs, ea, ha, la, fa⟩ := l
    exact ⟨p, vs, ea, r.gh.sql ha, la, fa⟩
  · cases h
theorem look_tup {W : Wd} {Fr : Hp} {ρ : List Addr} {G H : Hp} {σs : List SV} {M : Mem} {σ : L2.St} {d : D} {v : V} {xs : List D} (r : Rel W Fr ρ G σs M σ H) (b : Bz W ρ G σs σ d v) (h : deref M d = .tup xs) : ∃ a vs, v = .ref a ∧ SqT W.K G a vs ∧ xs.length < line ∧ Fzs W ρ G xs vs := by
  have l := r.look b
  rw [h] at l
  have l : Fz W ρ G (.tup xs) v := l
  unfold Fz at l
  exact l
theorem ints_of {W : Wd} {ρ : List Addr} {G : Hp} : ∀ {ds : List D} {vs : List V} {ns : List Int}, Fzs W ρ G ds vs → intsOf ds = some ns → vs = ns.map V.int
  | [], vs, ns, h, e => by
    unfold Fzs at h
    simp only [intsOf, Option.some.injEq] at e
    rw [h, ← e]; rfl
  | d :: ds, vs, ns, h, e => by
    unfold Fzs at h
    obtain ⟨v, r, ev, q, k⟩ := h
    cases d with
    | int a =>
      simp only [intsOf, Option.map_eq_some_iff] at e
      obtain ⟨ms, e1, e2⟩ := e
      have q : v = .int a := q
      rw [ev, q, ints_of k e1, ← e2]; rfl
    | _ => simp [intsOf] at e
theorem ints_back {W : Wd} {ρ : List Addr} {G : Hp} : ∀ (ns : List Int), Fzs W ρ G (ns.map .int) (ns.map V.int)
  | [] => .nil
  | n :: ns => .cons (by unfold Fz; rfl) (ints_back ns)
theorem insI_perm (i : Int) : ∀ xs, (insI i xs).Perm (i :: xs)
  | [] => .refl _
  | j :: r => by
    unfold insI
    split
    · exact .refl _
    · exact ((insI_perm i r).cons j).trans (.swap _ _ _)
theorem sortI_perm : ∀ xs, (sortI xs).Perm xs
  | [] => .refl _
  | i :: r => (insI_perm i (sortI r)).trans ((sortI_perm r).cons i)
theorem insI_sorted (i : Int) : ∀ xs : List Int, xs.Pairwise (· ≤ ·) → (insI i xs).Pairwise (· ≤ ·)
  | [], _ => by simp [insI]
  | j :: r, h => by
    have h' := List.pairwise_cons.mp h
    unfold insI
    split
    · rename_i k
      refine List.pairwise_cons.mpr ⟨fun x hx => ?_, h⟩
      rcases List.mem_cons.mp hx with e | hx
      · rw [e]; exact k
      · exact Int.le_trans k (h'.1 x hx)
    · rename_i k
      refine List.pairwise_cons.mpr ⟨fun x hx => ?_, insI_sorted i r h'.2⟩
      rcases List.mem_cons.mp ((insI_perm i r).mem_iff.mp hx) with e | hx
      · rw [e]; omega
      · exact h'.1 x hx
theorem sortI_sorted : ∀ xs : List Int, (sortI xs).Pairwise (· ≤ ·)
  | [] => .nil
  | i :: r => insI_sorted i _ (sortI_sorted r)
theorem sorted_one : ∀ {xs ys : List Int}, xs.Perm ys → xs.Pairwise (· ≤ ·) → ys.Pairwise (· ≤ ·) → xs = ys
  | [], ys, p, _, _ => by rw [List.nil_perm.mp p]
  | x :: xs, ys, p, h1, h2 => by
    cases ys with
    | nil => exact absurd p.length_eq (by simp)
    | cons y ys =>
      have a := List.pairwise_cons.mp h1
      have b := List.pairwise_cons.mp h2
      have e : x = y := by
        have m1 : x ∈ y :: ys := p.mem_iff.mp List.mem_cons_self
        have m2 : y ∈ x :: xs := p.mem_iff.mpr List.mem_cons_self
        rcases List.mem_cons.mp m1 with e | m1
        · exact e
        · rcases List.mem_cons.mp m2 with e | m2
          · exact e.symm
          · exact Int.le_antisymm (a.1 y m2) (b.1 x m1)
      subst e
      rw [sorted_one ((List.perm_cons x).mp p) a.2 b.2]
theorem maxI_in : ∀ (i : Int) (r : List Int), maxI i r ∈ i :: r ∧ ∀ y ∈ i :: r, y ≤ maxI i r
  | i, [] => ⟨List.mem_cons_self, fun y hy => by simp at hy; rw [hy]; exact Int.le_refl _⟩
  | i, j :: r => by
    have h := maxI_in (if i < j then j else i) r
    unfold maxI
    refine ⟨?_, fun y hy => ?_⟩
    · rcases List.mem_cons.mp h.1 with e | e
      · rw [e]; split <;> simp
      · simp [e]
    · have k := h.2 _ List.mem_cons_self
      have k1 : i ≤ (if i < j then j else i) := by split <;> omega
      have k2 : j ≤ (if i < j then j else i) := by split <;> omega
      simp only [List.mem_cons] at hy
      rcases hy with rfl | rfl | hy
      · exact Int.le_trans k1 k
      · exact Int.le_trans k2 k
      · exact h.2 y (List.mem_cons_of_mem _ hy)
theorem minI_in : ∀ (i : Int) (r : List Int), minI i r ∈ i :: r ∧ ∀ y ∈ i :: r, minI i r ≤ y
  | i, [] => ⟨List.mem_cons_self, fun y hy => by simp at hy; rw [hy]; exact Int.le_refl _⟩
  | i, j :: r => by
    have h := minI_in (if j < i then j else i) r
    unfold minI
    refine ⟨?_, fun y hy => ?_⟩
    · rcases List.mem_cons.mp h.1 with e | e
      · rw [e]; split <;> simp
      · simp [e]
    · have k := h.2 _ List.mem_cons_self
      have k1 : (if j < i then j else i) ≤ i := by split <;> omega
      have k2 : (if j < i then j else i) ≤ j := by split <;> omega
      simp only [List.mem_cons] at hy
      rcases hy with rfl | rfl | hy
      · exact Int.le_trans k k1
      · exact Int.le_trans k k2
      · exact h.2 y (List.mem_cons_of_mem _ hy)
theorem keys_zip : ∀ {ks : List Key} {vs : List V}, ks.length = vs.length → (((ks.map kx).zip vs).map fun kv => kV kv.1) = ks.map fun k => kV (kx k)
  | [], _, _ => rfl
  | k :: ks, [], h => by simp at h
  | k :: ks, v :: vs, h => by
    show kV (kx k) :: (((ks.map kx).zip vs).map fun kv => kV kv.1) = _
    rw [keys_zip (by simpa using h)]; rfl
theorem keys_fz {W : Wd} {ρ : List Addr} {G : Hp} : ∀ {ks : List Key}, (∀ k ∈ ks, OkK k) → Fzs W ρ G (ks.map kD) (ks.map fun k => kV (kx k))
  | [], _ => .nil
  | k :: ks, h => .cons (OkS.key (h k List.mem_cons_self)) (keys_fz fun j hj => h j (List.mem_cons_of_mem _ hj))
theorem c_list (hK : W.K = X.K) (hc : X.calm = true) : CallR X (.type "list") (rC W WW (pf .list)) := by
  intro pins s σ H xs us Q I rx ⟨Fr, ρ, G, σs, M, τ, ds, r, hx, q⟩
  change Aft W WW Fr (RRk W Fr) ρ G σs τ (pfList ds M) Q at q
  unfold pfList at q
  split at q
  · rename_i a
    obtain ⟨x, ex, bx⟩ := hx.one
    split at q
    · rename_i t e1
      obtain ⟨p, vs, ea, ha, la, fa⟩ := look_tup r bx e1
      exact call_list_of pins s σ H xs us Q I rx ⟨p, vs, by rw [ex, ea], .inr (hK ▸ r.gh.sqt ha), fun l hl => q.new r hl ⟨vs, rfl, la, fa⟩⟩
    · rename_i ks vs0 e1
      split at q
      · rename_i hl0
        obtain ⟨p, vs, ea, ha, hl, fa⟩ := look_dct (ks := ks) (ds := vs0) r bx (by unfold dctOf; rw [e1])
        refine call_listD hc pins s σ H xs us Q I rx ⟨p, _, by rw [ex, ea], ha, fun l hl2 => ?_⟩
        have em : (((ks.map kx).zip vs).map fun kv => kV kv.1) = ks.map fun k => kV (kx k) := keys_zip hl.1
        rw [em]
        exact q.new r hl2 ⟨_, rfl, by rw [List.length_map]; exact hl0, keys_fz hl.2⟩
      · exact q.elim
    · unfold okLs at q
      split at q
      · rename_i t e1
        obtain ⟨p, vs, ea, ha, la, fa⟩ := look_lst r bx e1
        exact call_list_of pins s σ H xs us Q I rx ⟨p, vs, by rw [ex, ea], .inl (hK ▸ ha), fun l hl => q.new r hl ⟨vs, rfl, la, fa⟩⟩
      · exact q.elim
  · exact q.elim
theorem c_tuple (hK : W.K = X.K) : CallR X (.type "tuple") (rC W WW (pf .tuple)) := by
  intro pins s σ H xs us Q I rx ⟨Fr, ρ, G, σs, M, τ, ds, r, hx, q⟩
  change Aft W WW Fr (RRk W Fr) ρ G σs τ (pfTuple ds M) Q at q
  unfold pfTuple at q
  split at q
  · rename_i a
    obtain ⟨x, ex, bx⟩ := hx.one
    split at q
    · rename_i t e1
      obtain ⟨p, vs, ea, ha, la, fa⟩ := look_tup r bx e1
      refine call_tuple_of pins s σ H xs us Q I rx ⟨p, vs, by rw [ex, ea], .inr ⟨hK ▸ r.gh.sqt ha, q.one r ?_⟩⟩
      unfold Fz
      exact ⟨p, vs, rfl, ha, la, fa⟩
    · split at q
      · rename_i t e1
        obtain ⟨p, vs, ea, ha, la, fa⟩ := look_lst r bx e1
        refine call_tuple_of pins s σ H xs us Q I rx ⟨p, vs, by rw [ex, ea], .inl ⟨hK ▸ ha, fun l hl => q.new1 r hl ?_⟩⟩
        unfold Fz
        exact ⟨l, vs, rfl, .of upd_same, la, fa.mono (Rle.refl _) (upd_le (r.none_g hl))⟩
      · exact q.elim
  · exact q.elim
theorem Fzs.zipped {W : Wd} {ρ : List Addr} {G : Hp} : ∀ {ds : List D} {vs : List V}, Fzs W ρ G ds vs → ∃ zs : List (V × D), vs = zs.map (·.1) ∧ ds = zs.map (·.2) ∧ ∀ z ∈ zs, Fz W ρ G z.2 z.1
  | [], _, h => by unfold Fzs at h; subst h; exact ⟨[], rfl, rfl, by simp⟩
  | d :: ds, _, h => by
    unfold Fzs at h
    obtain ⟨v, r, rfl, q, k⟩ := h
    obtain ⟨zs, e1, e2, e3⟩ := k.zipped
    exact ⟨(v, d) :: zs, by rw [e1]; rfl, by rw [e2]; rfl, fun z hz => (List.mem_cons.mp hz).elim (fun e => by rw [e]; exact q) (e3 z)⟩
theorem Fzs.unzip {W : Wd} {ρ : List Addr} {G : Hp} : ∀ {zs : List (V × D)}, (∀ z ∈ zs, Fz W ρ G z.2 z.1) → Fzs W ρ G (zs.map (·.2)) (zs.map (·.1))
  | [], _ => .nil
  | z :: zs, h => .cons (h z List.mem_cons_self) (Fzs.unzip fun y hy => h y (List.mem_cons_of_mem _ hy))
def dV : D → V
  | .int i => .int i
  | .str s => .str (tx s)
  | _ => .non
theorem dV_k (k : Key) : dV (kD k) = kV (kx k) := by cases k <;> rfl
theorem keys_kind {ks : List Key} {s : List Nat} (h : ∀ d ∈ ks.map kD, shp d = some s) : (∃ is : List Int, ks = is.map Key.i) ∨ ∃ ss : List (List Nat), ks = ss.map Key.s := by
  have one : ∀ {k : Key}, shp (kD k) = some s → (s = [1] ∧ ∃ i, k = .i i) ∨ (s = [2] ∧ ∃ t, k = .s t) := fun {k} h => by
    cases k with
    | i n => simp only [kD, shp, shp1, Option.map_some, Option.some.injEq] at h; exact .inl ⟨h.symm, n, rfl⟩
    | s n => simp only [kD, shp, shp1, Option.map_some, Option.some.injEq] at h; exact .inr ⟨h.symm, n, rfl⟩
  by_cases z : s = [1]
  · refine .inl ?_
    induction ks with
    | nil => exact ⟨[], rfl⟩
    | cons k ks ih =>
      obtain ⟨is, e⟩ := ih fun d hd => h d (by rw [List.map_cons]; exact List.mem_cons_of_mem _ hd)
      rcases one (h (kD k) (by rw [List.map_cons]; exact List.mem_cons_self)) with ⟨_, i, rfl⟩ | ⟨e2, _⟩
      · exact ⟨i :: is, by rw [e]; rfl⟩
      · rw [z] at e2; cases e2
  · refine .inr ?_
    induction ks with
    | nil => exact ⟨[], rfl⟩
    | cons k ks ih =>
      obtain ⟨is, e⟩ := ih fun d hd => h d (by rw [List.map_cons]; exact List.mem_cons_of_mem _ hd)
      rcases one (h (kD k) (by rw [List.map_cons]; exact List.mem_cons_self)) with ⟨e2, _⟩ | ⟨_, i, rfl⟩
      · exact absurd e2 z
      · exact ⟨i :: is, by rw [e]; rfl⟩
/-- two sorted rows of the same things are one -/
theorem pair_one {α : Type} {R : α → α → Prop} (anti : ∀ a b, R a b → R b a → a = b) : ∀ {xs ys : List α}, xs.Perm ys → xs.Pairwise R → ys.Pairwise R → xs = ys
  | [], ys, p, _, _ => by rw [List.nil_perm.mp p]
  | x :: xs, ys, p, h1, h2 => by
    cases ys with
    | nil => exact absurd p.length_eq (by simp)
    | cons y ys =>
      have a := List.pairwise_cons.mp h1
      have b := List.pairwise_cons.mp h2
      have e : x = y := by
        have m1 : x ∈ y :: ys := p.mem_iff.mp List.mem_cons_self
        have m2 : y ∈ x :: xs := p.mem_iff.mpr List.mem_cons_self
        rcases List.mem_cons.mp m1 with e | m1
        · exact e
        · rcases List.mem_cons.mp m2 with e | m2
          · exact e.symm
          · exact anti _ _ (a.1 y m2) (b.1 x m1)
      subst e
      rw [pair_one anti ((List.perm_cons x).mp p) a.2 b.2]
theorem sorted_ints {ns is : List Int} (pm : ns.Perm is) (so : ns.Pairwise (· ≤ ·)) : ns.map V.int = (sortDs (is.map (kD ∘ Key.i))).map dV := by
  have tot : PySem.W.TotalLe fun a b : Int => !(decide (b < a)) := ⟨fun a b c h1 h2 => by simp at h1 h2 ⊢; omega, fun a b => by simp; omega⟩
  have e1 : sortDs (is.map (kD ∘ Key.i)) = (sortG (fun a b : Int => !(decide (b < a))) is).map (kD ∘ Key.i) := by
    rw [sortDs_eq]
    exact sortG_map _ fun _ _ _ _ => rfl
  have e2 : ns = sortG (fun a b : Int => !(decide (b < a))) is := by
    refine pair_one (R := fun a b : Int => a ≤ b) (fun a b h1 h2 => Int.le_antisymm h1 h2) (pm.trans (sortG_perm is).symm) so ?_
    exact (sortG_pair tot is).imp fun h => by simp at h; exact h
  rw [e1, List.map_map, ← e2]; rfl
theorem risingS_pair : ∀ {p : Str} {l : List Str}, risingS p l = true → (p :: l).Pairwise (fun a b => a.cps.toList ≤ b.cps.toList)
  | p, [], _ => List.pairwise_singleton _ _
  | p, x :: r, h => by
    simp only [risingS, Bool.and_eq_true, Bool.not_eq_true', ltCps_eq, decide_eq_false_iff_not, List.not_lt] at h
    have ih := risingS_pair h.2
    refine List.pairwise_cons.mpr ⟨fun z hz => ?_, ih⟩
    rcases List.mem_cons.mp hz with e | hz
    · rw [e]; exact h.1
    · exact List.le_trans h.1 ((List.pairwise_cons.mp ih).1 z hz)
theorem sortedS_pair : ∀ {l : List Str}, sortedS l = true → l.Pairwise (fun a b => a.cps.toList ≤ b.cps.toList)
  | [], _ => .nil
  | x :: r, h => risingS_pair h
theorem sorted_strs {ns : List Str} {ss : List (List Nat)} (pm : ns.Perm (ss.map tx)) (so : sortedS ns = true) : ns.map V.str = (sortDs (ss.map (kD ∘ Key.s))).map dV := by
  have tot : PySem.W.TotalLe fun a b : List Nat => !(ltS b a) := ⟨fun a b c h1 h2 => by
    simp only [ltS_eq, Bool.not_eq_true', decide_eq_false_iff_not, List.not_lt] at h1 h2 ⊢
    exact List.le_trans h1 h2, fun a b => by
    simp only [ltS_eq, Bool.not_eq_true', decide_eq_false_iff_not, List.not_lt]
    exact List.le_total a b⟩
  have e1 : sortDs (ss.map (kD ∘ Key.s)) = (sortG (fun a b : List Nat => !(ltS b a)) ss).map (kD ∘ Key.s) := by
    rw [sortDs_eq]
    exact sortG_map _ fun _ _ _ _ => rfl
  have e2 : ns = (sortG (fun a b : List Nat => !(ltS b a)) ss).map tx := by
    refine pair_one (R := fun a b : Str => a.cps.toList ≤ b.cps.toList) (fun a b h1 h2 => PySem.W.str_of_cps (List.le_antisymm h1 h2)) (pm.trans ((sortG_perm ss).map tx).symm) (sortedS_pair so) ?_
    rw [List.pairwise_map]
    exact (sortG_pair tot ss).imp fun h => by
      simp only [ltS_eq, Bool.not_eq_true', decide_eq_false_iff_not, List.not_lt] at h
      rw [tx_cps, tx_cps]; exact h
  rw [e1, List.map_map, e2, List.map_map]; rfl
theorem sort_call (hK : W.K = X.K) (hu : X.A.units + 64 < cLine) {Fr : Hp} {ρ : List Addr} {G : Hp} {σs : List SV} {M : Mem} {τ : L2.St} {pins : List (Addr × Obj)} {s : Shared} {σ : L2.St} {H : Hp} {us : List Value} {Q : VK} {xs ys : List D} {vs : List V} {p : Addr} (I : L2.Inv X pins σ H s) (r : Rel W Fr ρ G σs M τ H) (rx : L2.Vals [V.ref p] us) (ha : SqL X.K H p vs) (fa : Fzs W ρ G xs vs) (hl : xs.length < line) (e : sortD xs = some ys) (q : Aft W WW Fr (RRk W Fr) ρ G σs τ (okn (.lst ys) M) Q) :
    wpAny (model X.prog X.w) X.A (PySem.call (.builtin "sorted") us) (EP X pins σ Q) X.xe s := by
  obtain ⟨ey, sh, hs0, hs⟩ := sortD_ok e
  obtain ⟨zs, e1, e2, e3⟩ := fa.zipped
  have key : ∀ z ∈ zs, shp z.2 = some sh := fun z hz => hs z.2 (by rw [e2]; exact List.mem_map.mpr ⟨z, hz, rfl⟩)
  refine cr_sortV hu pins s σ H _ us Q I rx ⟨p, zs, sh, rfl, by rw [← e1]; exact ha, fun z hz => ?_, hs0, key, fun l hl2 => ?_⟩
  · obtain ⟨a, _, b⟩ := Fz.dp r.gh 1 z.2 z.1 (shp_dp (key z hz)) (e3 z hz)
    exact ⟨hK ▸ a, by omega⟩
  · have em : ys = (sortG (fun x y : V × D => !y.2.lt x.2) zs).map (·.2) := by
      rw [ey, sortDs_eq, e2]
      exact sortG_map (fun z : V × D => z.2) fun _ _ _ _ => rfl
    refine q.new r hl2 ⟨_, rfl, ?_, ?_⟩
    · rw [ey, sortDs_eq, (sortG_perm xs).length_eq]; exact hl
    · rw [em]; exact Fzs.unzip fun z hz => e3 z ((sortG_perm zs).mem_iff.mp hz)
theorem c_sorted (hK : W.K = X.K) (hu : X.A.units + 64 < cLine) (hc : X.calm = true) : CallR X (.builtin "sorted") (rC W WW (pf .sorted)) := by
  intro pins s σ H xs us Q I rx ⟨Fr, ρ, G, σs, M, τ, ds, r, hx, q⟩
  change Aft W WW Fr (RRk W Fr) ρ G σs τ (pfSorted ds M) Q at q
  unfold pfSorted at q
  split at q
  · rename_i a
    obtain ⟨x, ex, bx⟩ := hx.one
    split at q
    · rename_i ks vs0 e1
      split at q
      · rename_i h64
        have h4k : ks.length < 4000 := by
          simp only [Bool.or_eq_true, Bool.and_eq_true, decide_eq_true_eq] at h64
          omega
        cases h2 : sortD (ks.map kD) with
        | none => rw [h2] at q; exact q.elim
        | some ys =>
          rw [h2] at q
          obtain ⟨p, vs, ea, ha, hl, fa⟩ := look_dct (ks := ks) (ds := vs0) r bx (by unfold dctOf; rw [e1])
          obtain ⟨ey, sh, hs0, hs⟩ := sortD_ok h2
          have em : (((ks.map kx).zip vs).map (·.1)) = ks.map kx := List.map_fst_zip (by rw [List.length_map, hl.1]; exact Nat.le_refl _)
          have out : ∀ l : Addr, H l = none → Fzs W ρ G ys (ys.map dV) → Q (.ref l) (upd H l (.lst (ys.map dV))) := fun l hl2 f =>
            q.new r hl2 ⟨_, rfl, by rw [ey, sortDs_eq, (sortG_perm _).length_eq, List.length_map]; have : line = 2 ^ 24 := rfl; omega, f⟩
          have mem : ∀ y ∈ ys, ∃ k ∈ ks, y = kD k := fun y hy => by
            rw [ey, sortDs_eq] at hy
            obtain ⟨k, hk, e⟩ := List.mem_map.mp ((sortG_perm _).mem_iff.mp hy)
            exact ⟨k, hk, e.symm⟩
          have fz : Fzs W ρ G ys (ys.map dV) := by
            have : ∀ {l : List D}, (∀ y ∈ l, ∃ k ∈ ks, y = kD k) → Fzs W ρ G l (l.map dV) := by
              intro l
              induction l with
              | nil => exact fun _ => .nil
              | cons y l ih =>
                intro h
                obtain ⟨k, hk, e⟩ := h y List.mem_cons_self
                refine .cons ?_ (ih fun z hz => h z (List.mem_cons_of_mem _ hz))
                rw [e, dV_k]
                exact OkS.key (hl.2 k hk)
            exact this mem
          have ev : us.length = 1 := by rw [← rx.length, ex]; rfl
          rcases keys_kind hs with ⟨is, e3⟩ | ⟨ss, e3⟩
          · have h64 : is.length < 64 := by
              simp only [Bool.or_eq_true, Bool.and_eq_true, decide_eq_true_eq] at h64
              rw [e3, List.length_map] at h64
              rcases h64 with h | ⟨_, h⟩
              · exact h
              · cases is with
                | nil => decide
                | cons i r => simp [Key.isS] at h
            refine call_sortedDI hc pins s σ H xs us Q I rx ⟨p, _, is, by rw [ex, ea], ha, by rw [em, e3, List.map_map]; rfl, h64, fun ns l pm so hl2 => ?_⟩
            have : ns.map V.int = ys.map dV := by
              rw [ey, e3, List.map_map]
              exact sorted_ints pm so
            rw [this]
            exact out l hl2 fz
          · refine call_sortedDL hu hc pins s σ H xs us Q I rx ⟨p, _, ss, by rw [ex, ea], ha, by rw [em, e3, List.map_map]; rfl, by
              have h4 : ks.length < 4000 := by
                simp only [Bool.or_eq_true, Bool.and_eq_true, decide_eq_true_eq] at h64
                omega
              rw [e3, List.length_map] at h4
              have : sizeLine = 16777216 := by rw [sizeLine_eq]
              omega, fun l hl2 => ?_⟩
            have : ((sortG (fun a b : List Nat => !(ltS b a)) ss).map fun s => V.str (tx s)) = ys.map dV := by
              rw [ey, e3, List.map_map, sortDs_eq, sortG_map (le := fun a b : List Nat => !(ltS b a)) (kD ∘ Key.s) fun _ _ _ _ => rfl, List.map_map]; rfl
            rw [this]
            exact out l hl2 fz
      · exact q.elim
    · cases h1 : lstOf a M with
      | none => rw [h1] at q; exact q.elim
      | some zs =>
        rw [h1] at q
        cases h2 : sortD zs with
        | none => simp only [Option.bind, h2] at q; exact q.elim
        | some ys =>
          simp only [Option.bind, h2] at q
          obtain ⟨p, vs, ea, ha, la, fa⟩ := look_lst r bx h1
          subst ea
          rw [ex] at rx
          exact sort_call hK hu I r rx (hK ▸ ha) fa la h2 q
  · exact q.elim
theorem c_max (hK : W.K = X.K) (hc : X.calm = true) : CallR X (.builtin "max") (rC W WW (pf .max)) := by
  intro pins s σ H xs us Q I rx ⟨Fr, ρ, G, σs, M, τ, ds, r, hx, q⟩
  change Aft W WW Fr (RRk W Fr) ρ G σs τ (pfMax ds M) Q at q
  unfold pfMax at q
  split at q
  · rename_i i j
    obtain ⟨x, y, ex, bx, bY⟩ := hx.two
    exact call_max2 hc pins s σ H xs us Q I rx ⟨i, j, by rw [ex, bx.int r, bY.int r], q.one r rfl⟩
  · rename_i a
    obtain ⟨x, ex, bx⟩ := hx.one
    cases h1 : lstOf a M with
    | none => rw [h1] at q; exact q.elim
    | some ys =>
      rw [h1] at q
      cases h2 : intsOf ys with
      | none => simp only [Option.bind, h2] at q; exact q.elim
      | some ns =>
        simp only [Option.bind, h2] at q
        obtain ⟨p, vs, ea, ha, la, fa⟩ := look_lst r bx h1
        have ev := ints_of fa h2
        subst ev
        cases ns with
        | nil => exact q.elim
        | cons i rr =>
          refine cr_max hc pins s σ H xs us Q I rx ⟨p, i :: rr, by rw [ex, ea], hK ▸ ha, by simp, fun m hm hy => ?_⟩
          have k := maxI_in i rr
          have e : m = maxI i rr := Int.le_antisymm (k.2 m hm) (hy _ k.1)
          subst e
          exact q.one r rfl
  · exact q.elim
theorem c_min (hK : W.K = X.K) (hc : X.calm = true) : CallR X (.builtin "min") (rC W WW (pf .min)) := by
  intro pins s σ H xs us Q I rx ⟨Fr, ρ, G, σs, M, τ, ds, r, hx, q⟩
  change Aft W WW Fr (RRk W Fr) ρ G σs τ (pfMin ds M) Q at q
  unfold pfMin at q
  split at q
  · rename_i i j
    obtain ⟨x, y, ex, bx, bY⟩ := hx.two
    exact call_min2 hc pins s σ H xs us Q I rx ⟨i, j, by rw [ex, bx.int r, bY.int r], q.one r rfl⟩
  · rename_i a
    obtain ⟨x, ex, bx⟩ := hx.one
    cases h1 : lstOf a M with
    | none => rw [h1] at q; exact q.elim
    | some ys =>
      rw [h1] at q
      cases h2 : intsOf ys with
      | none => simp only [Option.bind, h2] at q; exact q.elim
      | some ns =>
        simp only [Option.bind, h2] at q
        obtain ⟨p, vs, ea, ha, la, fa⟩ := look_lst r bx h1
        have ev := ints_of fa h2
        subst ev
        cases ns with
        | nil => exact q.elim
        | cons i rr =>
          refine cr_min hc pins s σ H xs us Q I rx ⟨p, i :: rr, by rw [ex, ea], hK ▸ ha, by simp, fun m hm hy => ?_⟩
          have k := minI_in i rr
          have e : m = minI i rr := Int.le_antisymm (hy _ k.1) (k.2 m hm)
          subst e
          exact q.one r rfl
  · exact q.elim
end
end VM
/-! VH: walks, targets and comprehensions, an exception handled or not, an exception let out or not. -/
namespace VM
open PySem L2 PySem.Spec PyProof.Rows
/-- nothing is handled, or an exception that has no context -/
def Qt (A : Around) (h : Heap) : Prop := A.handled = none ∨ ∃ x1, HotX.HotAt A x1 h
def CalmH (X : Cx) : Prop := X.calm = true ∨ L2H.HotC X
section
variable {prog : Program} {w : World} {A : Around} {E : Value → Shared → Prop} {s : Shared}
theorem CalmH.qt {X : Cx} {pins : List (Addr × Obj)} {σ : L2.St} {H : Hp} (c : CalmH X) (I : Inv X pins σ H s) : Qt X.A s.heap := c.elim (fun z => .inl (I.ok.hd z)) fun z => .inr (z.at I)
theorem Qt.to {h h' : Heap} (q : Qt A h) (k : ∀ b o vs, h.get? b = some o → o.data = .fields vs → 2 < vs.size → h'.get? b = some o) : Qt A h' := by
  rcases q with q | ⟨x1, hh, o, vs, e, d, c⟩
  · exact .inl q
  · exact .inr ⟨x1, hh, o, vs, k _ _ _ e d (Array.getElem?_eq_some_iff.mp c).1, d, c⟩
/-- something just made is raised -/
theorem raise_q {α : Type} {h0 : Heap} {a : Addr} {oe : Obj} {vs : Array Value} {Q : α → Shared → Prop} (q : Qt A h0) (k : ∀ b o vs, h0.get? b = some o → o.data = .fields vs → 2 < vs.size → s.heap.get? b = some o) (na : h0.get? a = none)
    (ha : s.heap.get? a = some oe) (da : oe.data = .fields vs) (hi : 2 < vs.size)
    (hE : ∀ h' oe', (∀ b, b ≠ a → h'.get? b = s.heap.get? b) → h'.get? a = some oe' → oe'.cls = oe.cls → E (.ref a) { s with heap := h' }) : wpAny (model prog w) A (raiseNew (.ref a) : Sem α) Q E s := by
  rcases q with q | ⟨x1, hot⟩
  · unfold raiseNew
    refine wpAny_bind (wpAny_handled ?_)
    rw [q]
    exact wpAny_bind (wpAny_pure (wpAny_throw (hE s.heap oe (fun _ _ => rfl) ha rfl)))
  · obtain ⟨hh, o, vs1, e, d, c⟩ := hot
    have hot' : HotX.HotAt A x1 s.heap := ⟨hh, o, vs1, k _ _ _ e d (Array.getElem?_eq_some_iff.mp c).1, d, c⟩
    have ne : x1 ≠ a := fun z => by rw [z, na] at e; cases e
    refine HotX.raiseNew_hot hot' ne ha da hi ?_
    exact hE _ _ (fun b hb => Heap.get?_update_other _ _ (Ne.symm hb)) (Heap.get?_update_self _ ha (Obj.isFreed_of_fields (Obj.data_mapFields da _))) (Obj.cls_mapFields ..)
theorem next_list_endQ {it l : Addr} {i : Nat} {xs : Array Value} {Q : Option Value → Shared → Prop} (q : Qt A s.heap) (hit : s.heap.IsListIter it l i) (hl : s.heap.IsList l xs) (hx : xs[i]? = none)
    (hQ : ∀ h', Heap.ExtBut it s.heap h' → Q none { s with heap := h' }) : wpAny (model prog w) A (pyNext (.ref it)) Q E s := by
  obtain ⟨o, at_, cl, dt⟩ := id hit
  obtain ⟨ol, atl, _, nl, dl⟩ := hl
  unfold pyNext
  refine wpAny_bind (wpAny_attempt (wpAny_callSpecial?_slot (name := Str.ofString "__next__") hit.typeIs slot_listiter_next (wpAny_call_entry slot_listiter_next hit.typeIs entry_listiter_next ?_ (args_listiter_next _))))
  show wpAny _ _ (field (.ref it) 0 >>= _) _ _ _
  refine wpAny_bind (wpAny_field at_ dt (x := .ref l) rfl ?_)
  show wpAny _ _ (if (Value.ref l == Value.none) = true then _ else _) _ _ _
  rw [if_neg (fun z : (Value.ref l == Value.none) = true => Bool.false_ne_true z)]
  show wpAny _ _ (field (.ref it) 1 >>= _) _ _ _
  refine wpAny_bind (wpAny_field at_ dt (x := .int i 0) rfl ?_)
  show wpAny _ _ (seqItems? (.ref l) >>= _) _ _ _
  refine wpAny_bind (wpAny_seqItems atl dl ?_)
  simp only [Int.toNat_natCast, hx]
  refine wpAny_bind (wpAny_rule (wpAny_bind (wpAny_setField at_ dt (by simp) ?_)))
  show wpAny _ _ (newExc (.type "StopIteration") [] >>= _) _ _ _
  refine wpAny_bind ?_
  simp only [newExc, newTuple]
  refine wpAny_bind (wpAny_newObj_type ?_ (by size_fits))
  refine wpAny_bind (m := firstArgMember _ _) (wpAny_of_eq (a := Value.none) (by first | rfl | (simp only [firstArgMember]; rfl)) ?_)
  refine wpAny_newObj_type ?_ (by size_fits)
  have k1 := (Heap.SameBut.update s.heap it (Obj.mapFields (·.setIfInBounds 0 Value.none))).extBut
  refine raise_q (h0 := s.heap) q (fun b u us e d l => ?_) ?_ (Heap.get?_push_size _ rfl) rfl (by first | (simp; done) | (simp; omega) | (simp only [Array.size_append]; simp; omega)) fun h' oe' same e1 e2 => ?_
  · have ne : b ≠ it := fun z => by
      rw [z, at_] at e
      cases e
      rw [dt] at d
      cases d
      simp at l
    exact ((k1.push _).push _) b u ne e
  · refine Heap.get?_none_of_le ?_
    show s.heap.objs.size ≤ ((s.heap.update it _).push _).objs.size
    rw [Heap.size_push, Heap.size_update]
    exact Nat.le_succ _
  · refine wpAny_bind (wpAny_isInstance (T := "StopIteration") (b := true) ⟨_, e1, e2⟩ isSubtype_stop ?_)
    refine wpAny_pure (hQ _ fun b u hb e => ?_)
    have lt := Heap.lt_size e
    rw [same b (fun z => by
      rw [z] at lt
      dsimp only at lt
      rw [Heap.size_push, Heap.size_update] at lt
      exact Nat.lt_irrefl _ (Nat.lt_of_succ_lt lt))]
    exact ((k1.push _).push _) b u hb e
theorem next_tuple_endQ {it l : Addr} {i : Nat} {xs : Array Value} {Q : Option Value → Shared → Prop} (q : Qt A s.heap) (hit : s.heap.IsTupleIter it l i) (hl : s.heap.IsTuple l xs) (hx : xs[i]? = none)
    (hQ : ∀ h', Heap.ExtBut it s.heap h' → Q none { s with heap := h' }) : wpAny (model prog w) A (pyNext (.ref it)) Q E s := by
  obtain ⟨o, at_, cl, dt⟩ := id hit
  obtain ⟨ol, atl, _, nl, dl⟩ := hl
  unfold pyNext
  refine wpAny_bind (wpAny_attempt (wpAny_callSpecial?_slot (name := Str.ofString "__next__") hit.typeIs F.slot_tuple_iterator_next (wpAny_call_entry F.slot_tuple_iterator_next hit.typeIs F.entry_tuple_iterator_next ?_ (F.args_tuple_iterator_next_1 _))))
  show wpAny _ _ (field (.ref it) 0 >>= _) _ _ _
  refine wpAny_bind (wpAny_field at_ dt (x := .ref l) rfl ?_)
  show wpAny _ _ (if (Value.ref l == Value.none) = true then _ else _) _ _ _
  rw [if_neg (fun z : (Value.ref l == Value.none) = true => Bool.false_ne_true z)]
  show wpAny _ _ (field (.ref it) 1 >>= _) _ _ _
  refine wpAny_bind (wpAny_field at_ dt (x := .int i 0) rfl ?_)
  show wpAny _ _ (seqItems? (.ref l) >>= _) _ _ _
  refine wpAny_bind (wpAny_seqItems atl dl ?_)
  simp only [Int.toNat_natCast, hx]
  refine wpAny_bind (wpAny_rule (wpAny_bind (wpAny_setField at_ dt (by simp) ?_)))
  show wpAny _ _ (newExc (.type "StopIteration") [] >>= _) _ _ _
  refine wpAny_bind ?_
  simp only [newExc, newTuple]
  refine wpAny_bind (wpAny_newObj_type ?_ (by size_fits))
  refine wpAny_bind (m := firstArgMember _ _) (wpAny_of_eq (a := Value.none) (by first | rfl | (simp only [firstArgMember]; rfl)) ?_)
  refine wpAny_newObj_type ?_ (by size_fits)
  have k1 := (Heap.SameBut.update s.heap it (Obj.mapFields (·.setIfInBounds 0 Value.none))).extBut
  refine raise_q (h0 := s.heap) q (fun b u us e d l => ?_) ?_ (Heap.get?_push_size _ rfl) rfl (by first | (simp; done) | (simp; omega) | (simp only [Array.size_append]; simp; omega)) fun h' oe' same e1 e2 => ?_
  · have ne : b ≠ it := fun z => by
      rw [z, at_] at e
      cases e
      rw [dt] at d
      cases d
      simp at l
    exact ((k1.push _).push _) b u ne e
  · refine Heap.get?_none_of_le ?_
    show s.heap.objs.size ≤ ((s.heap.update it _).push _).objs.size
    rw [Heap.size_push, Heap.size_update]
    exact Nat.le_succ _
  · refine wpAny_bind (wpAny_isInstance (T := "StopIteration") (b := true) ⟨_, e1, e2⟩ isSubtype_stop ?_)
    refine wpAny_pure (hQ _ fun b u hb e => ?_)
    have lt := Heap.lt_size e
    rw [same b (fun z => by
      rw [z] at lt
      dsimp only at lt
      rw [Heap.size_push, Heap.size_update] at lt
      exact Nat.lt_irrefl _ (Nat.lt_of_succ_lt lt))]
    exact ((k1.push _).push _) b u hb e
theorem unpack_q {t : Addr} {xs : Array Value} {tgs : List (Bool × (Value → Sem Unit))} {Q : Unit → Shared → Prop} (q : Qt A s.heap) (ht : s.heap.IsTuple t xs) (hn : tgs.length = xs.size) (hst : tgs.findIdx? (·.1) = none)
    (h : ∀ h', Heap.ExtBut s.heap.objs.size s.heap h' → wpAny (model prog w) A (assignInOrder (tgs.map (·.2)) xs.toList) Q E { s with heap := h' }) : wpAny (model prog w) A (unpack (.ref t) tgs) Q E s := by
  have away : t ≠ s.heap.objs.size := by
    obtain ⟨o, e, _⟩ := ht
    exact Nat.ne_of_lt (Heap.lt_size e)
  unfold unpack
  rw [hn, hst]
  refine wpAny_bind (wpAny_holding ?_)
  unfold unpackItems
  refine wpAny_bind ?_
  unfold notIterableAtAll
  refine wpAny_bind (wpAny_specialOf ht.typeIs F.slot_tuple_iter.lookup (wpAny_pure ?_))
  rw [if_neg Bool.false_ne_true]
  refine wpAny_bind (wpAny_holding (wpAny_pyIter_tuple ht (wpAny_bind (wpAny_holding (wpAny_draw_tuple away xs.size 0 _ _ ⟨_, Heap.get?_push_size _ rfl, rfl, rfl⟩ (ht.push _) (by omega) fun h₁ hit₁ hs₁ => ?_)))))
  have all : List.take xs.size (List.drop 0 xs.toList) = xs.toList := by
    rw [List.drop_zero]
    exact List.take_of_length_le (by simp)
  rw [all, if_neg (by simp)]
  refine wpAny_bind (wpAny_holding (next_tuple_endQ (s := { s with heap := h₁ }) (q.to fun b o us e d l => ?_) hit₁ ((ht.push _).extBut hs₁.extBut away) (by simp) fun h₂ he₂ => ?_))
  · exact hs₁.extBut b o (Nat.ne_of_lt (Heap.lt_size e)) (Heap.get?_push_of_some _ e)
  · simp only [Option.isSome_none]
    rw [if_neg Bool.false_ne_true]
    exact wpAny_pure (h h₂ fun b o hb e => he₂ b o hb (hs₁.extBut b o hb (Heap.get?_push_of_some _ e)))
end
/-! ### targets -/
theorem pg_tupQ {X : Cx} {es : List Expr} {k : Nat} {t : TGs} {n : Nat} {pos : Pos} (hc : CalmH X) (h : PGs X es t) (hn : (assignEach es X.env).length = n) (hst : (assignEach es X.env).findIdx? (·.1) = none) : PG X (.Tuple es k pos) (gTup X.K n t) := by
  refine ⟨fun pins s σ H v u Q I r ⟨a, xs, e1, hq, hl, hw⟩ => ?_⟩
  subst e1
  obtain rfl : u = Value.ref a := r
  obtain ⟨its, rv, ht, hz⟩ := I.tuple hq
  rw [arm_assign_Tuple]
  refine wpAny_bind (wpAny_standAt (unpack_q (hc.qt I) ht (by simp [hn, ← hl, rv.length]) hst fun h' hx => ?_))
  have I1 : Inv X pins σ H { s with heap := h' } := I.kept (t' := s.toks) fun b o e => hx b o (Nat.ne_of_lt (Heap.lt_size e)) e
  exact h.run pins _ σ H xs _ Q I1 (by simpa using rv) hw

/-! ### walks -/
structure TurnQ (c0 : Prop) (P : Program) (w : World) (K : PySem.W.Frag) (tg : Expr) (J : L2.It) (fp : List Addr) (it : Addr) (tn : Nat → Heap → Prop) : Prop where
  mem : it ∈ fp
  obj : ∀ i h, tn i h → ∀ b ∈ fp, ∃ o, h.get? b = some o ∧ ∀ v, o.data ≠ .cell v
  keep : ∀ i h h', tn i h → (∀ b ∈ fp, ∀ o, h.get? b = some o → h'.get? b = some o) → tn i h'
  item : ∀ (X : Cx), X.prog = P → X.w = w → X.K = K → (c0 → X.calm = true) → CalmH X → ∀ (i : Nat) (pins : List (Addr × Obj)) (s : Shared) (σ : L2.St) (H : Hp) (E : Value → Shared → Prop), Inv X pins σ H s → (∀ b ∈ fp, FpOk X pins H b) → tn i s.heap → J.go i H →
    wpAny (model P w) X.A (pyNext (.ref it)) (fun r s1 => ∃ u, r = some u ∧ wpAny (model P w) X.A (letOwnedTupleGo tg (.ref it) u) (fun _ s2 => ∃ x H', Inv X pins σ H' s2 ∧ RelV x u ∧ J.yld i H x H' ∧ tn (i + 1) s2.heap ∧ ∀ b ∈ fp, H' b = none) E s1) E s
  done : ∀ (X : Cx), X.prog = P → X.w = w → X.K = K → (c0 → X.calm = true) → CalmH X → ∀ (i : Nat) (pins : List (Addr × Obj)) (s : Shared) (σ : L2.St) (H : Hp) (E : Value → Shared → Prop), Inv X pins σ H s → (∀ b ∈ fp, FpOk X pins H b) → tn i s.heap → J.stop i H →
    wpAny (model P w) X.A (pyNext (.ref it)) (fun r s1 => r = none ∧ Inv X pins σ H s1) E s
  self : ∀ (A : Around) (i : Nat) (s : Shared) (Q : Value → Shared → Prop) (E : Value → Shared → Prop), tn i s.heap → Q (.ref it) s → wpAny (model P w) A (pyIter (.ref it)) Q E s
/-- two ways of a walk, one by one -/
theorem TurnQ.both {P : Program} {w : World} {K : PySem.W.Frag} {tg : Expr} {J : L2.It} {fp : List Addr} {it : Addr} {tn : Nat → Heap → Prop} (a : Turn P w K tg J fp it tn) (b : L2H.TurnH P w K tg J fp it tn) : TurnQ False P w K tg J fp it tn :=
  ⟨a.mem, a.obj, a.keep, fun X h1 h2 h3 _ c => c.elim (a.item X h1 h2 h3) (b.item X h1 h2 h3), fun X h1 h2 h3 _ c => c.elim (a.done X h1 h2 h3) (b.done X h1 h2 h3), a.self⟩
/-- a walk where nothing is handled -/
theorem TurnQ.calm {P : Program} {w : World} {K : PySem.W.Frag} {tg : Expr} {J : L2.It} {fp : List Addr} {it : Addr} {tn : Nat → Heap → Prop} (a : Turn P w K tg J fp it tn) : TurnQ True P w K tg J fp it tn :=
  ⟨a.mem, a.obj, a.keep, fun X h1 h2 h3 c _ => a.item X h1 h2 h3 (c trivial), fun X h1 h2 h3 c _ => a.done X h1 h2 h3 (c trivial), a.self⟩
theorem turn_listH {P : Program} {w : World} {K : PySem.W.Frag} {tg : Expr} (a it : Addr) : L2H.TurnH P w K tg (Itl K a) [it] it (fun i h => h.IsListIter it a i) where
  mem := (turn_list (P := P) (w := w) (K := K) (tg := tg) a it).mem
  obj := (turn_list (P := P) (w := w) (K := K) (tg := tg) a it).obj
  keep := (turn_list (P := P) (w := w) (K := K) (tg := tg) a it).keep
  self := (turn_list (P := P) (w := w) (K := K) (tg := tg) a it).self
  item := by
    rintro X rfl rfl rfl hc i pins s σ H E I hf st ⟨xs, x, hq, hx⟩
    obtain ⟨us, rv, p, hz⟩ := I.list hq
    obtain ⟨u, hu, ru⟩ := rv.get hx
    obtain ⟨f0, f1, f2, f3, f4, f5⟩ := hf it List.mem_cons_self
    refine wpAny_pyNext_list_item st p.isList (x := u) (by simpa using hu) fun h' st' sb => ⟨u, rfl, ?_⟩
    obtain ⟨o, e, c, d⟩ := id st'
    exact go_of (s := { s with heap := h' }) e c d (by decide) ⟨x, H, I.turned (t' := s.toks) (fun b o hb e => (sb.2 b hb).trans e) f0 f1 f3 f4 f5, ru, ⟨rfl, fun ys hy => by rw [I.list_inj hy hq]; exact hx⟩, st', fun b hb => (hf b hb).1⟩
  done := by
    rintro X rfl rfl rfl hc i pins s σ H E I hf st ⟨xs, hq, hx⟩
    obtain ⟨us, rv, p, hz⟩ := I.list hq
    obtain ⟨f0, f1, f2, f3, f4, f5⟩ := hf it List.mem_cons_self
    have hl := rv.length
    exact next_list_endQ (CalmH.qt (.inr hc) I) st p.isList (by simp; omega) fun h' eb => ⟨rfl, I.turned (t' := s.toks) (fun b o hb e => eb b o hb e) f0 f1 f3 f4 f5⟩
theorem turn_tupleH {P : Program} {w : World} {K : PySem.W.Frag} {tg : Expr} (a it : Addr) : L2H.TurnH P w K tg (Itt K a) [it] it (fun i h => h.IsTupleIter it a i) where
  mem := (turn_tuple (P := P) (w := w) (K := K) (tg := tg) a it).mem
  obj := (turn_tuple (P := P) (w := w) (K := K) (tg := tg) a it).obj
  keep := (turn_tuple (P := P) (w := w) (K := K) (tg := tg) a it).keep
  self := (turn_tuple (P := P) (w := w) (K := K) (tg := tg) a it).self
  item := by
    rintro X rfl rfl rfl hc i pins s σ H E I hf st ⟨xs, x, hq, hx⟩
    obtain ⟨us, rv, p, hz⟩ := I.tuple hq
    obtain ⟨u, hu, ru⟩ := rv.get hx
    obtain ⟨f0, f1, f2, f3, f4, f5⟩ := hf it List.mem_cons_self
    refine wpAny_pyNext_tuple_item st (show s.heap.IsTuple a us.toArray from p) (x := u) (by simpa using hu) fun h' st' sb => ⟨u, rfl, ?_⟩
    obtain ⟨o, e, c, d⟩ := id st'
    exact go_of (s := { s with heap := h' }) e c d (by decide) ⟨x, H, I.turned (t' := s.toks) (fun b o hb e => (sb.2 b hb).trans e) f0 f1 f3 f4 f5, ru, ⟨rfl, fun ys hy => by rw [I.tuple_inj hy hq]; exact hx⟩, st', fun b hb => (hf b hb).1⟩
  done := by
    rintro X rfl rfl rfl hc i pins s σ H E I hf st ⟨xs, hq, hx⟩
    obtain ⟨us, rv, p, hz⟩ := I.tuple hq
    obtain ⟨f0, f1, f2, f3, f4, f5⟩ := hf it List.mem_cons_self
    have hl := rv.length
    exact next_tuple_endQ (CalmH.qt (.inr hc) I) st (show s.heap.IsTuple a us.toArray from p) (by simp; omega) fun h' eb => ⟨rfl, I.turned (t' := s.toks) (fun b o hb e => eb b o hb e) f0 f1 f3 f4 f5⟩
def PIEQ (X : Cx) (pins : List (Addr × Obj)) (σ : L2.St) (tg : Expr) (R : L2.It → Hp → Prop) (itv : Value) (s2 : Shared) : Prop :=
  ∃ (c0 : Prop) (it : Addr) (fp : List Addr) (tn : Nat → Heap → Prop) (J : L2.It) (H' : Hp), (c0 → X.calm = true) ∧ itv = .ref it ∧ Inv X pins σ H' s2 ∧ TurnQ c0 X.prog X.w X.K tg J fp it tn ∧ tn 0 s2.heap ∧ (∀ b ∈ fp, FpOk X pins H' b) ∧ R J H'
structure PIQ (X : Cx) (tg iter : Expr) (wi : TI) : Prop where
  run : ∀ (pins : List (Addr × Obj)) (s : Shared) (σ : L2.St) (H : Hp) (R : L2.It → Hp → Prop), Inv X pins σ H s → wi σ H R → wpAny (model X.prog X.w) X.A (eval iter X.env) (fun v s1 => wpAny (model X.prog X.w) X.A (pyIter v) (PIEQ X pins σ tg R) X.xe s1) X.xe s
/-! ### an exception in the air, the frame told apart -/
structure Frm (X : Cx) (L : Addr) : Prop where
  fr : X.env.frame = some L
  top : ∃ e0 o0, X.stack = e0 :: o0 ∧ e0.frame = some L
def ExE (X : Cx) (L : Addr) (W : WX) (u : Value) (s' : Shared) : Prop :=
  ∃ (a : Addr) (B : Heap) (sI : Shared) (pins : List (Addr × Obj)) (σ : L2.St) (H : Hp) (cls : Value) (d : Option Addr), u = .ref a ∧ Inv X pins σ H sI ∧ (∀ b o, sI.heap.get? b = some o → b ∉ frs X.stack → B.get? b = some o) ∧ sI.heap.UpToSlots s'.heap ∧
    Sky B X.stack a (L2N.Zn cls d) L s'.heap ∧ H a = none ∧ s'.os = sI.os ∧ AllBare s'.gens ∧ W cls d σ H
section
variable {X : Cx} {pins : List (Addr × Obj)} {σ : L2.St} {H : Hp} {s s' : Shared} {L : Addr} {W : WX} {E : XK}
theorem ExE.of_call (I : Inv X pins σ H s) (hW : ∀ cls d H', E cls d H' → W cls d σ H') {u : Value} (c : L2N.CX X.prog X.w X.stack H s E u s') : ExE X L W u s' := by
  obtain ⟨a, B, H', cls, d, rfl, fl, hok, ub, na, os, ag, hE⟩ := c
  -- the state without the exception: the ground and the frames
  obtain ⟨G, inG, outG⟩ := L2.restrict s'.heap fun b => decide (b ∈ frs X.stack) || (B.get? b).isSome
  have st : B.StaysIn s'.heap := fl.1
  have ground : ∀ b o, B.get? b = some o → G.get? b = some o := fun b o e => (inG b (by simp [e])).trans (st b o e)
  have frame : ∀ b, b ∈ frs X.stack → G.get? b = s'.heap.get? b := fun b hb => inG b (by simp [hb])
  have from_ : ∀ b o, G.get? b = some o → s'.heap.get? b = some o ∧ (b ∈ frs X.stack ∨ (B.get? b).isSome = true) := fun b o e => by
    by_cases z : (decide (b ∈ frs X.stack) || (B.get? b).isSome) = true
    · exact ⟨(inG b z).symm.trans e, by simpa [Bool.or_eq_true] using z⟩
    · rw [outG b (by simpa using z)] at e
      cases e
  have J : Inv X pins σ H' { s with heap := G, gens := s'.gens, drawn := s'.drawn, toks := s'.toks } := by
    refine I.call (ch := []) ⟨fun b o e n hb _ => ground b o (ub.keep b o e n hb), fun b o e _ hb _ => ?_, fun b o e n _ => ub.free b o e n, fun b o e _ => ?_, ub.tups, ub.frzs, ub.tbls⟩ (hok.kept ground) ag (fun _ z => nomatch z)
    · obtain ⟨sl, z⟩ := ub.slot b o e hb
      exact ⟨sl, (frame b hb).trans z⟩
    · by_cases hb : b ∈ frs X.stack
      · obtain ⟨sl, z⟩ := ub.slot b o e hb
        exact ⟨_, (frame b hb).trans z⟩
      · obtain ⟨o', z⟩ := ub.there b o e hb
        exact ⟨o', ground b o' z⟩
  refine ⟨a, B, _, pins, σ, H', cls, d, rfl, J, fun b o e hb => ?_, Heap.UpToSlots.of_keeps fun b o e => (from_ b o e).1, .inr (.inl fl), na, os, ag, hW _ _ _ hE⟩
  obtain ⟨e', h⟩ := from_ b o e
  obtain ⟨o', z⟩ := Option.isSome_iff_exists.mp (h.resolve_left hb)
  have := st b o' z
  rw [e'] at this
  cases this
  exact z
theorem note_env {e : Value} {env env' : Env} (h : env.frame = env'.frame) : noteFrame e env = noteFrame e env' := by
  unfold noteFrame PySem.frameOf
  rw [h]
theorem Sky.note {M : Model} {A : Around} {E₁ : Value → Shared → Prop} {env e0 : Env} {o0 : List Env} {B : Heap} {a : Addr} {Z : Obj → Prop} {Q : Unit → Shared → Prop} (hZ : PXN.Steady1 Z) (hfr : A.frames = some (e0 :: o0)) (h0 : e0.frame = some L) (he : env.frame = some L)
    (x : Sky B (e0 :: o0) a Z L s.heap) (hQ : ∀ h', HandSPX.HeldZ B (e0 :: o0) a Z L h' → s.heap.UpToSlots h' → Q () { s with heap := h' }) : wpAny M A (noteFrame (.ref a) env) Q E₁ s := by
  rw [note_env (env' := e0) (he.trans h0.symm)]
  rcases x with ⟨hB, hn, hl, oe, vs, ge, hz, hd, h1⟩ | fl | hh
  · exact PXN.look_newZ hZ hfr hl h0 ge hB hn hd h1 hz hQ
  · exact PXN.looks_onZ hZ hfr h0 fl hQ
  · exact HandSPX.againZ h0 hh.2.2.2 (hQ s.heap hh (Heap.UpToSlots.refl _))
end

/-! ### a comprehension's block -/
def compX (M : Model) (A : Around) (E : Value → Shared → Prop) (use : Option (Value → Sem Unit)) (Q : Value → Shared → Prop) (acc : Value) (cenv : Env) (r : Result) (s' : Shared) : Prop :=
  match r with
  | .ok f => compPost M A E use Q acc cenv.locals (.ok f) s'
  | .error x => ∃ m, s'.heap.Ns cenv.locals m ∧ ∀ h', Heap.SameBut cenv.locals s'.heap h' → wpAny M A (PySem.passOn "comprehension.variables-let-go" x cenv : Sem Value) (fun _ _ => False) E { s' with heap := h' }
theorem comp_freeX {M : Model} {A : Around} {E : Value → Shared → Prop} {s : Shared} {env : Env} {e : Expr} {scope : Scope} {pos : Pos} {newAcc first : Sem Value} {g : Comprehension} {gs : List Comprehension} {cl : List (Str × Addr)} {use : Option (Value → Sem Unit)} {Q : Value → Shared → Prop}
    (hcl : clausesOf e = g :: gs) (hs : ∀ x, foldedSetIterable g.iter env x = pure x) (hclos : closureFor scope env = pure cl) (hkind : scope.kind = .function) (hnames : ∀ x ∈ scope.names, x.2 = .local → scope.names.lookup x.1 = some .local)
    (h : wpAny M A first (fun x s₁ => wpAny M A (pyIter x) (fun it s₂ => wpAny M A newAcc (fun acc s₃ => wpAny M A (newFunctionEnv scope env.globals cl [] env.qual none .none (some env)) (fun cenv s₄ =>
        codeAny M A (.compStart e 0 it acc { cenv with scope := relabel scope env }) (compX M A E use Q acc { cenv with scope := relabel scope env }) s₄) E s₃) E s₂) E s₁) E s) :
    wpAny M A (comprehension e scope env pos newAcc false first use) Q E s := by
  unfold comprehension
  rw [hclos, hcl]
  refine wpAny_bind (wpAny_mono h (fun x s₁ h₁ => ?_) fun _ _ z => z)
  refine wpAny_bind (wpAny_standAt (wpAny_bind (wpAny_of_eq (hs x) (wpAny_bind (wpAny_holding (wpAny_mono h₁ (fun it s₂ h₂ => ?_) fun _ _ z => z))))))
  refine wpAny_standIf (wpAny_bind (wpAny_mono h₂ (fun acc s₃ h₃ => ?_) fun _ _ z => z))
  refine wpAny_bind (wpAny_pure (wpAny_bind (wpAny_mono h₃ (fun cenv s₄ h₄ => ?_) fun _ _ z => z)))
  dsimp only
  have own : ∀ x ∈ (scope.names.filter fun x => (x.2 == .local || x.2 == .cell) && x.1 != (".0" : Str)).reverse, x.2 = .local → Env.kindOf { cenv with scope := relabel scope env } x.1 = some .local :=
    fun x hx hl => lookup_relabel_local (hnames x (List.mem_filter.mp (List.mem_reverse.mp hx)).1 hl)
  refine wpAny_holding (wpAny_bind (wpAny_attempt (wpAny_holding (wpAny_run (codeAny_mono h₄ fun r s' hr => ?_)))))
  cases r with
  | ok f =>
    cases use with
    | none =>
      obtain ⟨m, hn, hr⟩ := hr
      exact wpAny_bind (wpAny_holding (wpAny_comp_letGo (cenv := { cenv with scope := relabel scope env }) hkind _ s' m own hn fun h' m' _ hs' => wpAny_pure (hr h' hs')))
    | some u =>
      have hr : wpAny M A (u acc) (fun _ s'' => ∃ m, s''.heap.Ns cenv.locals m ∧ ∀ h', Heap.SameBut cenv.locals s''.heap h' → Q .none { s'' with heap := h' }) E s' := hr
      refine wpAny_bind (wpAny_rule (wpAny_bind (wpAny_holding (wpAny_mono hr (fun _ s'' ⟨m, hn, hr'⟩ => ?_) fun _ _ z => z))))
      refine wpAny_bind (wpAny_comp_letGo (cenv := { cenv with scope := relabel scope env }) hkind _ s'' m (fun x hx hl => ?_) hn fun h' m' _ hs' => wpAny_pure (hr' h' hs'))
      exact own x ((List.mem_append.mp hx).elim List.mem_of_mem_drop List.mem_of_mem_take) hl
  | error x =>
    obtain ⟨m, hn, hr⟩ := hr
    exact wpAny_bind (wpAny_holding (wpAny_comp_letGo (cenv := { cenv with scope := relabel scope env }) hkind _ s' m own hn fun h' m' _ hs' => wpAny_mono (hr h' hs') (fun _ _ z => z.elim) fun _ _ z => z))
abbrev blkX (X : Cx) (s : Shared) (H : Hp) (scope : Scope) (cenv : Env) (fp : List Addr) (E : Value → Shared → Prop) : Cx :=
  { X with s_0 := s, H_0 := H, env := cenv, outer := X.stack, ex := fp, fn := fun x => scope.names.lookup x == some .cell, xe := E }
section
variable {X : Cx} {pins : List (Addr × Obj)} {σ : L2.St} {H : Hp} {s : Shared}
theorem Cx.Ok.re {X Y : Cx} (k : X.Ok) (h : X = { Y with pn := X.pn, xe := X.xe }) : Y.Ok := by
  rw [h] at k
  exact ⟨k.mod, k.kind, k.glob, k.blt, k.above, k.inj, k.has, k.cab, k.hd, k.frames, k.stk, k.exf, k.bs, k.bsz, k.noex, k.exfs, k.funs, k.frf⟩
theorem Inv.reX {X Y : Cx} (I : Inv X pins σ H s) (h : X = { Y with pn := X.pn, xe := X.xe }) (hp : ∀ p ∈ Y.pn ++ pins, s.heap.get? p.1 = some p.2 ∧ H p.1 = none ∧ p.1 ≠ Y.env.locals ∧ p.1 ∉ Y.fs ∧ ∀ v, p.2.data ≠ .cell v) : Inv Y pins σ H s := by
  have k := Cx.Ok.re I.ok h
  rw [h] at I
  exact ⟨k, I.os, I.bare, I.base, I.loc, I.cell, I.free, I.freeC, hp, I.hok, I.len⟩
theorem block_startX {scope : Scope} {own : List (Str × Nat)} {fp : List Addr} {E : Value → Shared → Prop} (I : Inv X pins σ H s) (ok : BlkOk X.N X.env.scope scope own) (hN : X.N.Nodup) (hfp : ∀ b ∈ fp, FpOk X pins H b ∧ b < s.heap.objs.size) :
    Inv (blkX X s H scope (compEnvC scope (cellsFrom (s.heap.objs.size + 1) scope.names (cloFrom X.env.cells scope.names [])) s.heap.objs.size X.env) fp E) [] (L2.wipe σ (own.map (·.2))) H
      { s with heap := pushCells (s.heap.push { cls := .type "dict", data := .dict #[] }) scope.names } := by
  refine Inv.reX (block_start I ok hN hfp) rfl fun p hp => ?_
  have P := I.pin p (List.mem_append_left _ (by simpa using hp))
  refine ⟨pushCells_keeps _ _ _ _ (Heap.get?_push_of_some _ P.1), P.2.1, Nat.ne_of_lt (Heap.lt_size P.1), fun z => ?_, P.2.2.2.2⟩
  exact (List.mem_cons.mp (I.stkSub p.1 z)).elim P.2.2.1 P.2.2.2.1
end
theorem CalmH.blk {X : Cx} {s : Shared} {H : Hp} {scope : Scope} {cenv : Env} {fp : List Addr} {E : Value → Shared → Prop} (c : CalmH X) : CalmH (blkX X s H scope cenv fp E) := c.elim .inl fun ⟨p, h1, h2⟩ => .inr ⟨p, h1, h2⟩
def tLcX (wi : TI) (g : TG) (tt : L2.St → TT) (te : L2.St → TE) (vs : List Nat) : TE := fun σ H Q => wi σ H fun J H1 => ∀ D, H1 D = none → ∃ W : Nat → Nat → Hp → Prop, (∃ m, W 0 m (upd H1 D (.lst []))) ∧ ∀ i m H, W i m H →
  (J.stop i H ∧ Q (.ref D) H) ∨ (J.go i H ∧ ∃ Nx : Hp → Prop, (∀ H', Nx H' → ∃ m', m' < m ∧ W (i + 1) m' H') ∧ ∀ x H', J.yld i H x H' → g x (L2.wipe σ vs) H' fun σ2 H2 => L2.wipe σ2 vs = L2.wipe σ vs ∧ tt σ σ2 H2 fun b H3 =>
    if b = true then te σ σ2 H3 fun y H4 => ∃ acc, H4 D = some (.lst acc) ∧ acc.length < sizeLine ∧ Nx (upd H4 D (.lst (acc ++ [y]))) else Nx H3)
theorem frames_hid {h1 h2 B B' : Heap} {C : Addr} (g : ∀ b, b ≠ C → h2.get? b = h1.get? b) (n : ∀ b, B.get? b = none → B'.get? b = none) : ∀ {l : List Env}, h1.FunFrames B l → (∀ b ∈ frs l, b ≠ C) → h2.FunFrames B' l
  | [], _, _ => trivial
  | e :: l, ⟨k1, ⟨A, o, f, a1, a2, a3⟩, k3⟩, hl => by
    have hA : A ∈ frs (e :: l) := List.mem_filterMap.mpr ⟨e, List.mem_cons_self, f⟩
    refine ⟨k1, ⟨A, o, f, n A a1, (g A (hl A hA)).trans a2, a3⟩, frames_hid g n k3 fun b hb => hl b ?_⟩
    obtain ⟨e', h1, h2⟩ := List.mem_filterMap.mp hb
    exact List.mem_filterMap.mpr ⟨e', List.mem_cons_of_mem _ h1, h2⟩
/-- the block is left by an exception -/
theorem block_out {X : Cx} {pins : List (Addr × Obj)} {σ : L2.St} {H3 : Hp} {s3 s' : Shared} {scope : Scope} {ce : Env} {fp : List Addr} {E₀ : Value → Shared → Prop} {L : Addr} {WW : WX} {u : Value} {use : Option (Value → Sem Unit)} {Q : Value → Shared → Prop} {acc : Value} (fr : Frm X L) (hx : ∀ u s', ExE X L WW u s' → X.xe u s')
    (I3 : Inv X pins σ H3 s3) (cL : ce.locals = s3.heap.objs.size) (cF : ce.frame = X.env.frame) (f3 : ∀ b ∈ fp, FpOk X pins H3 b) (x : ExE (blkX X s3 H3 scope ce fp E₀) L (fun cls d _ H => WW cls d σ H) u s') :
    notedBy (model X.prog X.w) X.A ce (fun e s' => compX (model X.prog X.w) X.A X.xe use Q acc ce (.error e) s') u s' := by
  obtain ⟨a, B, sI, pinsb, σb, Hb, cls, d, rfl, I, nb, up, sky, na, os, ag, w⟩ := x
  obtain ⟨ef, e0, o0, hst, h0⟩ := fr
  have hfr : X.A.frames = some (e0 :: o0) := by rw [I3.ok.frames, hst]
  have cf : ce.frame = some L := cF.trans ef
  have sky : Sky B (e0 :: o0) a (L2N.Zn cls d) L s'.heap := hst ▸ sky
  -- the block's dict is in the ground
  obtain ⟨m, hn, _⟩ := I.loc
  have hn : sI.heap.Ns ce.locals m := hn
  have nC : ce.locals ∉ frs X.stack := fun z => by
    obtain ⟨_, o, e, _⟩ := I3.stack.mem z
    rw [cL] at e
    exact Nat.lt_irrefl _ (Heap.lt_size e)
  have bC : ∀ o, sI.heap.get? ce.locals = some o → B.get? ce.locals = some o := fun o e => nb _ o e nC
  have bS : (B.get? ce.locals).isSome = true := by
    obtain ⟨o, _, _, e, _⟩ := id hn
    rw [bC o e]; rfl
  refine Sky.note L2N.Zn.steady hfr h0 cf sky fun h1 held up1 => ?_
  obtain ⟨k1, k2, k3, oe, vs, T, oT, ts, te, tz, td, t1, tn, tne, tT, tTd, t3⟩ := held
  refine ⟨m, hn.at fun o e => k1 _ o (bC o e), fun h2 sb => ?_⟩
  have aC : a ≠ ce.locals := fun z => by rw [← z, k2] at bS; cases bS
  have TC : T ≠ ce.locals := fun z => by rw [← z, tn] at bS; cases bS
  have g2 : ∀ b, b ≠ ce.locals → h2.get? b = h1.get? b := fun b hb => sb.2 b hb
  unfold PySem.passOn
  refine wpAny_bind (wpAny_field (s := { s' with heap := h2 }) ((g2 a aC).trans te) td t1 ?_)
  rw [if_neg (show ¬((Value.ref T == Value.none) = true) from fun z => nomatch z)]
  refine wpAny_bind ?_
  rw [cf]
  have B1 : ∀ b o, (PySem.W.hideAll B [ce.locals]).get? b = some o → b ≠ ce.locals ∧ B.get? b = some o := fun b o e => by
    refine ⟨fun z => ?_, PySem.W.of_hideAll _ e⟩
    rw [z, PySem.W.hideAll_none _ List.mem_cons_self] at e
    cases e
  have B2 : ∀ b, B.get? b = none → (PySem.W.hideAll B [ce.locals]).get? b = none := fun b e => by
    cases q : (PySem.W.hideAll B [ce.locals]).get? b with
    | none => rfl
    | some o => rw [(B1 b o q).2] at e; cases e
  have ff : ∀ {l : List Env} (_ : h1.FunFrames B l) (_ : ∀ b ∈ frs l, b ≠ ce.locals), h2.FunFrames (PySem.W.hideAll B [ce.locals]) l := fun {l} k hl => frames_hid g2 B2 k hl
  refine HandSPX.setFlight_anyZ (s := { s' with heap := h2 }) (base := PySem.W.hideAll B [ce.locals]) (l := X.stack) (Z := L2N.Zn cls d) (fl := rawInt L) (fun b o e => ?_) (ff (hst ▸ k3) fun b hb z => nC (z ▸ hb)) ⟨oe, vs, T, oT, ts, (g2 a aC).trans te, tz, td, t1, B2 T tn, tne, (g2 T TC).trans tT, tTd, t3⟩ fun h3 j1 j2 j3 j4 => ?_
  · obtain ⟨e1, e2⟩ := B1 b o e
    exact (g2 b e1).trans (k1 b o e2)
  refine wpAny_throw (hx _ _ ?_)
  have Cn : s3.heap.get? ce.locals = none := Heap.get?_none_of_le (by rw [cL]; exact Nat.le_refl _)
  have ne3 : ∀ b o, s3.heap.get? b = some o → b ≠ ce.locals := fun b o e z => by rw [z, Cn] at e; cases e
  have hid : ∀ b o, b ≠ ce.locals → sI.heap.get? b = some o → (PySem.W.hideAll sI.heap [ce.locals]).get? b = some o := fun b o hb e => PySem.W.hideAll_get _ e (by simpa using hb)
  have un : Un (frs X.stack) fp H3 Hb s3.heap sI.heap := I.base
  have J : Inv X pins σ Hb { sI with heap := PySem.W.hideAll sI.heap [ce.locals] } := by
    refine I3.call' (ch := fp) I.os ⟨fun b o e n hb hx => hid b o (ne3 b o e) (un.keep b o e n hb hx), fun b o e n hb hx => ?_, un.free, fun b o e hx => ?_, un.tups, un.frzs, un.tbls⟩ (fun b o e => ?_) I.bare fun b hb => ?_
    · obtain ⟨sl, z⟩ := un.slot b o e n hb hx
      exact ⟨sl, hid b _ (ne3 b o e) z⟩
    · obtain ⟨o', z⟩ := un.there b o e hx
      exact ⟨o', hid b _ (ne3 b o e) z⟩
    · refine (I.hok b o e).stay (fun c v hc z => hid c v (fun q => ?_) z) (fun _ z => z) fun _ _ z => z
      have fC : Hb ce.locals = none := I.free
      rcases hc with hc | hc
      · rw [← hc, q, fC] at e; cases e
      · rw [q, fC] at hc; cases hc
    · exact ⟨(f3 b hb).2.2.2.1, (f3 b hb).2.1, (f3 b hb).2.2.2.2.1, (f3 b hb).2.2.2.2.2⟩
  refine ⟨a, PySem.W.hideAll B [ce.locals], _, pins, σ, Hb, cls, d, rfl, J, fun b o e hb => ?_, fun b o e hd => ?_, .inr (.inr ⟨j1, B2 a k2, j2, j3⟩), na, os, ag, w⟩
  · have e1 := PySem.W.of_hideAll _ e
    refine PySem.W.hideAll_get _ (nb b o e1 hb) (fun z => ?_)
    rw [PySem.W.hideAll_none _ z] at e
    cases e
  · have e1 := PySem.W.of_hideAll _ e
    have bc : b ≠ ce.locals := fun z => by
      rw [z, PySem.W.hideAll_none _ List.mem_cons_self] at e
      cases e
    obtain ⟨sl1, z1⟩ := up b o e1 hd
    obtain ⟨sl2, z2⟩ := up1 b _ z1 hd
    exact j4 b { o with slots := sl2 } ((g2 b bc).trans z2) hd
theorem lcx_core {X : Cx} {pins : List (Addr × Obj)} {s : Shared} {σ : L2.St} {H : Hp} {Q : VK} {elt tg iter : Expr} {ifs : List Expr} {scope : Scope} {own : List (Str × Nat)} {pos pos' : Pos} {wi : TI} {g : TG} {tt : L2.St → TT} {te : L2.St → TE} {use : Option (Value → Sem Unit)} {Qf : Value → Shared → Prop} {L : Addr} {WW : WX}
    (hc : CalmH X) (fr : Frm X L) (hx : ∀ u s', ExE X L WW u s' → X.xe u s') (hN : X.N.Nodup) (I : Inv X pins σ H s) (hi : PIQ X tg iter wi) (ok : BlkOk X.N X.env.scope scope own)
    (hg : ∀ (s : Shared) (H : Hp) (C : Addr) (cl : List (Str × Addr)) (fp : List Addr) (E : Value → Shared → Prop), PG (blkX X s H scope (compEnvC scope cl C X.env) fp E) tg g)
    (ht : ∀ (σ : L2.St) (s : Shared) (H : Hp) (C : Addr) (cl : List (Str × Addr)) (fp : List Addr) (E : Value → Shared → Prop), (∀ u s', ExE (blkX X s H scope (compEnvC scope cl C X.env) fp E) L (fun cls d _ H => WW cls d σ H) u s' → E u s') → PTs (blkX X s H scope (compEnvC scope cl C X.env) fp E) ifs (tt σ))
    (he : ∀ (σ : L2.St) (s : Shared) (H : Hp) (C : Addr) (cl : List (Str × Addr)) (fp : List Addr) (E : Value → Shared → Prop), (∀ u s', ExE (blkX X s H scope (compEnvC scope cl C X.env) fp E) L (fun cls d _ H => WW cls d σ H) u s' → E u s') → PE (blkX X s H scope (compEnvC scope cl C X.env) fp E) elt (te σ))
    (hs : ∀ x, foldedSetIterable iter X.env x = pure x) (h : tLcX wi g tt te (own.map (·.2)) σ H Q)
    (hRR : ∀ D C s' m H', Inv X pins σ H' s' → Q (.ref D) H' → s'.heap.Ns C m → FpOk X pins H' C → compPost (model X.prog X.w) X.A X.xe use Qf (.ref D) C (.ok .next) s') :
    wpAny (model X.prog X.w) X.A (comprehension (.ListComp elt [⟨tg, iter, ifs, 0⟩] scope pos) scope X.env pos' (newList []) false (eval iter X.env) use) Qf X.xe s := by
  have hfree : ∀ y ∈ scope.names, y.2 = .free → ∃ c, X.env.cells.lookup y.1 = some c := fun y hy e => I.ok.has _ (ok.free y hy e)
  refine comp_freeX (use := use) rfl hs (closure_ok hfree) ok.kind (fun y hy e => by rw [ok.uniq y hy, e]) (thn (hi.run pins s σ H _ I h) fun xv s1 hx => thn hx fun itv s2 h2 => ?_)
  obtain ⟨c0, it, fp, tn, J, H2, hc0, e, I2, T, st2, f2, q⟩ := h2
  subst e
  refine wpAny_newObj_type (newEnv_comp ?_) (show 0 ≤ sizeLine by decide)
  generalize hD : s2.heap.objs.size = D
  have hDn : H2 D = none := I2.hok.fresh (Nat.le_of_eq hD)
  obtain ⟨W, ⟨m0, w0⟩, turn⟩ := q D hDn
  generalize hs3 : ({ s2 with heap := s2.heap.push { cls := .type "list", data := .seq ([] : List Value).toArray } } : Shared) = s3
  have push3 : s3.heap = s2.heap.push { cls := .type "list", data := .seq ([] : List Value).toArray } := by rw [← hs3]
  have I3 : Inv X pins σ (upd H2 D (.lst [])) s3 := by
    rw [← hs3]
    refine I2.laid (t' := s2.toks) (fun b o e => Heap.get?_push_of_some _ e) (Nat.le_of_eq hD) ⟨Nat.zero_le _, [], 0, .nil, ?_⟩
    rw [← hD]
    exact Heap.get?_push_size _ rfl
  have f3 : ∀ b ∈ fp, FpOk X pins (upd H2 D (.lst [])) b ∧ b < s3.heap.objs.size := fun b hb => by
    obtain ⟨o, e, _⟩ := T.obj _ _ st2 b hb
    have lt : b < s2.heap.objs.size := Heap.lt_size e
    refine ⟨⟨?_, (f2 b hb).2⟩, by rw [push3, Heap.size_push]; exact Nat.lt_succ_of_lt lt⟩
    rw [upd_ne (by rw [← hD]; exact Nat.ne_of_lt lt)]
    exact (f2 b hb).1
  have st3 : tn 0 s3.heap := T.keep _ _ _ st2 fun b _ o e => by rw [push3]; exact Heap.get?_push_of_some _ e
  show codeAny _ _ (.compStart (.ListComp elt [⟨tg, iter, ifs, 0⟩] scope pos) 0 (.ref it) (.ref D) (compEnvC scope (cellsFrom (s3.heap.objs.size + 1) scope.names (cloFrom X.env.cells scope.names [])) s3.heap.objs.size X.env))
    (compX (model X.prog X.w) X.A X.xe use Qf (.ref D) (compEnvC scope (cellsFrom (s3.heap.objs.size + 1) scope.names (cloFrom X.env.cells scope.names [])) s3.heap.objs.size X.env)) { s3 with heap := pushCells (s3.heap.push { cls := .type "dict", data := .dict #[] }) scope.names }
  have nfp : ∀ b ∈ fp, (upd H2 D (.lst [])) b = none := fun b hb => (f3 b hb).1.1
  -- what is wanted of an exception within the block
  obtain ⟨E, hE⟩ : ∃ E : Value → Shared → Prop, E = fun u s' => ExE (blkX X s3 (upd H2 D (.lst [])) scope (compEnvC scope (cellsFrom (s3.heap.objs.size + 1) scope.names (cloFrom X.env.cells scope.names [])) s3.heap.objs.size X.env) fp fun _ _ => False) L (fun cls d _ H => WW cls d σ H) u s' := ⟨_, rfl⟩
  have toE : ∀ u s', ExE (blkX X s3 (upd H2 D (.lst [])) scope (compEnvC scope (cellsFrom (s3.heap.objs.size + 1) scope.names (cloFrom X.env.cells scope.names [])) s3.heap.objs.size X.env) fp E) L (fun cls d _ H => WW cls d σ H) u s' → E u s' := fun u s' x => by
    rw [hE]
    obtain ⟨a, B, sI, pinsb, σb, Hb, cls, d, e, Ib, r⟩ := x
    exact ⟨a, B, sI, pinsb, σb, Hb, cls, d, e, Inv.reX Ib rfl Ib.pin, r⟩
  have I4 := block_startX (E := E) I3 ok hN f3
  have pg := hg s3 (upd H2 D (.lst [])) s3.heap.objs.size (cellsFrom (s3.heap.objs.size + 1) scope.names (cloFrom X.env.cells scope.names [])) fp E
  have pt := ht σ s3 (upd H2 D (.lst [])) s3.heap.objs.size (cellsFrom (s3.heap.objs.size + 1) scope.names (cloFrom X.env.cells scope.names [])) fp E toE
  have pe := he σ s3 (upd H2 D (.lst [])) s3.heap.objs.size (cellsFrom (s3.heap.objs.size + 1) scope.names (cloFrom X.env.cells scope.names [])) fp E toE
  have cL : (compEnvC scope (cellsFrom (s3.heap.objs.size + 1) scope.names (cloFrom X.env.cells scope.names [])) s3.heap.objs.size X.env).locals = s3.heap.objs.size := rfl
  have cF : (compEnvC scope (cellsFrom (s3.heap.objs.size + 1) scope.names (cloFrom X.env.cells scope.names [])) s3.heap.objs.size X.env).frame = X.env.frame := rfl
  generalize compEnvC scope (cellsFrom (s3.heap.objs.size + 1) scope.names (cloFrom X.env.cells scope.names [])) s3.heap.objs.size X.env = ce at I4 pg pt pe cL cF hE ⊢
  generalize hH3 : upd H2 D (.lst []) = H3 at I3 I4 pg pt pe w0 nfp f3 hE
  clear toE
  have leave : ∀ u s', E u s' → notedBy (model X.prog X.w) X.A ce (fun e s' => compX (model X.prog X.w) X.A X.xe use Qf (.ref D) ce (.error e) s') u s' := fun u s' z => by
    rw [hE] at z
    exact block_out fr ‹_› I3 cL cF (fun b hb => (f3 b hb).1) z
  generalize hs4 : ({ s3 with heap := pushCells (s3.heap.push { cls := .type "dict", data := .dict #[] }) scope.names } : Shared) = s4 at I4 ⊢
  have st4 : tn 0 s4.heap := T.keep _ _ _ st3 fun b _ o e => by rw [← hs4]; exact pushCells_keeps _ _ _ _ (Heap.get?_push_of_some _ e)
  have hcb : CalmH (blkX X s3 H3 scope ce fp E) := hc.blk
  have stat : ∀ {σ' : L2.St} {H' : Hp} {s' : Shared}, Inv (blkX X s3 H3 scope ce fp E) [] σ' H' s' → (∀ b ∈ fp, H' b = none) → ∀ b ∈ fp, FpOk (blkX X s3 H3 scope ce fp E) [] H' b := fun {σ' H' s'} I' hn b hb =>
    ⟨hn b hb, (I'.ok.exf b hb).1, I'.ok.exfs b hb, .inl hb, fun x c e => (I'.ok.exf b hb).2 x c e, fun p hp => (f3 b hb).1.2.2.2.2.2 p (List.mem_append_left _ (by simpa using hp))⟩
  have loop : codeAny (model X.prog X.w) X.A (.compLoop (.ListComp elt [⟨tg, iter, ifs, 0⟩] scope pos) 0 (.ref it) (.ref D) ce) (compX (model X.prog X.w) X.A X.xe use Qf (.ref D) ce) s4 := by
    refine compLoop_any (fun n s' => ∃ i H', Inv (blkX X s3 H3 scope ce fp E) [] (L2.wipe σ (own.map (·.2))) H' s' ∧ tn i s'.heap ∧ (∀ b ∈ fp, H' b = none) ∧ W i n H') ?_ m0 ⟨0, H3, I4, st4, nfp, w0⟩
    rintro n s5 ⟨i, H5, I5, st5, n5, w5⟩
    rcases turn i n H5 w5 with ⟨stop, qq⟩ | ⟨go, Nx, hNx, step⟩
    · have td := T.done (blkX X s3 H3 scope ce fp E) rfl rfl rfl hc0 hcb i [] s5 _ H5 (fun _ _ => False) I5 (stat I5 n5) st5 stop
      refine thnF td fun r s6 ⟨hr, I6⟩ => ?_
      subst hr
      have I7 : Inv X pins σ H5 s6 := I3.call' (ch := fp) I6.os I6.base I6.hok I6.bare fun b hb => ⟨(f3 b hb).1.2.2.2.1, (f3 b hb).1.2.1, (f3 b hb).1.2.2.2.2.1, (f3 b hb).1.2.2.2.2.2⟩
      have nC : H5 ce.locals = none := I6.free
      obtain ⟨m, hn, _⟩ := I6.loc
      exact hRR D ce.locals s6 m H5 I7 qq hn (I3.fpOk (by rw [cL]; exact Nat.le_refl _) nC)
    · have ti := T.item (blkX X s3 H3 scope ce fp E) rfl rfl rfl hc0 hcb i [] s5 _ H5 (fun _ _ => False) I5 (stat I5 n5) st5 go
      refine thnF ti fun r s6 ⟨u, hr, h6⟩ => ?_
      subst hr
      refine thnF h6 fun _ s7 ⟨x, H7, I7, r7, y7, st7, n7⟩ => ?_
      have I7' := I7.pinned (stat I7 n7) (T.obj _ _ st7)
      refine wpAny_mono (pg.run _ s7 _ H7 x u _ I7' r7 (step x H7 y7)) (fun _ s8 ⟨σ8, H8, I8, hw8, q8⟩ => ?_) leave
      refine wpAny_mono (pt.run _ s8 σ8 H8 _ I8 q8) (fun b s9 ⟨H9, I9, q9⟩ => ?_) leave
      have fin : ∀ {s' : Shared} {H' : Hp}, Inv (blkX X s3 H3 scope ce fp E) ([] ++ pinsAt fp s7.heap) σ8 H' s' → Nx H' → ∃ m, m < n ∧ ∃ i H', Inv (blkX X s3 H3 scope ce fp E) [] (L2.wipe σ (own.map (·.2))) H' s' ∧ tn i s'.heap ∧ (∀ b ∈ fp, H' b = none) ∧ W i m H' := fun {s' H'} I' nx => by
        obtain ⟨m', hm, w'⟩ := hNx H' nx
        have pin' : ∀ b ∈ fp, ∀ o, s7.heap.get? b = some o → s'.heap.get? b = some o ∧ H' b = none := fun b hb o e =>
          have z := I'.pin (b, o) (List.mem_append_right _ (List.mem_append_right _ (mem_pinsAt hb e)))
          ⟨z.1, z.2.1⟩
        refine ⟨m', hm, i + 1, H', (I'.unpinned (pins := [])).weak (by rw [← hw8, wipe_length]) (fun j v e => ?_), T.keep _ _ _ st7 fun b hb o e => (pin' b hb o e).1, fun b hb => ?_, w'⟩
        · rw [← hw8] at e
          exact (wipe_some e).1
        · obtain ⟨o, e, _⟩ := T.obj _ _ st7 b hb
          exact (pin' b hb o e).2
      cases b with
      | false =>
        rw [if_neg Bool.false_ne_true] at q9 ⊢
        exact fin I9 q9
      | true =>
        rw [if_pos rfl] at q9 ⊢
        refine wpAny_mono (pe.run _ s9 σ8 H9 _ I9 q9) (fun z s10 ⟨yv, H10, I10, r10, acc, hD10, hz10, nx⟩ => ?_) leave
        exact app_ok (X := blkX X s3 H3 scope ce fp E) I10 hD10 hz10 r10 fun s11 I11 => fin I11 nx
  exact codeAny_compStart_list loop (T.self X.A 0 _ _ _ st4 loop)
theorem pe_lcx {X : Cx} {elt tg iter : Expr} {ifs : List Expr} {scope : Scope} {own : List (Str × Nat)} {pos : Pos} {wi : TI} {g : TG} {tt : L2.St → TT} {te : L2.St → TE} {L : Addr} {WW : WX}
    (hc : CalmH X) (fr : Frm X L) (hx : ∀ u s', ExE X L WW u s' → X.xe u s') (hN : X.N.Nodup) (hi : PIQ X tg iter wi) (ok : BlkOk X.N X.env.scope scope own)
    (hg : ∀ (s : Shared) (H : Hp) (C : Addr) (cl : List (Str × Addr)) (fp : List Addr) (E : Value → Shared → Prop), PG (blkX X s H scope (compEnvC scope cl C X.env) fp E) tg g)
    (ht : ∀ (σ : L2.St) (s : Shared) (H : Hp) (C : Addr) (cl : List (Str × Addr)) (fp : List Addr) (E : Value → Shared → Prop), (∀ u s', ExE (blkX X s H scope (compEnvC scope cl C X.env) fp E) L (fun cls d _ H => WW cls d σ H) u s' → E u s') → PTs (blkX X s H scope (compEnvC scope cl C X.env) fp E) ifs (tt σ))
    (he : ∀ (σ : L2.St) (s : Shared) (H : Hp) (C : Addr) (cl : List (Str × Addr)) (fp : List Addr) (E : Value → Shared → Prop), (∀ u s', ExE (blkX X s H scope (compEnvC scope cl C X.env) fp E) L (fun cls d _ H => WW cls d σ H) u s' → E u s') → PE (blkX X s H scope (compEnvC scope cl C X.env) fp E) elt (te σ))
    (hs : ∀ x, foldedSetIterable iter X.env x = pure x) : PE X (.ListComp elt [⟨tg, iter, ifs, 0⟩] scope pos) (tLcX wi g tt te (own.map (·.2))) := by
  refine ⟨fun pins s σ H Q I h => ?_⟩
  rw [eval_ListComp]
  refine lcx_core hc fr hx hN I hi ok hg ht he hs h fun D C s' m H' I' q hn ⟨f0, f1, f2, f3, f4, f5⟩ => ⟨m, hn, fun h'' sb => ?_⟩
  exact ⟨.ref D, H', I'.turned (t' := s'.toks) (fun b o hb e => (sb.2 b hb).trans e) f0 f1 f3 f4 f5, rfl, q⟩
theorem ps_setLcX {X : Cx} {i : Nat} {y : Str} {py : Pos} {elt tg iter : Expr} {ifs : List Expr} {scope : Scope} {own : List (Str × Nat)} {pos spos : Pos} {wi : TI} {g : TG} {tt : L2.St → TT} {te : L2.St → TE} {L : Addr} {WW : WX}
    (hc : CalmH X) (fr : Frm X L) (hx : ∀ u s', ExE X L WW u s' → X.xe u s') (hN : X.N.Nodup) (hy : X.N[i]? = some y) (hyl : X.env.scope.names.lookup y = some .local) (hsw : swapsWith (.ListComp elt [⟨tg, iter, ifs, 0⟩] scope pos) (some (.Name y py)) spos.line X.env = pure true)
    (hi : PIQ X tg iter wi) (ok : BlkOk X.N X.env.scope scope own)
    (hg : ∀ (s : Shared) (H : Hp) (C : Addr) (cl : List (Str × Addr)) (fp : List Addr) (E : Value → Shared → Prop), PG (blkX X s H scope (compEnvC scope cl C X.env) fp E) tg g)
    (ht : ∀ (σ : L2.St) (s : Shared) (H : Hp) (C : Addr) (cl : List (Str × Addr)) (fp : List Addr) (E : Value → Shared → Prop), (∀ u s', ExE (blkX X s H scope (compEnvC scope cl C X.env) fp E) L (fun cls d _ H => WW cls d σ H) u s' → E u s') → PTs (blkX X s H scope (compEnvC scope cl C X.env) fp E) ifs (tt σ))
    (he : ∀ (σ : L2.St) (s : Shared) (H : Hp) (C : Addr) (cl : List (Str × Addr)) (fp : List Addr) (E : Value → Shared → Prop), (∀ u s', ExE (blkX X s H scope (compEnvC scope cl C X.env) fp E) L (fun cls d _ H => WW cls d σ H) u s' → E u s') → PE (blkX X s H scope (compEnvC scope cl C X.env) fp E) elt (te σ))
    (hs : ∀ x, foldedSetIterable iter X.env x = pure x) : PS X (.Assign [.Name y py] (.ListComp elt [⟨tg, iter, ifs, 0⟩] scope pos) spos) (tAsg (tLcX wi g tt te (own.map (·.2))) (gName i)) := by
  refine ⟨fun pins s σ H D I h => ?_⟩
  have h : tLcX wi g tt te (own.map (·.2)) σ H (fun x H1 => gName i x σ H1 D.nx) := h
  rw [exec_Assign_Name_used _ _ _ _ hsw]
  refine wpAny_bind (wpAny_standAt (wpAny_bind ?_))
  show wpAny _ X.A (do let _ ← comprehension (.ListComp elt [⟨tg, iter, ifs, 0⟩] scope pos) scope X.env (firstIterPos [⟨tg, iter, ifs, 0⟩] pos) (newList []) false (eval iter X.env) (some (assign (.Name y py) X.env))) _ _ s
  refine wpAny_bind (thn (lcx_core (Qf := fun _ s' => SP X pins D .next s') hc fr hx hN I hi ok hg ht he hs h fun L C s' m H' I' q hn ⟨f0, f1, f2, f3, f4, f5⟩ => ?_) fun _ s' hq => wpAny_pure (wpAny_pure hq))
  show wpAny _ _ (assign (.Name y py) X.env (.ref L)) _ _ _
  refine wpAny_assign_Name (store_ok2 (v := V.ref L) I' hN hy (.inl hyl) rfl (fun s2 I2 ⟨a, sb, ha⟩ => ?_) (.inr hyl))
  have ne : C ≠ a := ha.elim (fun z => z ▸ f1) fun z e => f4 y a z e.symm
  exact ⟨m, hn.sameBut sb ne, fun h3 sb3 => ⟨_, H', I2.turned (t' := s2.toks) (fun b o hb e => (sb3.2 b hb).trans e) f0 f1 f3 f4 f5, q⟩⟩

/-! ### walks over lists, tuples, ranges -/
def iSq (K : PySem.W.Frag) (tl : TE) : TI := fun σ H R => tl σ H fun x H1 => ∃ a, x = .ref a ∧ (((∃ xs, SqL K H1 a xs) ∧ R (Itl K a) H1) ∨ ((∃ xs, SqT K H1 a xs) ∧ R (Itt K a) H1))
theorem pi_sqQ {X : Cx} {tg l : Expr} {tl : TE} (hl : PE X l tl) : PIQ X tg l (iSq X.K tl) := by
  refine ⟨fun pins s σ H R I h => thn (hl.run pins s σ H _ I h) ?_⟩
  rintro v s1 ⟨x, H1, J, rx, a, rfl, q⟩
  have rx : v = Value.ref a := rx
  subst rx
  have fresh := J.hok.fresh (Nat.le_refl s1.heap.objs.size)
  have kept : ∀ o : Obj, Inv X pins σ H1 { s1 with heap := s1.heap.push o } := fun o => J.kept (t' := s1.toks) fun b u e => Heap.get?_push_of_some _ e
  have fp : ∀ b ∈ [s1.heap.objs.size], FpOk X pins H1 b := fun b hb => by
    rw [List.mem_singleton] at hb
    rw [hb]
    exact J.fpOk (Nat.le_refl _) fresh
  rcases q with ⟨⟨xs, hq⟩, q⟩ | ⟨⟨xs, hq⟩, q⟩
  · obtain ⟨its, rv, p, hz⟩ := J.list hq
    exact wpAny_pyIter_list p.isList ⟨_, _, _, _, _, H1, False.elim, rfl, kept _, .both (turn_list a _) (turn_listH a _), ⟨_, Heap.get?_push_size _ rfl, rfl, rfl⟩, fp, q⟩
  · obtain ⟨its, rv, p, hz⟩ := J.tuple hq
    exact wpAny_pyIter_tuple (show s1.heap.IsTuple a its.toArray from p) ⟨_, _, _, _, _, H1, False.elim, rfl, kept _, .both (turn_tuple a _) (turn_tupleH a _), ⟨_, Heap.get?_push_size _ rfl, rfl, rfl⟩, fp, q⟩
/-- a walk of the hand layer, where nothing is handled -/
theorem PIQ.calm {X : Cx} {tg iter : Expr} {wi : TI} (hc : X.calm = true) (h : PI X tg iter wi) : PIQ X tg iter wi := by
  refine ⟨fun pins s σ H R I w => wpAny_mono (h.run pins s σ H R I w) (fun v s1 h1 => wpAny_mono h1 (fun itv s2 h2 => ?_) fun _ _ z => z) fun _ _ z => z⟩
  obtain ⟨it, fp, tn, J, H', e, I', T, rest⟩ := h2
  exact ⟨_, it, fp, tn, J, H', fun _ => hc, e, I', .calm T, rest⟩
theorem rng_q {X : Cx} {tg : Expr} {pins : List (Addr × Obj)} {σ : L2.St} {H : Hp} {s : Shared} {R : L2.It → Hp → Prop} {E : Value → Shared → Prop} {lo hi : Int} {t u v : Tok} {tk : Nat} (I : Inv X pins σ H s) (b : (-(2 ^ 62) ≤ lo ∧ lo < 2 ^ 62) ∧ -(2 ^ 62) ≤ hi ∧ hi < 2 ^ 62) (q : R (Itr lo (hi - lo).toNat) H) :
    wpAny (model X.prog X.w) X.A (pyIter (.ref s.heap.objs.size)) (PIEQ X pins σ tg R) E { s with heap := s.heap.push { cls := .type "range", data := .fields #[.int lo t, .int hi u, .int 1 v] }, toks := tk } := by
  refine wpAny_pyIter_range (IsRange.new ..) (small_one b.1.1 b.1.2 b.2.1 b.2.2) ?_
  have I1 : Inv X pins σ H { s with heap := s.heap.push { cls := .type "range", data := .fields #[.int lo t, .int hi u, .int 1 v] }, toks := tk } := I.kept fun b o e => Heap.get?_push_of_some _ e
  refine ⟨_, _, [_], _, _, H, False.elim, rfl, I1.kept (t' := tk) fun b o e => Heap.get?_push_of_some _ e, .both (turn_range _ lo (hi - lo).toNat) (L2H.turn_rangeH _ lo (hi - lo).toNat), ?_, fun b hb => ?_, q⟩
  · have e2 : (((hi - lo).toNat : Nat) : Int) - ((0 : Nat) : Int) = Builtin.Range.rangeSize lo hi 1 := by
      rw [rangeSize_one]
      split <;> omega
    show IsRangeIter _ _ (lo + ((0 : Nat) : Int) * 1) ((((hi - lo).toNat : Nat) : Int) - ((0 : Nat) : Int)) 1
    rw [e2, show lo + ((0 : Nat) : Int) * 1 = lo from by simp]
    exact Heap.get?_push_size _ rfl
  · rw [List.mem_singleton] at hb
    rw [hb]
    exact I1.fpOk (Nat.le_refl _) (I1.hok.fresh (Nat.le_refl _))
theorem pi_rng1Q {X : Cx} {tg a : Expr} {ta : TA} {p pos : Pos} (hg : Gl X "range") (hm : X.mg "range" = none) (ha : PA X [a] ta) (hs : starEach [a] X.env = [(false, eval a X.env)]) : PIQ X tg (.Call (.Name "range" p) [a] [] pos) (iRng1 ta) := by
  refine ⟨fun pins s σ H R I h => Call_ (ld_blt I hg hm boot_range (PyProof.Rows.callWith_type1 (thn (ha.run pos pins s σ H _ I h) ?_) hs rfl))⟩
  rintro us s1 ⟨vs, H1, I1, r1, j, rfl, q1, q2, q⟩
  cases r1 with
  | cons r rr =>
    cases rr
    obtain ⟨t, rfl⟩ := r
    exact call_range_1 (rng_q I1 ⟨⟨by omega, by omega⟩, q1, q2⟩ (by simpa using q))
theorem pi_rng2Q {X : Cx} {tg a b : Expr} {ta : TA} {p pos : Pos} (hg : Gl X "range") (hm : X.mg "range" = none) (ha : PA X [a, b] ta) (hs : starEach [a, b] X.env = [(false, eval a X.env), (false, eval b X.env)]) (hs2 : starEach [b] X.env = [(false, eval b X.env)]) :
    PIQ X tg (.Call (.Name "range" p) [a, b] [] pos) (iRng2 ta) := by
  refine ⟨fun pins s σ H R I h => Call_ (ld_blt I hg hm boot_range (PyProof.Rows.callWith_type1 (thn (ha.run pos pins s σ H _ I h) ?_) (by rw [hs, hs2]) (by rw [hs2]; rfl)))⟩
  rintro us s1 ⟨vs, H1, I1, r1, i, j, rfl, ⟨q1, q2, q3, q4⟩, q⟩
  cases r1 with
  | cons r rr =>
    cases rr with
    | cons r' rr =>
      cases rr
      obtain ⟨t, rfl⟩ := r
      obtain ⟨t', rfl⟩ := r'
      exact call_range_2 (rng_q I1 ⟨⟨q1, q2⟩, q3, q4⟩ q)
theorem ps_forQ {X : Cx} {tg iter : Expr} {body : List Stmt} {wi : TI} {g : TG} {tb : TS} {pos : Pos} (po : PassesOwn (model X.prog X.w) X.A X.env X.xe) (hc : CalmH X) (hi : PIQ X tg iter wi) (hg : PG X tg g) (hb : PSs X body tb) (hs : ∀ x, foldedSetIterable iter X.env x = pure x) :
    PS X (.For tg iter body [] pos) (tFor wi g tb) := by
  refine ⟨fun pins s σ H D I h => wpAny_For (thn (hi.run pins s σ H _ I h) fun v s1 h1 => thn h1 ?_) hs⟩
  rintro itv s2 ⟨c0, it, fp, tn, J, H2, hc0, rfl, I2, T, st2, f2, W, ⟨m0, w0⟩, turn⟩
  have stat : ∀ {H' : Hp}, (∀ b ∈ fp, H' b = none) → ∀ b ∈ fp, FpOk X pins H' b := fun hn b hb => ⟨hn b hb, (f2 b hb).2⟩
  refine codeAny_forLoop_any (fun n s' => ∃ i σ' H', Inv X pins σ' H' s' ∧ tn i s'.heap ∧ (∀ b ∈ fp, H' b = none) ∧ W i n σ' H') ?_ m0 ⟨0, σ, H2, I2, st2, fun b hb => (f2 b hb).1, w0⟩
  rintro n s3 ⟨i, σ3, H3, I3, st3, fr3, w3⟩
  rcases turn i n σ3 H3 w3 with ⟨stop, qn⟩ | ⟨go, N, hN, step⟩
  · refine wpAny_passesOwn po (thn (T.done X rfl rfl rfl hc0 hc i pins s3 σ3 H3 X.xe I3 (stat fr3) st3 stop) ?_)
    rintro r s4 ⟨rfl, I4⟩
    exact wpAny_execs_nil ⟨σ3, H3, I4, qn⟩
  · refine wpAny_passesOwn po (thn (T.item X rfl rfl rfl hc0 hc i pins s3 σ3 H3 X.xe I3 (stat fr3) st3 go) ?_)
    rintro r s4 ⟨u, rfl, h4⟩
    refine wpAny_passesOwn po (thn h4 fun _ s5 ⟨x, H5, I5, r5, y5, st5, fr5⟩ => ?_)
    have I5' := I5.pinned (stat fr5) (T.obj _ _ st5)
    refine wpAny_passesOwn po (thn (hg.run _ s5 σ3 H5 x u _ I5' r5 (step x H5 y5)) fun _ s6 ⟨σ6, H6, I6, q6⟩ => ?_)
    refine wpAny_passesOwn po (thn (hb.run _ s6 σ6 H6 _ I6 q6) fun f s7 q7 => ?_)
    have again : ∀ {σ7 : L2.St} {H7 : Hp}, Inv X (pins ++ pinsAt fp s5.heap) σ7 H7 s7 → N σ7 H7 → ∃ m, m < n ∧ ∃ i σ' H', Inv X pins σ' H' s7 ∧ tn i s7.heap ∧ (∀ b ∈ fp, H' b = none) ∧ W i m σ' H' := fun {σ7 H7} I7 n7 => by
      obtain ⟨m', hm, w7⟩ := hN σ7 H7 n7
      have held : ∀ b ∈ fp, ∀ o, s5.heap.get? b = some o → s7.heap.get? b = some o ∧ H7 b = none := fun b hb o e =>
        have z := I7.pin (b, o) (List.mem_append_right _ (List.mem_append_right _ (mem_pinsAt hb e)))
        ⟨z.1, z.2.1⟩
      refine ⟨m', hm, i + 1, σ7, H7, I7.unpinned, T.keep _ _ _ st5 fun b hb o e => (held b hb o e).1, fun b hb => ?_, w7⟩
      obtain ⟨o, e, d⟩ := T.obj _ _ st5 b hb
      exact (held b hb o e).2
    cases f with
    | next => obtain ⟨σ7, H7, I7, n7⟩ := q7; exact again I7 n7
    | cont => obtain ⟨σ7, H7, I7, n7⟩ := q7; exact again I7 n7
    | brk => obtain ⟨σ7, H7, I7, q7⟩ := q7; exact ⟨σ7, H7, I7.unpinned, q7⟩
    | ret v => obtain ⟨x7, σ7, H7, I7, r7, q7⟩ := q7; exact ⟨x7, σ7, H7, I7.unpinned, r7, q7⟩
end VM
/-! VM4: expressions. -/
namespace VM
open PySem L2 PySem.Spec PyProof.Rows

/-! ### names of a text -/
structure Tx where
  fs : List (Str × List Str)
  cs : List Str
  gl : List Str
  ks : List Str := []
  ms : List Str := []
  fd : List Str := []
/-- a plain name: none of the special ones, no dot in it, not empty -/
def plainN (x : Str) : Bool := (!(x == ("__debug__" : Str)) && !(x == ("__classdict__" : Str)) && !(x == ("__name__" : Str))) && (x.cps.all (· != 46) && !x.cps.isEmpty)
def bis : List Str := ["len", "sum", "abs", "int", "divmod", "all", "isinstance", "range", "bool", "str", "list", "tuple", "dict", "ValueError", "max", "min", "sorted", "set", "enumerate", "zip", "reversed"]
def tnS : Tn → String
  | .none => "NoneType" | .bool => "bool" | .int => "int" | .str => "str" | .list => "list" | .tuple => "tuple" | .dict => "dict"
def allTn : List Tn := [.none, .bool, .int, .str, .list, .tuple, .dict]
theorem mem_allTn (t : Tn) : t ∈ allTn := by cases t <;> decide
/-- what is known of the written part -/
structure Sk (T : Tab) (Γ : Tx) (nm : Nm) (K : PySem.W.Frag) (mg : Str → Option Value) : Prop where
  ln : Γ.cs.length = T.up.length
  fn : ∀ (f : Nat) (x : Str) (ps : List Str), Γ.fs[f]? = some (x, ps) → plainN x = true → mg x = some (.ref (nm.fa f)) ∧ PySem.W.keepIn K (.ref (nm.fa f)) = true
  free : ∀ x ∈ bis, mg x = none
  gl : ∀ (g : Nat) (x : Str), Γ.gl[g]? = some x → plainN x = true → ∃ (v : V) (u : Value), mg x = some u ∧ RelV v u ∧ ∀ (W : Wd) (ρ : List Addr) (G : Hp), W.K = K → Fz W ρ G (T.glob.getD g .non) v
  cl : ∀ (c : Nat) (x : Str), Γ.cs[c]? = some x → plainN x = true → mg x = some (.ref (nm.ca c)) ∧ PySem.W.keepIn K (.ref (nm.ca c)) = true
  ct : ∀ (c : Nat) (x : Str) (t : Tn), Γ.cs[c]? = some x → plainN x = true → PySem.W.kitOne K (.type (tnS t)) (.ref (nm.ca c)) = some false
  ex : ∀ (c : Nat) (x : Str), Γ.cs[c]? = some x → plainN x = true → PySem.W.excIn K (nm.ca c) [.type "ValueError", .type "Exception", .type "BaseException", .type "object"] "ValueError.__new__" = true ∧ PySem.W.subIn K (.ref (nm.ca c)) (.type "BaseException") = some true ∧ PySem.W.typeIn K (.ref (nm.ca c)) = some (.type "type") ∧ ExcC K (nm.ca c) ∧ PySem.W.kitOne K (.ref (nm.ca c)) (.type "ValueError") = some true
  ee : ∀ (c c' : Nat) (x x' : Str), Γ.cs[c]? = some x → Γ.cs[c']? = some x' → plainN x = true → plainN x' = true → PySem.W.kitOne K (.ref (nm.ca c)) (.ref (nm.ca c')) = some (subC T.up 9 c c') ∧ PySem.W.exmOne K (.ref (nm.ca c)) (.ref (nm.ca c')) = some (subC T.up 9 c c')
  rl : ∀ (c : Nat), T.rl.getD c false = true → ∃ x, Γ.cs[c]? = some x ∧ plainN x = true
  /-- classes of plain objects -/
  kl : ∀ (C : Nat) (x : Str), Γ.ks[C]? = some x → plainN x = true → nm.kr C = true ∧ mg x = some (.ref (nm.ka C)) ∧ Mk K (nm.ka C) (nm.fa (T.ini.getD C 0)) ∧ (∃ z ps, Γ.fs[T.ini.getD C 0]? = some (z, ps) ∧ z ≠ "") ∧
    ClX.CRead K (nm.ka C) (.type "type") ∧ PySem.W.findCls K (.ref (nm.ka C)) (.type "type") "__init__" = some (.val (.ref (nm.fa (T.ini.getD C 0)))) ∧ PySem.W.keepIn K (.ref (nm.fa (T.ini.getD C 0))) = true
  kc : ∀ (C : Nat), nm.kr C = true → Cls K (nm.ka C) ∧ PySem.W.findIn K (.ref (nm.ka C)) "__class__" = some (some (.builtin "object.__class__")) ∧ PySem.W.specialIn K (.builtin "object.__class__") "__get__" = some (some (.builtin "getset_descriptor.__get__")) ∧
    PySem.W.takesIn K (.builtin "object.__class__") = some true ∧ PySem.W.mroIn K (nm.ka C) (.type "object") = some true
  kf : ∀ (C f : Nat) (x : Str), nm.kr C = true → Γ.fd[f]? = some x → x ≠ "" → NoAttr K (nm.ka C) x ∧ nm.fn f = x
  km : ∀ (C m g : Nat) (x : Str), nm.kr C = true → T.meth C m = some g → Γ.ms[m]? = some x → ∃ y ps, Γ.fs[g]? = some (y, ps) ∧ y ≠ "" ∧ Meth K (nm.ka C) x (nm.fa g)
  kd : ∀ (f m : Nat) (x : Str), Γ.ms[m]? = some x → nm.fn f ≠ x
  ki : ∀ (C C' : Nat) (x : Str), nm.kr C = true → Γ.ks[C']? = some x → plainN x = true → PySem.W.kitOne K (.ref (nm.ka C)) (.ref (nm.ka C')) = some (subC T.kup 9 C C')
  kt : ∀ (C : Nat) (t : Tn), nm.kr C = true → PySem.W.kitOne K (.ref (nm.ka C)) (.type (tnS t)) = some false
  ku : ∀ (C : Nat) (t : Tn) (x : Str), Γ.ks[C]? = some x → plainN x = true → PySem.W.kitOne K (.type (tnS t)) (.ref (nm.ka C)) = some false

/-! ### calls -/
/-- how a call's answer stands for its caller -/
def ResC (W : Wd) (Fr : Hp) (ρ : List Addr) (G : Hp) (H : Hp) (r : KD) (v : V) : Prop :=
  match r.k with
  | .f => Fz W ρ G r.d v
  | .n => ∃ p, v = .ref p ∧ New W Fr ρ G H r.d p
  | .b => False
def AftC (W : Wd) (Fr : Hp) (ρ : List Addr) (G : Hp) (R : Rs KD) (Q : VK) (E : XK) : Prop :=
  match R with
  | .ok r M => ∀ (ρ' : List Addr) (G' : Hp) (v : V) (H' : Hp), Rle ρ ρ' → Hle G G' → MRel W Fr ρ' G' M H' → ResC W Fr ρ' G' H' r v → Q v H'
  | .ex C M => ∀ (ρ' : List Addr) (G' : Hp) (H' : Hp), Rle ρ ρ' → Hle G G' → MRel W Fr ρ' G' M H' → E (.ref (W.ca C)) none H'
  | .stk => False
def spC (W : Wd) (Φ : Nat → List D → Mem → Rs KD) (f np : Nat) : Sp := fun vs H Q E => vs.length = np ∧ ∃ (Fr : Hp) (ρ : List Addr) (G : Hp) (M : Mem) (ds : List D),
  MRel W Fr ρ G M H ∧ Fzs W ρ G ds vs ∧ AftC W Fr ρ G (Φ f ds M) Q E
/-- what a def promises where an exception is handled -/
structure FnX (P : Program) (w : World) (K : PySem.W.Frag) (mg : Str → Option Value) (base : Heap) (CX : CXT) (k : Nat) (f : Addr) (fd : FuncData) (ps : List Str) (cls : Value) (sp : Addr → Sp) : Prop where
  len : ∀ a vs H Q E, sp a vs H Q E → vs.length = ps.length
  run : ∀ (A : Around) (outer : List Env) (s : Shared) (H : Hp) (args : Args) (us : List Value) (vs : List V) (Q : VK) (E : XK) (p : Addr × Obj), L2H.RoomH k A → L2H.Hot1 A p → L2H.PinOk outer H s p → Zc cls none p.2 →
    Env0 P w K mg base A outer s H → BindsTo s fd args (ps.zip us) → Vals vs us → sp p.1 vs H Q E → codeAny (model P w) A (.call (.ref f) args) (CR CX outer P w H s Q E) s
structure Cok (T : Tab) (Φ : Hot → Nat → List D → Mem → Rs KD) (Γ : Tx) (nm : Nm) (n : Nat) (N : List Str) (sc : Scope) (hot : Hot) (xa : Option Addr) (WW : WX) (X : Cx) : Prop where
  N : X.N = N
  nd : X.N.Nodup
  sc : X.env.scope = sc
  sk : Sk T Γ nm X.K X.mg
  fx : ∃ L, Frm X L ∧ ∀ u s', ExE X L WW u s' → X.xe u s'
  un : X.A.units + 64 < cLine
  mode : match hot with
    | none => xa = none ∧ X.calm = true ∧ Room (n + 1) X.A
    | some c => ∃ p : Addr × Obj, (xa = none ∨ xa = some p.1) ∧ p ∈ X.pn ∧ L2H.Hot1 X.A p ∧ Zc (.ref (nm.ca c)) none p.2 ∧ (∃ x, Γ.cs[c]? = some x ∧ plainN x = true) ∧ L2H.RoomH n X.A
  ar : ∀ (h : Hot) (f : Nat) (x : Str) (ps : List Str) (ds : List D) (M : Mem), Γ.fs[f]? = some (x, ps) → ds.length ≠ ps.length → Φ h f ds M = .stk
  fk : ∀ (f : Nat) (x : Str) (ps : List Str), Γ.fs[f]? = some (x, ps) → x ≠ "" → ∃ fd, Binds X.K fd ps [] ∧
    FnOk X.prog X.w X.K X.mg X.base (L2N.CX X.prog X.w) n (nm.fa f) fd ps (spC (wd X nm none) (Φ none) f ps.length) ∧
    ∀ (c : Nat) (z : Str), Γ.cs[c]? = some z → plainN z = true → FnX X.prog X.w X.K X.mg X.base (L2N.CX X.prog X.w) n (nm.fa f) fd ps (.ref (nm.ca c)) fun a vs H Q E => ∃ xa, (xa = none ∨ xa = some a) ∧ spC (wd X nm xa) (Φ (some c)) f ps.length vs H Q E

section
variable {W : Wd} {WW : WX} {Fr : Hp} {ρ : List Addr} {G : Hp} {σs : List SV} {M : Mem} {σ : L2.St} {H : Hp}
open Classical in
/-- what a callee may not touch -/
noncomputable def ownH (Fr : Hp) (σs : List SV) (σ : L2.St) (H : Hp) : Hp := fun a => if (∃ i, Own σs σ i a) then H a else Fr a
theorem Rel.callee (r : Rel W Fr ρ G σs M σ H) : MRel W (ownH Fr σs σ H) ρ G M H where
  gh := r.gh
  fh := fun a o e => by
    unfold ownH at e
    split at e
    · exact e
    · exact r.fh _ _ e
  gf := fun a o e => by
    unfold ownH at e
    split at e
    · rename_i h
      obtain ⟨i, d, e1, e2⟩ := h
      obtain ⟨p, e3, n⟩ := r.own i d e1
      rw [e2] at e3; cases e3
      exact n.g
    · exact r.gf _ _ e
  len := r.len
  mem := fun i a d e1 e2 => by
    obtain ⟨ho, h1, h2, h3, h4⟩ := r.mem i a d e1 e2
    refine ⟨ho, h1, h2, h3, ?_⟩
    unfold ownH
    rw [if_neg]
    · exact h4
    · rintro ⟨j, d', e3, e4⟩
      obtain ⟨p, e5, n⟩ := r.own j d' e3
      rw [e4] at e5; cases e5
      exact n.r (List.mem_of_getElem? e1)
  nd := r.nd
theorem Rel.back {ρ' : List Addr} {G' : Hp} {M' : Mem} {H' : Hp} (r : Rel W Fr ρ G σs M σ H) (hr : Rle ρ ρ') (hg : Hle G G') (m : MRel W (ownH Fr σs σ H) ρ' G' M' H') : Rel W Fr ρ' G' σs M' σ H' := by
  have own : ∀ {i p}, Own σs σ i p → ∃ ho, H p = some ho ∧ H' p = some ho ∧ G' p = none ∧ p ∉ ρ' ∧ ownH Fr σs σ H p = some ho := fun {i p} h => by
    obtain ⟨d, e1, e2⟩ := id h
    obtain ⟨q, e3, n⟩ := r.own i d e1
    rw [e2] at e3; cases e3
    obtain ⟨ho, e, _⟩ := n.at_
    have eo : ownH Fr σs σ H p = some ho := by unfold ownH; rw [if_pos ⟨i, h⟩]; exact e
    refine ⟨ho, e, m.fh _ _ eo, m.gf _ _ eo, fun hm => ?_, eo⟩
    obtain ⟨j, hj, ej⟩ := List.getElem_of_mem hm
    have hm' : j < M'.length := by rw [m.len]; exact hj
    obtain ⟨ho2, b1, b2, _, h4⟩ := m.mem j p M'[j] (by rw [List.getElem?_eq_getElem hj, ej]) (List.getElem?_eq_getElem hm')
    rw [eo] at h4
    rcases h4 with h4 | h4
    · cases h4
    · obtain ⟨ho3, c1, c2⟩ := n.at_
      rw [m.fh _ _ eo] at b1
      cases b1
      rw [e] at c1
      cases c1
      exact dlk_not n.l c2 h4 b2
  have fr : ∀ a o, Fr a = some o → ownH Fr σs σ H a = some o := fun a o e => by
    unfold ownH
    split
    · exact r.fh _ _ e
    · exact e
  refine ⟨⟨m.gh, fun a o e => m.fh _ _ (fr a o e), fun a o e => m.gf _ _ (fr a o e), m.len, fun i a d e1 e2 => ?_, m.nd⟩, r.sl, fun i d e => ?_, fun i d e => ?_, r.uniq⟩
  · obtain ⟨ho, h1, h2, h3, h4⟩ := m.mem i a d e1 e2
    refine ⟨ho, h1, h2, h3, ?_⟩
    cases q : Fr a with
    | none => exact .inl rfl
    | some o => rw [fr _ _ q] at h4; exact .inr (h4.resolve_left (fun z => nomatch z))
  · obtain ⟨v, h1, h2⟩ := r.val i d e
    exact ⟨v, h1, h2.mono hr hg⟩
  · obtain ⟨p, e1, n⟩ := r.own i d e
    obtain ⟨ho, h1, h2, h3, h4, _⟩ := own ⟨d, e, e1⟩
    exact ⟨p, e1, n.mono hr hg (fun o eo => by rw [h1] at eo; cases eo; exact h2) h3 h4⟩
/-- a call's end, for the caller -/
theorem Aft.toC {R : Rs KD} {Q : VK} (r : Rel W Fr ρ G σs M σ H) (h : Aft W WW Fr (RRk W Fr) ρ G σs σ R Q) : AftC W (ownH Fr σs σ H) ρ G R Q (fun c d H' => WW c d σ H') := by
  cases R with
  | ok a M' =>
    obtain ⟨k, d⟩ := a
    intro ρ' G' v H' hr hg m k'
    refine h ρ' G' v H' hr hg (r.back hr hg m) ?_
    cases k with
    | f => exact k'
    | n =>
      obtain ⟨p, e, n⟩ := k'
      have nf : ∀ i, ¬ Own σs σ i p := fun i hi => by
        have : ownH Fr σs σ H p = H p := by unfold ownH; rw [if_pos ⟨i, hi⟩]
        obtain ⟨d', e1, e2⟩ := hi
        obtain ⟨q, e3, n'⟩ := r.own i d' e1
        rw [e2] at e3; cases e3
        obtain ⟨ho, e4, _⟩ := n'.at_
        have := this.symm.trans n.f
        rw [e4] at this; cases this
      refine ⟨p, e, ⟨n.at_, n.g, ?_, n.r, n.l⟩, nf⟩
      have nn := n.f
      unfold ownH at nn
      rw [if_neg (fun ⟨i, hi⟩ => nf i hi)] at nn
      exact nn
    | b => exact k'.elim
  | ex C M' => exact fun ρ' G' H' hr hg m => h ρ' G' H' hr hg (r.back hr hg m)
  | stk => exact h
end

/-! ### what a checked text is -/
def visC (sc : Scope) (x : Str) : Bool :=
  match sc.names.lookup x with
  | some .local => true
  | some .cell => true
  | some .free => true
  | _ => false
def gloC (sc : Scope) (x : Str) : Bool :=
  match sc.names.lookup x with
  | some .globalImplicit => true
  | _ => false
def locC (sc : Scope) (x : Str) : Bool :=
  match sc.names.lookup x with
  | some .local => true
  | some .cell => true
  | _ => false
theorem visC_ok {sc : Scope} {x : Str} (h : visC sc x = true) : Vis sc x := by
  unfold visC at h
  unfold Vis
  split at h <;> simp_all
theorem gloC_ok {sc : Scope} {x : Str} (h : gloC sc x = true) : sc.names.lookup x = some .globalImplicit := by
  unfold gloC at h
  split at h <;> simp_all
theorem locC_ok {sc : Scope} {x : Str} (h : locC sc x = true) : sc.names.lookup x = some .local ∨ sc.names.lookup x = some .cell := by
  unfold locC at h
  split at h <;> simp_all
theorem plainN_ok {x : Str} (h : plainN x = true) : (x == ("__debug__" : Str)) = false ∧ (x == ("__classdict__" : Str)) = false ∧ x ≠ "__name__" := by
  unfold plainN at h
  simp only [Bool.and_eq_true, Bool.not_eq_true'] at h
  exact ⟨h.1.1.1, h.1.1.2, fun z => by rw [z] at h; simp at h⟩
theorem plainN_ne {x : Str} (h : plainN x = true) : x ≠ "" := fun z => by
  rw [z] at h
  exact absurd h (by decide +kernel)
/-- no star -/
def noStar : Expr → Bool
  | .Starred _ _ => false
  | _ => true
theorem star_cons {e : Expr} {es : List Expr} {env : Env} (h : noStar e = true) : starEach (e :: es) env = (false, eval e env) :: starEach es env := by
  cases e <;> first | rfl | cases h
theorem star_any {es : List Expr} {env : Env} {pos : Pos} (h : es.all noStar = true) : (backTo pos (starEach es env)).any (·.1) = false := by
  induction es with
  | nil => rfl
  | cons e es ih =>
    simp only [List.all_cons, Bool.and_eq_true] at h
    rw [star_cons h.1]
    show (false || (backTo pos (starEach es env)).any (·.1)) = false
    rw [ih h.2]; rfl
def noSlice : Expr → Bool
  | .Slice _ _ _ _ => false
  | _ => true
theorem plainIx {e : Expr} (h : noSlice e = true) : PlainIx e := fun o i => by cases e <;> first | rfl | cases h

section
variable {T : Tab} {Φ : Hot → Nat → List D → Mem → Rs KD} {Γ : Tx} {nm : Nm} {n : Nat} {N : List Str} {sc : Scope} {hot : Hot} {xa : Option Addr} {WW : WX} {X : Cx}
theorem v_var (c : Cok T Φ Γ nm n N sc hot xa WW X) {i : Nat} {x : Str} {pos : Pos} (h1 : N[i]? = some x) (h2 : visC sc x = true) (h3 : plainN x = true) :
    PE X (.Name x pos) (LK (wd X nm xa) WW fun σ M => ev T (Φ hot) hot (.v i) σ M) := by
  refine PE.weak (pe_var (i := i) (by rw [c.N]; exact h1) (by rw [c.sc]; exact visC_ok h2) (plainN_ok h3).1 (plainN_ok h3).2.1) fun σ H Q ⟨Fr, ρ, G, σs, M, r, a⟩ => ?_
  simp only [ev] at a
  split at a
  · rename_i d e
    obtain ⟨v, h, f⟩ := r.val i d e
    exact ⟨v, h, a ρ G v H (Rle.refl _) (Hle.refl _) r f⟩
  · rename_i d e
    obtain ⟨p, h, f⟩ := r.own i d e
    exact ⟨_, h, a ρ G _ H (Rle.refl _) (Hle.refl _) r ⟨i, e, h⟩⟩
  · exact a.elim
def constC : D → Const → Bool
  | .non, .none => true
  | .bl a, .bool b => a == b
  | .int i, .int j => decide (i = j)
  | .str s, .str x => decide (x = tx s) && (decide (s.length < line) && s.all (decide <| · < 1114112))
  | _, _ => false
theorem v_const {d : D} {k : Const} {j : Nat} {pos : Pos} {W : Wd} (h : constC d k = true) : PE X (.Constant k j pos) (LK W WW fun σ M => ok1 d M) := by
  have fin : ∀ {v : V}, PE X (.Constant k j pos) (tC v) → (∀ ρ G, Fz W ρ G d v) → PE X (.Constant k j pos) (LK W WW fun σ M => ok1 d M) := fun {v} p f =>
    PE.weak p fun σ H Q ⟨Fr, ρ, G, σs, M, r, a⟩ => a.one r (f ρ G)
  unfold constC at h
  split at h
  · exact fin pe_non fun _ _ => rfl
  · rename_i a b
    have : a = b := by simpa using h
    subst this
    exact fin L2.pe_bl fun _ _ => rfl
  · rename_i a b
    have : a = b := of_decide_eq_true h
    subst this
    exact fin pe_int fun _ _ => rfl
  · rename_i a b
    simp only [Bool.and_eq_true, decide_eq_true_eq, List.all_eq_true] at h
    obtain ⟨h1, h2⟩ := h
    subst h1
    exact fin pe_str fun _ _ => .mkS h2
  · cases h
theorem v_glob (c : Cok T Φ Γ nm n N sc hot xa WW X) {g : Nat} {x : Str} {pos : Pos} (h1 : Γ.gl[g]? = some x) (h2 : gloC sc x = true) (h3 : plainN x = true) :
    PE X (.Name x pos) (LK (wd X nm xa) WW fun σ M => ev T (Φ hot) hot (.g g) σ M) := by
  obtain ⟨v, u, e, rv, f⟩ := c.sk.gl g x h1 h3
  refine PE.weak (pe_glob (show Gl X x from by unfold Gl Env.kindOf; rw [c.sc]; exact gloC_ok h2) e rv (plainN_ok h3).1) fun σ H Q ⟨Fr, ρ, G, σs, M, r, a⟩ => ?_
  simp only [ev] at a
  exact a.one r (f _ _ _ rfl)
section
variable {W : Wd} {ra rb rc : List SV → Mem → Rs KD} {a b e : Expr} {pos : Pos}
/-- two operands that are looked at -/
theorem two_ops {f : D → D → Mem → Rs KD} {σ : L2.St} {H : Hp} {Q : VK} (h : LK W WW (fun σ M => (ra σ M).bw.bind fun x M => (rb σ M).bw.bind fun y M => f x y M) σ H Q) :
    LB W WW (fun σ M => (ra σ M).bw) σ H fun x H1 => LB W WW (fun σ M => (rb σ M).bw) σ H1 fun y H2 => rO W WW f x y H2 Q := by
  obtain ⟨Fr, ρ, G, σs, M, r, q⟩ := h
  refine ⟨Fr, ρ, G, σs, M, r, (Aft.bind (RA := RRb W) q).weaker ?_⟩
  rintro x H1 ⟨ρ1, G1, M1, d, hr1, hg1, r1, k1, q1⟩
  refine ⟨Fr, ρ1, G1, σs, M1, r1, (Aft.bind (RA := RRb W) q1).weaker ?_⟩
  rintro y H2 ⟨ρ2, G2, M2, e, hr2, hg2, r2, k2, q2⟩
  exact ⟨Fr, ρ2, G2, σs, M2, σ, d, e, r2, k1.elim (fun k => .inl (k.mono hr2 hg2)) .inr, k2, q2⟩
theorem v_bin (hK : W.K = X.K) {o : Bop} (ha : PE X a (LK W WW ra)) (hb : PE X b (LK W WW rb)) :
    PE X (.BinOp a (opA o) b pos) (LK W WW fun σ M => (ra σ M).bw.bind fun x M => (rb σ M).bw.bind fun y M => binop o x y M) :=
  PE.weak (pe_op (op_bin (WW := WW) hK o) (pe_bw ha) (pe_bw hb)) fun _ _ _ h => two_ops h
theorem v_cmp (hK : W.K = X.K) (hu : X.A.units + 64 < cLine) {o : Cop} (hm : behindInMarks (cpA o) b = false) (ha : PE X a (LK W WW ra)) (hb : PE X b (LK W WW rb)) :
    PE X (.Compare a [cpA o] [b] pos) (LK W WW fun σ M => (ra σ M).bw.bind fun x M => (rb σ M).bw.bind fun y M => okB (cmpop o x y M) M) :=
  PE.weak (pe_cmpR (op_cmpD (WW := WW) hK hu o) (pe_bw ha) (pe_bw hb) hm) fun _ _ _ h => two_ops h
theorem v_neg (ha : PE X a (LK W WW ra)) : PE X (.UnaryOp .USub a pos) (LK W WW fun σ M => (ra σ M).bw.bind fun x M => (match x with
    | .int i => ok1 (.int (-i)) M
    | _ => .stk)) := by
  refine PE.weak (pe_un un_neg (pe_bw ha)) fun σ H Q ⟨Fr, ρ, G, σs, M, r, q⟩ => ?_
  refine ⟨Fr, ρ, G, σs, M, r, (Aft.bind (RA := RRb W) q).weaker ?_⟩
  rintro x H1 ⟨ρ1, G1, M1, d, hr1, hg1, r1, k1, q1⟩
  dsimp only at q1
  split at q1
  · rename_i i
    exact ⟨i, k1.int r1, q1.one r1 rfl⟩
  · exact q1.elim
theorem v_not (ha : PE X a (LK W WW ra)) : PE X (.UnaryOp .Not a pos) (LK W WW fun σ M => (ra σ M).bl.bind fun b M => ok1 (.bl (!b)) M) := by
  refine PE.weak (pe_not (pe_bl ha)) fun σ H Q ⟨Fr, ρ, G, σs, M, r, q⟩ => ?_
  refine ⟨Fr, ρ, G, σs, M, r, (Aft.bind (RA := RRl) q).weaker ?_⟩
  rintro x H1 ⟨ρ1, G1, M1, d, hr1, hg1, r1, k1, q1⟩
  exact ⟨d, k1, q1.one r1 rfl⟩
theorem v_and {x y : Expr} {rest : List Expr} (ha : PE X x (LK W WW ra)) (hb : PE X (.BoolOp .And (y :: rest) pos) (LK W WW rb)) :
    PE X (.BoolOp .And (x :: y :: rest) pos) (LK W WW fun σ M => (ra σ M).bl.bind fun x M => if x then (rb σ M).bl.bind fun y M => ok1 (.bl y) M else ok1 (.bl false) M) := by
  refine PE.weak (pe_and (pe_bl ha) (pe_bl hb)) fun σ H Q ⟨Fr, ρ, G, σs, M, r, q⟩ => ?_
  refine ⟨Fr, ρ, G, σs, M, r, (Aft.bind (RA := RRl) q).weaker ?_⟩
  rintro x H1 ⟨ρ1, G1, M1, d, hr1, hg1, r1, k1, q1⟩
  refine ⟨d, k1, ?_⟩
  cases d with
  | true =>
    refine ⟨Fr, ρ1, G1, σs, M1, r1, (Aft.bind (RA := RRl) q1).weaker ?_⟩
    rintro y H2 ⟨ρ2, G2, M2, e, hr2, hg2, r2, k2, q2⟩
    exact q2.one r2 k2
  | false => exact q1.one r1 rfl
theorem v_or {x y : Expr} {rest : List Expr} (ha : PE X x (LK W WW ra)) (hb : PE X (.BoolOp .Or (y :: rest) pos) (LK W WW rb)) :
    PE X (.BoolOp .Or (x :: y :: rest) pos) (LK W WW fun σ M => (ra σ M).bl.bind fun x M => if x then ok1 (.bl true) M else (rb σ M).bl.bind fun y M => ok1 (.bl y) M) := by
  refine PE.weak (pe_or (pe_bl ha) (pe_bl hb)) fun σ H Q ⟨Fr, ρ, G, σs, M, r, q⟩ => ?_
  refine ⟨Fr, ρ, G, σs, M, r, (Aft.bind (RA := RRl) q).weaker ?_⟩
  rintro x H1 ⟨ρ1, G1, M1, d, hr1, hg1, r1, k1, q1⟩
  refine ⟨d, k1, ?_⟩
  cases d with
  | false =>
    refine ⟨Fr, ρ1, G1, σs, M1, r1, (Aft.bind (RA := RRl) q1).weaker ?_⟩
    rintro y H2 ⟨ρ2, G2, M2, e, hr2, hg2, r2, k2, q2⟩
    exact q2.one r2 k2
  | true => exact q1.one r1 rfl
theorem chain_ops {f g : D → D → Mem → Rs KD} {σ : L2.St} {H : Hp} {P : VK} {R : VK} (h : LK W WW (fun σ M => (ra σ M).bw.bind fun x M => (rb σ M).bw.bind fun y M => (f x y M).bl.bind fun k M =>
      if k then (rc σ M).bw.bind fun z M => g y z M else ok1 (.bl false) M) σ H P) (hP : ∀ v H', P v H' → R v H') :
    LB W WW (fun σ M => (ra σ M).bw) σ H fun x H1 => LB W WW (fun σ M => (rb σ M).bw) σ H1 fun y H2 => rO W WW f x y H2 fun z H3 => ∃ k, z = .bl k ∧
      if k = true then LB W WW (fun σ M => (rc σ M).bw) σ H3 fun w H4 => rO W WW g y w H4 P else P (.bl false) H3 := by
  obtain ⟨Fr, ρ, G, σs, M, r, q⟩ := h
  refine ⟨Fr, ρ, G, σs, M, r, (Aft.bind (RA := RRb W) q).weaker ?_⟩
  rintro x H1 ⟨ρ1, G1, M1, d, hr1, hg1, r1, k1, q1⟩
  refine ⟨Fr, ρ1, G1, σs, M1, r1, (Aft.bind (RA := RRb W) q1).weaker ?_⟩
  rintro y H2 ⟨ρ2, G2, M2, e, hr2, hg2, r2, k2, q2⟩
  refine ⟨Fr, ρ2, G2, σs, M2, σ, d, e, r2, k1.elim (fun k => .inl (k.mono hr2 hg2)) .inr, k2, ?_⟩
  refine Aft.bl ((Aft.bind (RA := RRl) q2).weaker ?_)
  rintro z H3 ⟨ρ3, G3, M3, k, hr3, hg3, r3, k3, q3⟩
  refine ⟨k, k3, ?_⟩
  cases k with
  | true =>
    refine ⟨Fr, ρ3, G3, σs, M3, r3, (Aft.bind (RA := RRb W) q3).weaker ?_⟩
    rintro w H4 ⟨ρ4, G4, M4, u, hr4, hg4, r4, k4, q4⟩
    exact ⟨Fr, ρ4, G4, σs, M4, σ, e, u, r4, k2.elim (fun k => .inl (k.mono (hr3.trans hr4) (hg3.trans hg4))) .inr, k4, q4⟩
  | false => exact q3.one r3 rfl
theorem v_chn (hK : W.K = X.K) (hu : X.A.units + 64 < cLine) {o o' : Cop} {c : Expr} (hm : lastMarks [cpA o, cpA o'] [b, c] = false) (ha : PE X a (LK W WW ra)) (hb : PE X b (LK W WW rb)) (hc : PE X c (LK W WW rc)) :
    PE X (.Compare a [cpA o, cpA o'] [b, c] pos) (LK W WW fun σ M => (ra σ M).bw.bind fun x M => (rb σ M).bw.bind fun y M => (okB (cmpop o x y M) M).bl.bind fun k M =>
      if k then (rc σ M).bw.bind fun z M => okB (cmpop o' y z M) M else ok1 (.bl false) M) :=
  PE.weak (pe_chain (op_cmpD (WW := WW) hK hu o) (op_cmpD (WW := WW) hK hu o') (pe_bw ha) (pe_bw hb) (pe_bw hc) hm) fun _ _ _ h => chain_ops h fun _ _ z => z
theorem v_ife {t : Expr} {rt : List SV → Mem → Rs KD} (ht : PT X t (LT W WW fun σ M => (rt σ M).bl)) (ha : PE X a (LK W WW ra)) (hb : PE X b (LK W WW rb)) :
    PE X (.IfExp t a b pos) (LK W WW fun σ M => (rt σ M).bl.bind fun k M => if k then ra σ M else rb σ M) := by
  refine PE.weak (pe_ifExp ht ha hb) fun σ H Q ⟨Fr, ρ, G, σs, M, r, q⟩ => ?_
  refine ⟨Fr, ρ, G, σs, M, r, (Aft.bind (RA := RRt) q).weaker ?_⟩
  rintro x H1 ⟨ρ1, G1, M1, d, hr1, hg1, r1, k1, q1⟩
  subst k1
  cases x with
  | true => exact ⟨Fr, ρ1, G1, σs, M1, r1, q1⟩
  | false => exact ⟨Fr, ρ1, G1, σs, M1, r1, q1⟩
theorem v_ix (hK : W.K = X.K) (hu : X.A.units + 64 < cLine) (hs : noSlice b = true) (ha : PE X a (LK W WW ra)) (hb : PE X b (LK W WW rb)) :
    PE X (.Subscript a b pos) (LK W WW fun σ M => (ra σ M).bw.bind fun x M => (rb σ M).bw.bind fun y M => index x y M) :=
  PE.weak (pe_ix (ix_all (WW := WW) hK hu) (pe_bw ha) (pe_bw hb) (plainIx hs)) fun _ _ _ h => two_ops h

/-! ### lists of arguments -/
theorem va_nil : PA X [] (LA W WW fun σ M => .ok [] M) := PA.weak pa_nil fun σ H Q ⟨Fr, ρ, G, σs, M, r, q⟩ => q ρ G [] H (Rle.refl _) (Hle.refl _) r .nil
theorem vb_nil : PA X [] (LAb W WW fun σ M => .ok [] M) := PA.weak pa_nil fun σ H Q ⟨Fr, ρ, G, σs, M, r, q⟩ => q ρ G [] H (Rle.refl _) (Hle.refl _) r (show Bzs W ρ G σs σ [] [] from by unfold Bzs; rfl)
theorem Bzs.mono {ρ ρ' : List Addr} {G G' : Hp} {σs : List SV} {σ : L2.St} (hr : Rle ρ ρ') (hg : Hle G G') : ∀ {ds : List D} {vs : List V}, Bzs W ρ G σs σ ds vs → Bzs W ρ' G' σs σ ds vs
  | [], _, h => by unfold Bzs at h ⊢; exact h
  | d :: ds, vs, h => by
    unfold Bzs at h ⊢
    obtain ⟨v, r, e, b, k⟩ := h
    exact ⟨v, r, e, b.elim (fun z => .inl (z.mono hr hg)) .inr, k.mono hr hg⟩
theorem va_cons {es : List Expr} {rs : List SV → Mem → Rs (List D)} (hs : noStar a = true) (ha : PE X a (LK W WW ra)) (hb : PA X es (LA W WW rs)) :
    PA X (a :: es) (LA W WW fun σ M => (ra σ M).fz.bind fun d M => (rs σ M).bind fun ds M => .ok (d :: ds) M) := by
  refine PA.weak (pa_cons (pe_fz ha) hb (star_cons hs)) fun σ H Q ⟨Fr, ρ, G, σs, M, r, q⟩ => ?_
  refine ⟨Fr, ρ, G, σs, M, r, (Aft.bind (RA := RRf W) q).weaker ?_⟩
  rintro x H1 ⟨ρ1, G1, M1, d, hr1, hg1, r1, k1, q1⟩
  refine ⟨Fr, ρ1, G1, σs, M1, r1, (Aft.bind (RA := RRfs W) q1).weaker ?_⟩
  rintro y H2 ⟨ρ2, G2, M2, e, hr2, hg2, r2, k2, q2⟩
  exact q2.here r2 (.cons (k1.mono hr2 hg2) k2)
theorem vb_cons {es : List Expr} {rs : List SV → Mem → Rs (List D)} (hs : noStar a = true) (ha : PE X a (LK W WW ra)) (hb : PA X es (LAb W WW rs)) :
    PA X (a :: es) (LAb W WW fun σ M => (ra σ M).bw.bind fun d M => (rs σ M).bind fun ds M => .ok (d :: ds) M) := by
  refine PA.weak (pa_cons (pe_bw ha) hb (star_cons hs)) fun σ H Q ⟨Fr, ρ, G, σs, M, r, q⟩ => ?_
  refine ⟨Fr, ρ, G, σs, M, r, (Aft.bind (RA := RRb W) q).weaker ?_⟩
  rintro x H1 ⟨ρ1, G1, M1, d, hr1, hg1, r1, k1, q1⟩
  refine ⟨Fr, ρ1, G1, σs, M1, r1, (Aft.bind (RA := RRbs W) q1).weaker ?_⟩
  rintro y H2 ⟨ρ2, G2, M2, e, hr2, hg2, r2, k2, q2⟩
  refine q2.here r2 ?_
  unfold RRbs Bzs
  exact ⟨x, y, rfl, k1.elim (fun z => .inl (z.mono hr2 hg2)) .inr, k2⟩
theorem v_tup {es : List Expr} {rs : List SV → Mem → Rs (List D)} {k : Nat} (h : PA X es (LA W WW rs)) : PE X (.Tuple es k pos) (LK W WW fun σ M => (rs σ M).bind fun ds M => if ds.length < line then ok1 (.tup ds) M else .stk) := by
  refine PE.weak (pe_tup h) fun σ H Q ⟨Fr, ρ, G, σs, M, r, q⟩ => ?_
  refine ⟨Fr, ρ, G, σs, M, r, (Aft.bind (RA := RRfs W) q).weaker ?_⟩
  rintro x H1 ⟨ρ1, G1, M1, d, hr1, hg1, r1, k1, q1⟩
  dsimp only at q1
  split at q1
  · rename_i hl
    refine ⟨by rw [line_eq, ← k1.length]; exact Nat.le_of_lt hl, fun p hp => q1.new1 r1 hp ?_⟩
    unfold Fz
    exact ⟨p, _, rfl, .of upd_same, hl, k1.mono (Rle.refl _) (upd_le (r1.none_g hp))⟩
  · exact q1.elim
theorem v_lst {es : List Expr} {rs : List SV → Mem → Rs (List D)} (h : PA X es (LA W WW rs)) : PE X (.List es pos) (LK W WW fun σ M => (rs σ M).bind fun ds M => if ds.length < line then okn (.lst ds) M else .stk) := by
  refine PE.weak (pe_lst h) fun σ H Q ⟨Fr, ρ, G, σs, M, r, q⟩ => ?_
  refine ⟨Fr, ρ, G, σs, M, r, (Aft.bind (RA := RRfs W) q).weaker ?_⟩
  rintro x H1 ⟨ρ1, G1, M1, d, hr1, hg1, r1, k1, q1⟩
  dsimp only at q1
  split at q1
  · rename_i hl
    exact ⟨by rw [line_eq, ← k1.length]; exact Nat.le_of_lt hl, fun p hp => q1.new r1 hp ⟨_, rfl, hl, k1⟩⟩
  · exact q1.elim
theorem v_dct0 : PE X (.Dict [] [] pos) (LK W WW fun σ M => okn (.dct [] []) M) := by
  refine PE.weak pe_dnewK fun σ H Q ⟨Fr, ρ, G, σs, M, r, q⟩ => ?_
  exact fun p hp => q.new r hp ⟨[], rfl, ⟨rfl, fun _ h => nomatch h⟩, .nil⟩
/-- built-ins -/
theorem vb_call {es : List Expr} {rs : List SV → Mem → Rs (List D)} {id : String} {x : Str} {p : Pos} {f : List D → Mem → Rs KD} (hc : CallR X (.builtin id) (rC W WW f)) (hg : Gl X x) (hm : X.mg x = none) (hv : bootBuiltins x = some (.builtin id)) (hx : plainN x = true)
    (hs : noStar a = true) (hss : es.all noStar = true) (h : PA X (a :: es) (LAb W WW rs)) : PE X (.Call (.Name x p) (a :: es) [] pos) (LK W WW fun σ M => (rs σ M).bind fun ds M => f ds M) := by
  refine PE.weak (pe_callB hc hg hm hv h (plainN_ok hx).2.2 (plainN_ok hx).1 (star_cons hs) (star_any hss)) fun σ H Q ⟨Fr, ρ, G, σs, M, r, q⟩ => ?_
  refine ⟨Fr, ρ, G, σs, M, r, (Aft.bind (RA := RRbs W) q).weaker ?_⟩
  rintro xs H1 ⟨ρ1, G1, M1, d, hr1, hg1, r1, k1, q1⟩
  exact ⟨Fr, ρ1, G1, σs, M1, σ, d, r1, k1, q1⟩
theorem vt_call {es : List Expr} {rs : List SV → Mem → Rs (List D)} {id : String} {x : Str} {p : Pos} {f : List D → Mem → Rs KD} (hc : CallR X (.type id) (rC W WW f)) (hg : Gl X x) (hm : X.mg x = none) (hv : bootBuiltins x = some (.type id)) (hx : plainN x = true)
    (hs : noStar a = true) (hss : es.all noStar = true) (h : PA X (a :: es) (LAb W WW rs)) : PE X (.Call (.Name x p) (a :: es) [] pos) (LK W WW fun σ M => (rs σ M).bind fun ds M => f ds M) := by
  refine PE.weak (pe_callTy hc hg hm hv h (plainN_ok hx).2.2 (plainN_ok hx).1 (star_cons hs) (star_any hss)) fun σ H Q ⟨Fr, ρ, G, σs, M, r, q⟩ => ?_
  refine ⟨Fr, ρ, G, σs, M, r, (Aft.bind (RA := RRbs W) q).weaker ?_⟩
  rintro xs H1 ⟨ρ1, G1, M1, d, hr1, hg1, r1, k1, q1⟩
  exact ⟨Fr, ρ1, G1, σs, M1, σ, d, r1, k1, q1⟩

/-! ### tests -/
theorem Aft.of_bl {Fr : Hp} {ρ : List Addr} {G : Hp} {σs : List SV} {σ : L2.St} {R : Rs Bool} {Q : Bool → Hp → Prop} (h : Aft W WW Fr RRt ρ G σs σ R Q) : Aft W WW Fr RRl ρ G σs σ R (fun x H1 => ∃ c, x = .bl c ∧ Q c H1) := by
  cases R with
  | ok b M => exact fun ρ' G' v H' h1 h2 h3 h4 => ⟨b, h4, h ρ' G' b H' h1 h2 h3 rfl⟩
  | ex C M => exact h
  | stk => exact h
theorem t_val (h : PE X e (LK W WW ra)) (he : ∀ whole, isTrue e X.env whole = (do let v ← whole; standAt e.pos; holding [v] (truthy v))) : PT X e (LT W WW fun σ M => (ra σ M).bl) :=
  PT.weak (pt_val (pe_bl h) he) fun σ H Q ⟨Fr, ρ, G, σs, M, r, q⟩ => ⟨Fr, ρ, G, σs, M, r, q.of_bl⟩
theorem Aft.bl_ok {Fr : Hp} {ρ : List Addr} {G : Hp} {σs : List SV} {σ : L2.St} {R : Rs Bool} {Q : Bool → Hp → Prop} {f : Bool → Bool} (h : Aft W WW Fr RRt ρ G σs σ (R.bind fun b M => ok1 (.bl (f b)) M).bl Q) : Aft W WW Fr RRt ρ G σs σ R (fun c H1 => Q (f c) H1) := by
  cases R with
  | ok b M => exact fun ρ' G' v H' h1 h2 h3 h4 => by subst h4; exact h ρ' G' (f v) H' h1 h2 h3 rfl
  | ex C M => exact h
  | stk => exact h
theorem t_not (ha : PT X a (LT W WW fun σ M => (ra σ M).bl)) : PT X (.UnaryOp .Not a pos) (LT W WW fun σ M => ((ra σ M).bl.bind fun b M => ok1 (.bl (!b)) M).bl) :=
  PT.weak (pt_not ha) fun σ H Q ⟨Fr, ρ, G, σs, M, r, q⟩ => ⟨Fr, ρ, G, σs, M, r, q.bl_ok⟩
theorem t_cmp (hK : W.K = X.K) (hu : X.A.units + 64 < cLine) {o : Cop} (hm : behindInMarks (cpA o) b = false) (ha : PE X a (LK W WW ra)) (hb : PE X b (LK W WW rb)) :
    PT X (.Compare a [cpA o] [b] pos) (LT W WW fun σ M => ((ra σ M).bw.bind fun x M => (rb σ M).bw.bind fun y M => okB (cmpop o x y M) M).bl) :=
  PT.weak (pt_cmpR (op_cmpD (WW := WW) hK hu o) (pe_bw ha) (pe_bw hb) hm) fun σ H Q ⟨Fr, ρ, G, σs, M, r, q⟩ =>
    two_ops (f := fun x y M => okB (cmpop o x y M) M) ⟨Fr, ρ, G, σs, M, r, q.of_bl.bl⟩
theorem t_chn (hK : W.K = X.K) (hu : X.A.units + 64 < cLine) {o o' : Cop} {c : Expr} (hm : lastMarks [cpA o, cpA o'] [b, c] = false) (ha : PE X a (LK W WW ra)) (hb : PE X b (LK W WW rb)) (hc : PE X c (LK W WW rc)) :
    PT X (.Compare a [cpA o, cpA o'] [b, c] pos) (LT W WW fun σ M => ((ra σ M).bw.bind fun x M => (rb σ M).bw.bind fun y M => (okB (cmpop o x y M) M).bl.bind fun k M =>
      if k then (rc σ M).bw.bind fun z M => okB (cmpop o' y z M) M else ok1 (.bl false) M).bl) :=
  PT.weak (pt_chain (op_cmpD (WW := WW) hK hu o) (op_cmpD (WW := WW) hK hu o') (pe_bw ha) (pe_bw hb) (pe_bw hc) hm) fun σ H Q ⟨Fr, ρ, G, σs, M, r, q⟩ => by
    exact chain_ops (f := fun x y M => okB (cmpop o x y M) M) (g := fun x y M => okB (cmpop o' x y M) M) ⟨Fr, ρ, G, σs, M, r, q.of_bl.bl⟩ fun _ _ z => z
theorem w_and {x y : Expr} {rest : List Expr} (ha : PT X x (LT W WW fun σ M => (ra σ M).bl)) (hb : PW X (.BoolOp .And (y :: rest) pos) (LT W WW fun σ M => (rb σ M).bl)) :
    PW X (.BoolOp .And (x :: y :: rest) pos) (LT W WW fun σ M => ((ra σ M).bl.bind fun x M => if x then (rb σ M).bl.bind fun y M => ok1 (.bl y) M else ok1 (.bl false) M).bl) := by
  refine PW.weak (pw_and ha hb) fun σ H Q ⟨Fr, ρ, G, σs, M, r, q⟩ => ⟨Fr, ρ, G, σs, M, r, ?_⟩
  have e : ((ra σs M).bl.bind fun x M => if x then (rb σs M).bl.bind fun y M => ok1 (.bl y) M else ok1 (.bl false) M).bl = (ra σs M).bl.bind fun x M => if x then (rb σs M).bl else .ok false M := by
    cases (ra σs M).bl with
    | ok b M1 =>
      cases b with
      | true =>
        show (((rb σs M1).bl.bind fun y M => ok1 (.bl y) M)).bl = (rb σs M1).bl
        cases (rb σs M1).bl <;> rfl
      | false => rfl
    | ex C M => rfl
    | stk => rfl
  dsimp only at q
  rw [e] at q
  refine (Aft.bind (RA := RRt) q).weaker ?_
  rintro c H1 ⟨ρ1, G1, M1, d, hr1, hg1, r1, k1, q1⟩
  subst k1
  cases c with
  | true => exact ⟨Fr, ρ1, G1, σs, M1, r1, q1⟩
  | false => exact q1.here r1 rfl
theorem w_or {x y : Expr} {rest : List Expr} (ha : PT X x (LT W WW fun σ M => (ra σ M).bl)) (hb : PW X (.BoolOp .Or (y :: rest) pos) (LT W WW fun σ M => (rb σ M).bl)) :
    PW X (.BoolOp .Or (x :: y :: rest) pos) (LT W WW fun σ M => ((ra σ M).bl.bind fun x M => if x then ok1 (.bl true) M else (rb σ M).bl.bind fun y M => ok1 (.bl y) M).bl) := by
  refine PW.weak (pw_or ha hb) fun σ H Q ⟨Fr, ρ, G, σs, M, r, q⟩ => ⟨Fr, ρ, G, σs, M, r, ?_⟩
  have e : ((ra σs M).bl.bind fun x M => if x then ok1 (.bl true) M else (rb σs M).bl.bind fun y M => ok1 (.bl y) M).bl = (ra σs M).bl.bind fun x M => if x then .ok true M else (rb σs M).bl := by
    cases (ra σs M).bl with
    | ok b M1 =>
      cases b with
      | false =>
        show (((rb σs M1).bl.bind fun y M => ok1 (.bl y) M)).bl = (rb σs M1).bl
        cases (rb σs M1).bl <;> rfl
      | true => rfl
    | ex C M => rfl
    | stk => rfl
  dsimp only at q
  rw [e] at q
  refine (Aft.bind (RA := RRt) q).weaker ?_
  rintro c H1 ⟨ρ1, G1, M1, d, hr1, hg1, r1, k1, q1⟩
  subst k1
  cases c with
  | false => exact ⟨Fr, ρ1, G1, σs, M1, r1, q1⟩
  | true => exact q1.here r1 rfl
theorem t_ife {t : Expr} {rt : List SV → Mem → Rs KD} (ht : PT X t (LT W WW fun σ M => (rt σ M).bl)) (ha : PT X a (LT W WW fun σ M => (ra σ M).bl)) (hb : PT X b (LT W WW fun σ M => (rb σ M).bl)) :
    PT X (.IfExp t a b pos) (LT W WW fun σ M => ((rt σ M).bl.bind fun k M => if k then ra σ M else rb σ M).bl) := by
  refine ⟨fun pins s σ H Q I ⟨Fr, ρ, G, σs, M, r, q⟩ => ?_⟩
  have e : ((rt σs M).bl.bind fun k M => if k then ra σs M else rb σs M).bl = (rt σs M).bl.bind fun k M => if k then (ra σs M).bl else (rb σs M).bl := by
    cases (rt σs M).bl with
    | ok b M1 => cases b <;> rfl
    | ex C M => rfl
    | stk => rfl
  dsimp only at q
  rw [e] at q
  show wpAny (model X.prog X.w) X.A (do if ← isTrue t X.env (eval t X.env) then isTrue a X.env (eval a X.env) else isTrue b X.env (eval b X.env)) _ _ _
  refine wpAny_bind (thn (ht.run pins s σ H _ I ⟨Fr, ρ, G, σs, M, r, Aft.bind (RA := RRt) q⟩) fun k s1 ⟨H1, I1, ρ1, G1, M1, d, hr1, hg1, r1, k1, q1⟩ => ?_)
  subst k1
  cases k with
  | true => exact ha.run pins s1 σ H1 Q I1 ⟨Fr, ρ1, G1, σs, M1, r1, q1⟩
  | false => exact hb.run pins s1 σ H1 Q I1 ⟨Fr, ρ1, G1, σs, M1, r1, q1⟩
end

/-! ### calls, isinstance -/
theorem HotC.of (c : Cok T Φ Γ nm n N sc hot xa WW X) {k : Nat} (h : hot = some k) : L2H.HotC X := by
  have m := c.mode
  subst h
  obtain ⟨p, _, h2, h3, _⟩ := m
  exact ⟨p, h3, h2⟩
theorem Cok.pass (c : Cok T Φ Γ nm n N sc hot xa WW X) (σ : L2.St) : PassesAt (L2N.CX X.prog X.w) X σ (WE WW σ) := fun _ _ _ e s' I cx => by
  obtain ⟨L, _, h⟩ := c.fx
  exact h _ _ (ExE.of_call I (fun _ _ _ h => h) cx)
theorem Cok.calm (c : Cok T Φ Γ nm n N sc hot xa WW X) : CalmH X := by
  cases hot with
  | none => exact .inl c.mode.2.1
  | some k => exact .inr (HotC.of c rfl)
theorem v_call (c : Cok T Φ Γ nm n N sc hot xa WW X) {f : Nat} {x : Str} {ps : List Str} {a : Expr} {es : List Expr} {p pos : Pos} {rs : List SV → Mem → Rs (List D)} (hf : Γ.fs[f]? = some (x, ps)) (hx : gloC sc x = true) (hpl : plainN x = true)
    (hs : noStar a = true) (hss : es.all noStar = true) (h : PA X (a :: es) (LA (wd X nm xa) WW rs)) : PE X (.Call (.Name x p) (a :: es) [] pos) (LK (wd X nm xa) WW fun σ M => (rs σ M).bind fun ds M => Φ hot f ds M) := by
  obtain ⟨hm, hk⟩ := c.sk.fn f x ps hf hpl
  obtain ⟨fd, hb, hF, hX⟩ := c.fk f x ps hf (plainN_ne hpl)
  have hg : Gl X x := by unfold Gl Env.kindOf; rw [c.sc]; exact gloC_ok hx
  have key : ∀ {Fr : Hp} {ρ1 : List Addr} {G1 : Hp} {σs : List SV} {M1 : Mem} {σ : L2.St} {H1 : Hp} {xs : List V} {d : List D} {Q : VK}, Rel (wd X nm xa) Fr ρ1 G1 σs M1 σ H1 → Fzs (wd X nm xa) ρ1 G1 d xs → Aft (wd X nm xa) WW Fr (RRk (wd X nm xa) Fr) ρ1 G1 σs σ (Φ hot f d M1) Q →
      spC (wd X nm xa) (Φ hot) f ps.length xs H1 Q (WE WW σ) := fun {Fr ρ1 G1 σs M1 σ H1 xs d Q} r1 k1 q1 => by
    have hl : d.length = ps.length := by
      by_cases e : d.length = ps.length
      · exact e
      · rw [c.ar hot f x ps d M1 hf e] at q1
        exact q1.elim
    exact ⟨by rw [← k1.length]; exact hl, ownH Fr σs σ H1, ρ1, G1, M1, d, r1.callee, k1, q1.toC r1⟩
  have m := c.mode
  cases hot with
  | none =>
    obtain ⟨m1, m2, m3⟩ := m
    subst m1
    refine PE.weak (pe_callSD (E := fun σ => WE WW σ) (dvs := []) (ds := []) hF (m3.mono (Nat.le_succ _)) hg hm hk hb .nil (fun σ => c.pass σ) h (plainN_ok hpl).1 (star_cons hs) (star_any hss)) fun σ H Q ⟨Fr, ρ, G, σs, M, r, q⟩ => ?_
    refine ⟨Fr, ρ, G, σs, M, r, (Aft.bind (RA := RRfs _) q).weaker ?_⟩
    rintro xs H1 ⟨ρ1, G1, M1, d, hr1, hg1, r1, k1, q1⟩
    rw [List.append_nil]
    exact key r1 k1 q1
  | some k =>
    obtain ⟨p1, e1, m2, m3, m4, m5, m6⟩ := m
    refine ⟨fun pins s σ H Q I ⟨Fr, ρ, G, σs, M, r, q⟩ => ?_⟩
    refine wpAny_Call_Name_kw (ld_glob I hg hm ?_ (plainN_ok hpl).1)
    refine PySem.W.callWith_K (h₀ := X.base) I.ok.mod.kin hk (thn (h.run pos pins s σ H _ I ⟨Fr, ρ, G, σs, M, r, Aft.bind (RA := RRfs _) q⟩) fun us s1 ⟨vs, H1, I1, rv, hq⟩ => ⟨I1.kIn, ?_⟩) (star_cons hs) (star_any hss)
    obtain ⟨ρ1, G1, M1, d, hr1, hg1, r1, k1, q1⟩ := hq
    have sp := key r1 k1 q1
    have hl : us.length = ps.length := by rw [← rv.length]; exact sp.1
    have b := hb s1 us I1.kIn (by rw [List.append_nil]; exact hl)
    rw [List.append_nil] at b
    have P1 := I1.pin p1 (List.mem_append_left _ m2)
    have hpin : L2H.PinOk X.stack H1 s1 p1 := ⟨P1.1, P1.2.1, fun hm => (List.mem_cons.mp (I1.stkSub p1.1 hm)).elim P1.2.2.1 P1.2.2.2.1, P1.2.2.2.2⟩
    obtain ⟨z, hz, hzp⟩ := m5
    have F := hX k z hz hzp
    refine wpAny_call (codeAny_mono (F.run X.A X.stack s1 H1 ⟨us, []⟩ us vs Q (WE WW σ) p1 m6 m3 hpin m4 I1.env0 b rv ⟨xa, e1, sp⟩) fun rr s' hq => ?_)
    cases rr with
    | error e => exact c.pass σ pins H1 s1 e s' I1 hq
    | ok fl =>
      cases fl with
      | ret u => exact I1.after hq
      | next => exact False.elim hq
      | brk => exact False.elim hq
      | cont => exact False.elim hq
theorem arm_call_sub (x y : Expr) (p : Pos) (args : List Expr) (pos : Pos) (env : Env) : eval (.Call (.Subscript x y p) args [] pos) env = (do
    callWith pos (← eval (.Subscript x y p) env) [] (backTo pos (starEach args env)) (backToKw pos (keywordEach [] env))) := rfl
/-- a def that a subscript tells is called -/
theorem v_cv (c : Cok T Φ Γ nm n N sc none xa WW X) {fs : List Nat} {x y a : Expr} {es : List Expr} {p pos : Pos} {rf : List SV → Mem → Rs KD} {rs : List SV → Mem → Rs (List D)} (hfs : ∀ f ∈ fs, ∃ (z : Str) (ps : List Str), Γ.fs[f]? = some (z, ps) ∧ plainN z = true)
    (hs : noStar a = true) (hss : es.all noStar = true) (hf : PE X (.Subscript x y p) (LK (wd X nm xa) WW rf)) (h : PA X (a :: es) (LA (wd X nm xa) WW rs)) : PE X (.Call (.Subscript x y p) (a :: es) [] pos) (LK (wd X nm xa) WW fun σ M => (rf σ M).fz.bind fun x M => (match x with
      | .fn f => if f ∈ fs then (rs σ M).bind fun ds M => Φ none f ds M else .stk
      | _ => .stk)) := by
  refine ⟨fun pins s σ H Q I ⟨Fr, ρ, G, σs, M, r, q⟩ => ?_⟩
  rw [arm_call_sub]
  refine wpAny_bind (thn ((pe_fz hf).run pins s σ H _ I ⟨Fr, ρ, G, σs, M, r, Aft.bind (RA := RRf (wd X nm xa)) q⟩) fun u s1 ⟨v, H1, I1, rv, hq⟩ => ?_)
  obtain ⟨ρ1, G1, M1, d, hr1, hg1, r1, k1, q1⟩ := hq
  dsimp only at q1
  split at q1
  · rename_i f
    split at q1
    · rename_i hm
      obtain ⟨z, ps, hz, hpl⟩ := hfs f hm
      obtain ⟨hmg, hk⟩ := c.sk.fn f z ps hz hpl
      obtain ⟨fd, hb, hF, hX⟩ := c.fk f z ps hz (plainN_ne hpl)
      have k1 : v = .ref (nm.fa f) := k1
      subst k1
      cases rv
      obtain ⟨m1, m2, m3⟩ := c.mode
      subst m1
      refine PySem.W.callWith_K (h₀ := X.base) I1.ok.mod.kin hk (thn (h.run pos pins s1 σ H1 _ I1 ⟨Fr, ρ1, G1, σs, M1, r1, Aft.bind (RA := RRfs _) q1⟩) fun us s2 ⟨vs, H2, I2, rv, hq⟩ => ⟨I2.kIn, ?_⟩) (star_cons hs) (star_any hss)
      obtain ⟨ρ2, G2, M2, ds, hr2, hg2, r2, k2, q2⟩ := hq
      dsimp only at q2
      have hl : ds.length = ps.length := by
        by_cases e : ds.length = ps.length
        · exact e
        · rw [c.ar none f z ps ds M2 hz e] at q2
          exact q2.elim
      refine run_fnSD (E := fun σ => WE WW σ) (dvs := []) (ds := []) hF (m3.mono (Nat.le_succ _)) hb .nil (c.pass σ) I2 rv ?_
      rw [List.append_nil]
      exact ⟨by rw [← k2.length]; exact hl, ownH Fr σs σ H2, ρ2, G2, M2, ds, r2.callee, k2, q2.toC r2⟩
    · exact q1.elim
  · exact q1.elim
def tyS : Ty → Option String
  | .int => some "int" | .bool => some "bool" | .str => some "str" | .list => some "list" | .tuple => some "tuple" | .dict => some "dict" | .valueError => some "ValueError" | .cls _ => none | .kls _ => none
theorem kit_tn (K : PySem.W.Frag) (n : Tn) (t : Ty) {z : String} (h : tyS t = some z) : PySem.W.kitOne K (.type (tnS n)) (.type z) = some (isTn n t) := by
  cases t <;> simp only [tyS, Option.some.injEq, reduceCtorEq] at h
  all_goals (subst h; cases n <;> exact kit_ty (by decide +kernel))
theorem tyX_of {K : PySem.W.Frag} {W : Wd} {ρ : List Addr} {G H : Hp} {d : D} {v : V} {n : Tn} (hK : W.K = K) (hg : Hle G H) (l : Lk W ρ G H d v) (h : tnOf d = some n) : TyX K H v (.type (tnS n)) := by
  cases d <;> simp only [tnOf, Option.some.injEq, reduceCtorEq] at h
  all_goals subst h
  · have l : v = .non := l
    subst l; exact .base .non
  · rename_i b
    have l : v = .bl b := l
    subst l; exact .base (.bl _)
  · rename_i b
    have l : v = .int b := l
    subst l; exact .base (.int _)
  · rename_i b
    have l : v = .str (tx b) ∧ OkS b := l
    rw [l.1]; exact .base (.str _)
  · rename_i ds
    have l : Fz W ρ G (.tup ds) v := l
    unfold Fz at l
    obtain ⟨a, vs, e, q, _⟩ := l
    subst e
    rcases q with (q | ⟨o, q⟩) | ⟨o, its, z, q, c, _⟩
    · exact .base (.tup (hg _ _ q))
    · exact .fTuple (hg _ _ q)
    · exact .kTuple (hK ▸ q) c
  · obtain ⟨a, vs, e, q, _⟩ := l
    subst e
    exact .base (.lst q)
  · rename_i ds
    have l : Fz W ρ G (.scr ds) v := l
    unfold Fz at l
    obtain ⟨a, vs, e, q, _⟩ := l
    subst e
    rcases q with (q | ⟨o, q⟩) | ⟨o, its, z, q, c, _⟩
    · exact .base (.lst (hg _ _ q))
    · exact .base (.frz (hg _ _ q))
    · exact .kList (hK ▸ q) c
  · obtain ⟨a, vs, e, q, _⟩ := l
    subst e
    exact .base (.dK q)
/-- the class asked for -/
def IsTy (Γ : Tx) (nm : Nm) (t : Ty) (v : V) (u : Value) : Prop :=
  match t with
  | .cls c => (∃ x, Γ.cs[c]? = some x ∧ plainN x = true) ∧ v = .ref (nm.ca c) ∧ u = .ref (nm.ca c)
  | .kls c => (∃ x, Γ.ks[c]? = some x ∧ plainN x = true) ∧ v = .ref (nm.ka c) ∧ u = .ref (nm.ka c)
  | t => ∃ z, tyS t = some z ∧ v = .ty z ∧ u = .type z
theorem IsTy.cls {t : Ty} {v : V} {u : Value} (h : IsTy Γ nm t v u) : ClsV v u := by
  cases t with
  | cls c => obtain ⟨_, e1, e2⟩ := h; rw [e1, e2]; exact .own _
  | kls c => obtain ⟨_, e1, e2⟩ := h; rw [e1, e2]; exact .own _
  | _ => obtain ⟨z, _, e1, e2⟩ := h; rw [e1, e2]; exact .ty _
theorem Bz.exc {W : Wd} {Fr : Hp} {ρ : List Addr} {G : Hp} {σs : List SV} {M : Mem} {σ : L2.St} {H : Hp} {v : V} (r : Rel W Fr ρ G σs M σ H) (h : Bz W ρ G σs σ .exc v) : ∃ a, W.xa = some a ∧ v = .ref a := h.nob r (fun _ z => z)
theorem c_isi (c : Cok T Φ Γ nm n N sc hot xa WW X) {t : Ty} {tv : V} {u : Value} (ht : IsTy Γ nm t tv u) :
    CallR X (.builtin "isinstance") (fun xs H Q => ∃ (x : V) (Fr : Hp) (ρ : List Addr) (G : Hp) (σs : List SV) (M : Mem) (σ : L2.St) (d : D), xs = [x, tv] ∧ Rel (wd X nm xa) Fr ρ G σs M σ H ∧ Bz (wd X nm xa) ρ G σs σ d x ∧
      Aft (wd X nm xa) WW Fr (RRk (wd X nm xa) Fr) ρ G σs σ (okB (isInst T hot M d t) M) Q) := by
  intro pins s σ H xs us Q I rx ⟨x, Fr, ρ, G, σs, M, τ, d, exs, r, hx, q⟩
  obtain ⟨b, hb, qq⟩ := q.okB r
  clear q
  have q := qq
  clear qq
  unfold isInst at hb
  split at hb
  · rename_i k hk
    simp only [Option.some.injEq] at hb
    have ty := tyX_of (K := X.K) rfl r.gh (r.look hx) hk
    refine call_isi pins s σ H xs us Q I rx ⟨x, tv, _, u, b, exs, ht.cls, ty, ?_, q⟩
    cases t with
    | cls c' =>
      obtain ⟨⟨z, hz, hzp⟩, e1, e2⟩ := ht
      rw [e2, ← hb]
      exact c.sk.ct c' z k hz hzp
    | kls c' =>
      obtain ⟨⟨z, hz, hzp⟩, e1, e2⟩ := ht
      rw [e2, ← hb]
      exact c.sk.ku c' k z hz hzp
    | _ =>
      obtain ⟨z, hz, e1, e2⟩ := ht
      rw [e2, ← hb]
      exact kit_tn X.K k _ hz
  · have exc : d = .exc → ∀ k, hot = some k → (∀ K, K = X.K → PySem.W.kitOne K (.ref (nm.ca k)) u = some b) → wpAny (model X.prog X.w) X.A (PySem.call (.builtin "isinstance") us) (EP X pins σ Q) X.xe s := fun ed k ek hkit => by
      subst ed ek
      obtain ⟨p, e1, m2, m3, m4, ⟨z, hz, hzp⟩, m6⟩ := c.mode
      obtain ⟨a, ea, ev⟩ := hx.exc r
      have ea : xa = some a := ea
      have e1 : xa = some p.1 := e1.elim (fun z => by rw [z] at ea; cases ea) id
      rw [e1] at ea
      cases ea
      subst ev exs
      obtain ⟨u1, u2, rfl, r1, r2⟩ := vals2 rx
      cases r1
      have e2 := ht.cls.eq r2
      subst e2
      obtain ⟨hget, _⟩ := I.pin p (List.mem_append.mpr (.inl m2))
      obtain ⟨_, vs, hv, _⟩ := m3
      obtain ⟨x1, x2, x3, C, x4⟩ := c.sk.ex k z hz hzp
      have J : PySem.W.InstAt s.heap p.1 p.2 (nm.ca k) none := by
        obtain ⟨pa, oc, od, oda, osl⟩ := p
        obtain ⟨h1, h2⟩ := m4
        dsimp only at h1 h2 hv hget
        subst h1 h2 hv
        exact ⟨hget, rfl, rfl, trivial⟩
      exact PySem.W.kia_one (PySem.W.handS_kitx_exc C.hg C.hk C.hs C.hd C.ha C.hn C.ht C.hm) I.kIn J (hkit _ rfl) (fun z => nomatch z) fun tk => ⟨.bl b, H, I.kept (t' := tk) fun _ _ z => z, rfl, q⟩
    split at hb
    · rename_i c' _
      obtain ⟨⟨z, hz, hzp⟩, e1, e2⟩ := ht
      obtain ⟨k, hk, eb⟩ := Option.map_eq_some_iff.mp hb
      have mm := c.mode
      rw [hk] at mm
      obtain ⟨_, _, _, _, _, ⟨y, hy, hyp⟩, _⟩ := mm
      exact exc rfl k hk fun K e => by rw [e, e2, ← eb]; exact (c.sk.ee k c' y z hy hz hyp hzp).1
    · obtain ⟨z, hz, e1, e2⟩ := ht
      simp only [tyS, Option.some.injEq] at hz
      subst hz
      obtain ⟨k, hk, eb⟩ := Option.map_eq_some_iff.mp hb
      have mm := c.mode
      rw [hk] at mm
      obtain ⟨_, _, _, _, _, ⟨y, hy, hyp⟩, _⟩ := mm
      exact exc rfl k hk fun K e => by rw [e, e2, ← eb]; exact (c.sk.ex k y hy hyp).2.2.2.2
    · have l := r.look hx
      cases eD : deref M d with
      | ins C fs vs =>
        rw [eD] at l hb
        obtain ⟨a, dx, vs', ev, ha, ⟨hl, hr⟩, fz⟩ := l
        obtain ⟨c1, c2, c3, c4, c5⟩ := c.sk.kc C hr
        have ty : TyX X.K H x (.ref (nm.ka C)) := by rw [ev]; exact .base (.ins ha c1 c2 c3 c4 c5)
        have fin : ∀ b', PySem.W.kitOne X.K (.ref (nm.ka C)) u = some b' → b' = b → wpAny (model X.prog X.w) X.A (PySem.call (.builtin "isinstance") us) (EP X pins σ Q) X.xe s := fun b' e1 e2 =>
          call_isi pins s σ H xs us Q I rx ⟨x, tv, _, u, b, exs, ht.cls, ty, by rw [e1, e2], q⟩
        cases t with
        | kls C' =>
          obtain ⟨⟨z, hz, hzp⟩, e1, e2⟩ := ht
          simp only [Option.some.injEq] at hb
          exact fin _ (by rw [e2]; exact c.sk.ki C C' z hr hz hzp) hb
        | cls _ => cases hb
        | valueError => cases hb
        | _ =>
          obtain ⟨z, hz, e1, e2⟩ := ht
          simp only [Option.some.injEq] at hb
          refine fin false ?_ hb
          rw [e2]
          simp only [tyS, Option.some.injEq] at hz
          subst hz
          first
            | exact c.sk.kt C .int hr
            | exact c.sk.kt C .bool hr
            | exact c.sk.kt C .str hr
            | exact c.sk.kt C .list hr
            | exact c.sk.kt C .tuple hr
            | exact c.sk.kt C .dict hr
      | _ => rw [eD] at hb; cases t <;> cases hb
end
end VM
/-! VM5: targets, comprehensions. -/
namespace VM
open PySem L2 PySem.Spec PyProof.Rows

/-! ### stores to slots -/
section
variable {W : Wd} {Fr Fr' : Hp} {ρ ρ' : List Addr} {G G' : Hp} {σs : List SV} {M : Mem} {σ : L2.St} {H H' : Hp} {d : D} {v : V} {p : Addr} {i : Nat}
theorem Rel.setv (r : Rel W Fr ρ G σs M σ H) (k : Fz W ρ G d v) : Rel W Fr ρ G (σs.set i (.v d)) M (σ.set i (some v)) H where
  toMRel := r.toMRel
  sl := by rw [List.length_set, List.length_set]; exact r.sl
  val := fun j e h => by
    by_cases q : i = j
    · subst q
      by_cases hl : i < σs.length
      · rw [List.getElem?_set_self hl] at h
        cases h
        exact ⟨v, List.getElem?_set_self (by rw [r.sl]; exact hl), k⟩
      · rw [List.getElem?_eq_none (by rw [List.length_set]; omega)] at h; cases h
    · rw [List.getElem?_set_ne q] at h ⊢
      exact r.val j e h
  own := fun j e h => by
    by_cases q : i = j
    · subst q
      by_cases hl : i < σs.length
      · rw [List.getElem?_set_self hl] at h; cases h
      · rw [List.getElem?_eq_none (by rw [List.length_set]; omega)] at h; cases h
    · rw [List.getElem?_set_ne q] at h ⊢
      exact r.own j e h
  uniq := fun a b p ⟨d1, h1, h2⟩ ⟨d2, h3, h4⟩ => by
    have ne : ∀ {j : Nat} {e : D}, (σs.set i (.v d))[j]? = some (.o e) → i ≠ j := fun {j e} h q => by
      subst q
      by_cases hl : i < σs.length
      · rw [List.getElem?_set_self hl] at h; cases h
      · rw [List.getElem?_eq_none (by rw [List.length_set]; omega)] at h; cases h
    have n1 := ne h1
    have n2 := ne h3
    rw [List.getElem?_set_ne n1] at h1 h2
    rw [List.getElem?_set_ne n2] at h3 h4
    exact r.uniq a b p ⟨d1, h1, h2⟩ ⟨d2, h3, h4⟩
theorem Rel.setu (r : Rel W Fr ρ G σs M σ H) (o : Option V) : Rel W Fr ρ G (σs.set i .u) M (σ.set i o) H where
  toMRel := r.toMRel
  sl := by rw [List.length_set, List.length_set]; exact r.sl
  val := fun j e h => by
    by_cases q : i = j
    · subst q
      by_cases hl : i < σs.length
      · rw [List.getElem?_set_self hl] at h; cases h
      · rw [List.getElem?_eq_none (by rw [List.length_set]; omega)] at h; cases h
    · rw [List.getElem?_set_ne q] at h ⊢
      exact r.val j e h
  own := fun j e h => by
    by_cases q : i = j
    · subst q
      by_cases hl : i < σs.length
      · rw [List.getElem?_set_self hl] at h; cases h
      · rw [List.getElem?_eq_none (by rw [List.length_set]; omega)] at h; cases h
    · rw [List.getElem?_set_ne q] at h ⊢
      exact r.own j e h
  uniq := fun a b p ⟨d1, h1, h2⟩ ⟨d2, h3, h4⟩ => by
    have ne : ∀ {j : Nat} {e : D}, (σs.set i .u)[j]? = some (.o e) → i ≠ j := fun {j e} h q => by
      subst q
      by_cases hl : i < σs.length
      · rw [List.getElem?_set_self hl] at h; cases h
      · rw [List.getElem?_eq_none (by rw [List.length_set]; omega)] at h; cases h
    have n1 := ne h1
    have n2 := ne h3
    rw [List.getElem?_set_ne n1] at h1 h2
    rw [List.getElem?_set_ne n2] at h3 h4
    exact r.uniq a b p ⟨d1, h1, h2⟩ ⟨d2, h3, h4⟩
/-- something new is one's own now -/
theorem Rel.seto (r : Rel W Fr ρ G σs M σ H) (n : New W Fr ρ G H d p) (no : ∀ j, ¬ Own σs σ j p) : Rel W Fr ρ G (σs.set i (.o d)) M (σ.set i (some (.ref p))) H where
  toMRel := r.toMRel
  sl := by rw [List.length_set, List.length_set]; exact r.sl
  val := fun j e h => by
    by_cases q : i = j
    · subst q
      by_cases hl : i < σs.length
      · rw [List.getElem?_set_self hl] at h; cases h
      · rw [List.getElem?_eq_none (by rw [List.length_set]; omega)] at h; cases h
    · rw [List.getElem?_set_ne q] at h ⊢
      exact r.val j e h
  own := fun j e h => by
    by_cases q : i = j
    · subst q
      by_cases hl : i < σs.length
      · rw [List.getElem?_set_self hl] at h
        cases h
        exact ⟨p, List.getElem?_set_self (by rw [r.sl]; exact hl), n⟩
      · rw [List.getElem?_eq_none (by rw [List.length_set]; omega)] at h; cases h
    · rw [List.getElem?_set_ne q] at h ⊢
      exact r.own j e h
  uniq := fun a b q h1 h2 => by
    have ck : ∀ {j : Nat} {q : Addr}, Own (σs.set i (.o d)) (σ.set i (some (.ref p))) j q → (j = i ∧ q = p) ∨ (i ≠ j ∧ Own σs σ j q) := fun {j q} ⟨e, x, y⟩ => by
      by_cases z : i = j
      · subst z
        by_cases hl : i < σs.length
        · rw [List.getElem?_set_self (by rw [r.sl]; exact hl)] at y
          cases y
          exact .inl ⟨rfl, rfl⟩
        · rw [List.getElem?_eq_none (by rw [List.length_set]; omega)] at x; cases x
      · rw [List.getElem?_set_ne z] at x y
        exact .inr ⟨z, e, x, y⟩
    rcases ck h1 with ⟨e1, e2⟩ | ⟨n1, o1⟩
    · rcases ck h2 with ⟨e3, _⟩ | ⟨_, o2⟩
      · rw [e1, e3]
      · subst e2; exact (no _ o2).elim
    · rcases ck h2 with ⟨e3, e4⟩ | ⟨_, o2⟩
      · subst e4; exact (no _ o1).elim
      · exact r.uniq a b q o1 o2
/-- something that no one knows changes -/
theorem Rel.poke (r : Rel W Fr ρ G σs M σ H) {o : HO} (g : G p = none) (f : Fr p = none) (rr : p ∉ ρ) (no : ∀ j, ¬ Own σs σ j p) : Rel W Fr ρ G σs M σ (upd H p o) where
  gh := fun a u e => by
    have : a ≠ p := fun z => by rw [z, g] at e; cases e
    rw [upd_ne this]; exact r.gh _ _ e
  fh := fun a u e => by
    have : a ≠ p := fun z => by rw [z, f] at e; cases e
    rw [upd_ne this]; exact r.fh _ _ e
  gf := r.gf
  len := r.len
  mem := fun i a d e1 e2 => by
    have : a ≠ p := fun z => rr (z ▸ List.mem_of_getElem? e1)
    rw [upd_ne this]; exact r.mem i a d e1 e2
  nd := r.nd
  sl := r.sl
  val := r.val
  own := fun i d e => by
    obtain ⟨q, e1, n⟩ := r.own i d e
    have : q ≠ p := fun z => no i ⟨d, e, z ▸ e1⟩
    obtain ⟨ho, h1, h2⟩ := n.at_
    exact ⟨q, e1, ⟨ho, by rw [upd_ne this]; exact h1, h2⟩, n.g, n.f, n.r, n.l⟩
  uniq := r.uniq
/-- one more thing is not to be touched -/
theorem Rel.guard (r : Rel W Fr ρ G σs M σ H) {o : HO} (h : H p = some o) (g : G p = none) (rr : p ∉ ρ) (no : ∀ j, ¬ Own σs σ j p) : Rel W (upd Fr p o) ρ G σs M σ H where
  gh := r.gh
  fh := fun a u e => by
    by_cases q : a = p
    · subst q; rw [upd_same] at e; cases e; exact h
    · rw [upd_ne q] at e; exact r.fh _ _ e
  gf := fun a u e => by
    by_cases q : a = p
    · subst q; exact g
    · rw [upd_ne q] at e; exact r.gf _ _ e
  len := r.len
  mem := fun i a d e1 e2 => by
    obtain ⟨ho, h1, h2, h3, h4⟩ := r.mem i a d e1 e2
    have : a ≠ p := fun z => rr (z ▸ List.mem_of_getElem? e1)
    exact ⟨ho, h1, h2, h3, by rw [upd_ne this]; exact h4⟩
  nd := r.nd
  sl := r.sl
  val := r.val
  own := fun i d e => by
    obtain ⟨q, e1, n⟩ := r.own i d e
    have : q ≠ p := fun z => no i ⟨d, e, z ▸ e1⟩
    exact ⟨q, e1, n.at_, n.g, by rw [upd_ne this]; exact n.f, n.r, n.l⟩
  uniq := r.uniq
end

/-! ### targets -/
/-- a target's reading -/
def LG (W : Wd) (t : Tg) : TG := fun v σ H Q => ∃ (Fr : Hp) (ρ : List Addr) (G : Hp) (σs : List SV) (M : Mem) (d : D), Rel W Fr ρ G σs M σ H ∧ Fz W ρ G d v ∧
  ∃ τs, t.bind d σs = some τs ∧ ∀ τ, Rel W Fr ρ G τs M τ H → (∀ j, j ∉ t.is → τ[j]? = σ[j]?) → τ.length = σ.length → Q τ H
def LGs (W : Wd) (t : Tg) : TGs := fun vs σ H Q => ∃ (Fr : Hp) (ρ : List Addr) (G : Hp) (σs : List SV) (M : Mem) (ds : List D), Rel W Fr ρ G σs M σ H ∧ Fzs W ρ G ds vs ∧
  ∃ τs, t.binds ds σs = some τs ∧ ∀ τ, Rel W Fr ρ G τs M τ H → (∀ j, j ∉ t.is → τ[j]? = σ[j]?) → τ.length = σ.length → Q τ H
def plainT : List Expr → Bool
  | [] => true
  | .Starred _ _ :: _ => false
  | _ :: r => plainT r
theorem asg_cons {e : Expr} {es : List Expr} {env : Env} (h : plainT (e :: es) = true) : (assignEach (e :: es) env).map (·.2) = assign e env :: (assignEach es env).map (·.2) := by
  cases e <;> first | rfl | cases h
theorem asg_len {env : Env} : ∀ {es : List Expr}, plainT es = true → (assignEach es env).length = es.length
  | [], _ => rfl
  | e :: es, h => by
    have h' : plainT es = true := by cases e <;> first | exact h | cases h
    have := asg_len (env := env) h'
    cases e <;> first | (show (assignEach es env).length + 1 = _; rw [this]; rfl) | cases h
theorem asg_star {env : Env} : ∀ {es : List Expr}, plainT es = true → (assignEach es env).findIdx? (·.1) = none
  | [], _ => rfl
  | e :: es, h => by
    have h' : plainT es = true := by cases e <;> first | exact h | cases h
    have := asg_star (env := env) h'
    cases e <;> first | (show (List.findIdx? (fun x => x.1) ((false, _) :: assignEach es env)) = none; rw [List.findIdx?_cons]; simp [this]) | cases h
section
variable {T : Tab} {Φ : Hot → Nat → List D → Mem → Rs KD} {Γ : Tx} {nm : Nm} {n : Nat} {N : List Str} {sc : Scope} {hot : Hot} {xa : Option Addr} {WW : WX} {X : Cx} {loc : Str → Bool}
mutual
def chkT (N : List Str) (loc : Str → Bool) : Tg → Expr → Bool
  | .n i, e => (match e with
    | .Name x _ => decide (N[i]? = some x) && (loc x && plainN x)
    | _ => false)
  | .t l, e => (match e with
    | .Tuple es _ _ => plainT es && chkTs N loc l es
    | _ => false)
  | _, _ => false
def chkTs (N : List Str) (loc : Str → Bool) : Tg → List Expr → Bool
  | .nil, es => (match es with
    | [] => true
    | _ => false)
  | .cons a l, es => (match es with
    | e :: es => plainT (e :: es) && (chkT N loc a e && chkTs N loc l es)
    | _ => false)
  | _, _ => false
end
theorem binds_len : ∀ {l : Tg} {es : List Expr} {ds : List D} {σs τs : List SV}, chkTs N loc l es = true → l.binds ds σs = some τs → ds.length = es.length
  | .nil, es, ds, σs, τs, h, k => by
    cases es <;> simp only [chkTs] at h <;> first | cases h | skip
    cases ds <;> simp only [Tg.binds] at k <;> first | rfl | cases k
  | .cons a l, es, ds, σs, τs, h, k => by
    cases es with
    | nil => simp only [chkTs] at h; cases h
    | cons e es =>
      simp only [chkTs, Bool.and_eq_true] at h
      cases ds with
      | nil => simp only [Tg.binds] at k; cases k
      | cons d ds =>
        simp only [Tg.binds] at k
        split at k
        · rw [List.length_cons, List.length_cons, binds_len h.2.2 k]
        · cases k
  | .n i, es, ds, σs, τs, h, k => by simp only [chkTs] at h; cases h
  | .t i, es, ds, σs, τs, h, k => by simp only [chkTs] at h; cases h
mutual
theorem vg (hN : X.N = N) (nd : X.N.Nodup) (hf : ∀ x, loc x = true → Loc X.env.scope x ∧ (X.fn x = true ∨ X.env.scope.names.lookup x = some .local)) (hc : CalmH X) {W : Wd} (hK : W.K = X.K) :
    ∀ (t : Tg) (e : Expr), chkT N loc t e = true → PG X e (LG W t)
  | .n i, e, h => by
    simp only [chkT] at h
    split at h
    · rename_i x p
      simp only [decide_eq_true_eq, Bool.and_eq_true] at h
      obtain ⟨h1, h2, h3⟩ := h
      have pg := pg_name (X := X) (pos := p) nd (by rw [hN]; exact h1) (hf x h2).1 (hf x h2).2
      refine ⟨fun pins s σ H v u Q I rv ⟨Fr, ρ, G, σs, M, d, r, k, τs, hb, q⟩ => ?_⟩
      refine pg.run pins s σ H v u Q I rv ?_
      simp only [Tg.bind, Option.some.injEq] at hb
      subst hb
      exact q _ (r.setv k) (fun j hj => List.getElem?_set_ne (by simp only [Tg.is, List.mem_singleton] at hj; exact fun z => hj z.symm)) (List.length_set ..)
    · cases h
  | .t l, e, h => by
    simp only [chkT] at h
    split at h
    · rename_i es k p
      simp only [Bool.and_eq_true] at h
      obtain ⟨h1, h2⟩ := h
      have ih := vgs hN nd hf hc hK l es h2
      have pg := pg_tupQ (X := X) (k := k) (pos := p) (n := es.length) hc ih (asg_len h1) (asg_star h1)
      refine ⟨fun pins s σ H v u Q I rv ⟨Fr, ρ, G, σs, M, d, r, k, τs, hb, q⟩ => ?_⟩
      refine pg.run pins s σ H v u Q I rv ?_
      simp only [Tg.bind] at hb
      split at hb
      · rename_i ds
        unfold Fz at k
        obtain ⟨a, vs, e, hq, hl, fz⟩ := k
        exact ⟨a, vs, e, hK ▸ r.gh.sqt hq, by rw [← fz.length]; exact binds_len h2 hb, Fr, ρ, G, σs, M, ds, r, fz, τs, hb, q⟩
      · cases hb
    · cases h
  | .nil, e, h => by simp only [chkT] at h; cases h
  | .cons _ _, e, h => by simp only [chkT] at h; cases h
theorem vgs (hN : X.N = N) (nd : X.N.Nodup) (hf : ∀ x, loc x = true → Loc X.env.scope x ∧ (X.fn x = true ∨ X.env.scope.names.lookup x = some .local)) (hc : CalmH X) {W : Wd} (hK : W.K = X.K) :
    ∀ (t : Tg) (es : List Expr), chkTs N loc t es = true → PGs X es (LGs W t)
  | .nil, es, h => by
    cases es with
    | nil =>
      refine ⟨fun pins s σ H vs us Q I rv ⟨Fr, ρ, G, σs, M, ds, r, k, τs, hb, q⟩ => ?_⟩
      refine pgs_nil.run pins s σ H vs us Q I rv ?_
      cases ds with
      | nil =>
        simp only [Tg.binds, Option.some.injEq] at hb
        subst hb
        unfold Fzs at k
        exact ⟨k, q σ r (fun _ _ => rfl) rfl⟩
      | cons d ds => simp only [Tg.binds] at hb; cases hb
    | cons e es => simp only [chkTs] at h; cases h
  | .cons a l, es, h => by
    cases es with
    | nil => simp only [chkTs] at h; cases h
    | cons e es =>
      simp only [chkTs, Bool.and_eq_true] at h
      obtain ⟨h0, h1, h2⟩ := h
      have i1 := vg hN nd hf hc hK a e h1
      have i2 := vgs hN nd hf hc hK l es h2
      have pg := pgs_cons i1 i2 (asg_cons h0)
      refine ⟨fun pins s σ H vs us Q I rv ⟨Fr, ρ, G, σs, M, ds, r, k, τs, hb, q⟩ => ?_⟩
      refine pg.run pins s σ H vs us Q I rv ?_
      cases ds with
      | nil => simp only [Tg.binds] at hb; cases hb
      | cons d ds =>
        simp only [Tg.binds] at hb
        split at hb
        · rename_i σ1 hb1
          unfold Fzs at k
          obtain ⟨v, rr, ev, k1, k2⟩ := k
          refine ⟨v, rr, ev, Fr, ρ, G, σs, M, d, r, k1, σ1, hb1, fun τ r1 e1 l1 => ?_⟩
          refine ⟨Fr, ρ, G, σ1, M, ds, r1, k2, τs, hb, fun τ' r2 e2 l2 => q τ' r2 (fun j hj => ?_) (by rw [l2, l1])⟩
          simp only [Tg.is, List.mem_append, not_or] at hj
          rw [e2 j hj.2, e1 j hj.1]
        · cases hb
  | .n i, es, h => by simp only [chkTs] at h; cases h
  | .t i, es, h => by simp only [chkTs] at h; cases h
end
end
end VM
/-! VM6: comprehensions. -/
namespace VM
open PySem L2 PySem.Spec PyProof.Rows

/-! ### walks -/
/-- how a walk goes over what S tells -/
structure SqJ (J : L2.It) (S : Hp → List V → Prop) : Prop where
  go : ∀ i H vs x, S H vs → vs[i]? = some x → J.go i H
  stop : ∀ i H vs, S H vs → vs.length ≤ i → J.stop i H
  yld : ∀ i H x H', J.yld i H x H' → H' = H ∧ ∀ vs, S H vs → vs[i]? = some x
theorem sqj_l (K : PySem.W.Frag) (a : Addr) : SqJ (Itl K a) (fun H vs => SqL K H a vs) := ⟨fun _ _ vs x h e => ⟨vs, x, h, e⟩, fun _ _ vs h e => ⟨vs, h, e⟩, fun _ _ _ _ h => h⟩
theorem sqj_t (K : PySem.W.Frag) (a : Addr) : SqJ (Itt K a) (fun H vs => SqT K H a vs) := ⟨fun _ _ vs x h e => ⟨vs, x, h, e⟩, fun _ _ vs h e => ⟨vs, h, e⟩, fun _ _ _ _ h => h⟩

mutual
theorem same_ok : ∀ (d e : D), d.same e = true → d = e
  | .non, e, h => by cases e <;> simp [D.same] at h ⊢
  | .bl b, e, h => by cases e <;> simp [D.same] at h ⊢; exact h
  | .int b, e, h => by cases e <;> simp [D.same] at h ⊢; exact h
  | .str b, e, h => by cases e <;> simp [D.same] at h ⊢; exact h
  | .tup ds, e, h => by cases e <;> simp [D.same] at h ⊢; exact sames_ok _ _ h
  | .lst ds, e, h => by cases e <;> simp [D.same] at h ⊢; exact sames_ok _ _ h
  | .scr ds, e, h => by cases e <;> simp [D.same] at h ⊢; exact sames_ok _ _ h
  | .dct ks ds, e, h => by cases e <;> simp [D.same] at h ⊢; exact ⟨h.1, sames_ok _ _ h.2⟩
  | .cell i, e, h => by cases e <;> simp [D.same] at h ⊢; exact h
  | .ins C fs ds, e, h => by cases e <;> simp [D.same] at h ⊢; exact ⟨h.1.1, h.1.2, sames_ok _ _ h.2⟩
  | .exc, e, h => by cases e <;> simp [D.same] at h ⊢
  | .fn f, e, h => by cases e <;> simp [D.same] at h ⊢; exact h
  | .dlk ks ds, e, h => by cases e <;> simp [D.same] at h ⊢; exact ⟨h.1, sames_ok _ _ h.2⟩
theorem sames_ok : ∀ (xs ys : List D), sames xs ys = true → xs = ys
  | [], [], _ => rfl
  | [], _ :: _, h => by simp [sames] at h
  | _ :: _, [], h => by simp [sames] at h
  | x :: xs, y :: ys, h => by
    simp only [sames, Bool.and_eq_true] at h
    rw [same_ok x y h.1, sames_ok xs ys h.2]
end

/-- a walked value: where it stands, whatever has come since -/
structure Src (W : Wd) (Fr : Hp) (ρ : List Addr) (G : Hp) (σs : List SV) (σ : L2.St) (d : D) (xs : List D) (S : Hp → List V → Prop) : Prop where
  at_ : ∀ {ρ' : List Addr} {G' : Hp} {M : Mem} {H : Hp}, Rle ρ ρ' → Hle G G' → Rel W Fr ρ' G' σs M σ H → still d xs M = true → ∃ vs, S H vs ∧ Fzs W ρ' G' xs vs
  ln : xs.length < line
section
variable {W : Wd} {WW : WX} {Fr : Hp} {ρ : List Addr} {G : Hp} {σs : List SV} {M : Mem} {σ : L2.St} {H : Hp} {d : D} {v : V} {xs : List D} {K : PySem.W.Frag}
theorem src_of (hK : W.K = K) (r : Rel W Fr ρ G σs M σ H) (b : Bz W ρ G σs σ d v) (h : items d M = some xs) :
    ∃ a, v = .ref a ∧ (((∃ vs, SqL K H a vs) ∧ Src W Fr ρ G σs σ d xs fun H vs => SqL K H a vs) ∨ ((∃ vs, SqT K H a vs) ∧ Src W Fr ρ G σs σ d xs fun H vs => SqT K H a vs)) := by
  rcases b with b | ⟨i, e1, e2⟩
  · cases d with
    | lst ds =>
      simp only [items, deref, Option.some.injEq] at h
      subst h
      unfold Fz at b
      obtain ⟨a, vs, e, q, l, f⟩ := b
      exact ⟨a, e, .inl ⟨⟨vs, .of (r.gh _ _ q)⟩, fun hr hg r' _ => ⟨vs, .of (r'.gh _ _ (hg _ _ q)), f.mono hr hg⟩, l⟩⟩
    | scr ds =>
      simp only [items, deref, Option.some.injEq] at h
      subst h
      unfold Fz at b
      obtain ⟨a, vs, e, q, l, f⟩ := b
      exact ⟨a, e, .inl ⟨⟨vs, hK ▸ r.gh.sql q⟩, fun hr hg r' _ => ⟨vs, hK ▸ r'.gh.sql (hg.sql q), f.mono hr hg⟩, l⟩⟩
    | tup ds =>
      simp only [items, deref, Option.some.injEq] at h
      subst h
      unfold Fz at b
      obtain ⟨a, vs, e, q, l, f⟩ := b
      exact ⟨a, e, .inr ⟨⟨vs, hK ▸ r.gh.sqt q⟩, fun hr hg r' _ => ⟨vs, hK ▸ r'.gh.sqt (hg.sqt q), f.mono hr hg⟩, l⟩⟩
    | cell i =>
      have l := r.look (.inl b)
      unfold Fz at b
      obtain ⟨a, e, q⟩ := b
      subst e
      have mk : ∀ {ρ' : List Addr} {G' : Hp} {M' : Mem} {H' : Hp}, Rle ρ ρ' → Rel W Fr ρ' G' σs M' σ H' → ∀ {ys : List D}, items (.cell i) M' = some ys → ∃ vs, SqL K H' a vs ∧ Fzs W ρ' G' ys vs ∧ ys.length < line := fun {ρ' G' M' H'} hr r' {ys} h' => by
        have e := hr _ _ q
        have l' := r'.look (d := .cell i) (v := .ref a) (.inl (by unfold Fz; exact ⟨a, rfl, e⟩))
        unfold items at h'
        split at h'
        · rename_i zs e1
          simp only [Option.some.injEq] at h'
          subst h'
          rw [e1] at l'
          obtain ⟨a', vs, ea, ha, hl, f⟩ := l'
          cases ea
          exact ⟨vs, .of ha, f, hl⟩
        · rename_i zs e1
          exfalso
          have hi : i < M'.length := by rw [r'.len]; exact (List.getElem?_eq_some_iff.mp e).1
          obtain ⟨ho, h1, c, _⟩ := r'.mem i a M'[i] e (List.getElem?_eq_getElem hi)
          have : deref M' (.cell i) = M'[i] := by simp [deref, List.getD, List.getElem?_eq_getElem hi]
          rw [this] at e1
          rw [e1] at c
          exact c
        · rename_i zs e1
          exfalso
          have hi : i < M'.length := by rw [r'.len]; exact (List.getElem?_eq_some_iff.mp e).1
          obtain ⟨ho, h1, c, _⟩ := r'.mem i a M'[i] e (List.getElem?_eq_getElem hi)
          have : deref M' (.cell i) = M'[i] := by simp [deref, List.getD, List.getElem?_eq_getElem hi]
          rw [this] at e1
          rw [e1] at c
          exact c
        · cases h'
      obtain ⟨vs, s1, f1, l1⟩ := mk (Rle.refl _) r h
      refine ⟨a, rfl, .inl ⟨⟨vs, s1⟩, fun {ρ' G' M' H'} hr hg r' hs => ?_, l1⟩⟩
      unfold still at hs
      dsimp only at hs
      split at hs
      · rename_i ys e1
        have e2 := sames_ok _ _ hs
        subst e2
        obtain ⟨vs', s2, f2, _⟩ := mk hr r' e1
        exact ⟨vs', s2, f2⟩
      · cases hs
    | _ => simp [items, deref] at h
  · obtain ⟨p, e3, n⟩ := r.own i _ e1
    rw [e2] at e3
    cases e3
    obtain ⟨ho, e, c⟩ := n.at_
    cases d with
    | lst ds =>
      simp only [items, deref, Option.some.injEq] at h
      subst h
      obtain ⟨vs, eo, l, f⟩ := c
      subst eo
      refine ⟨p, rfl, .inl ⟨⟨vs, .of e⟩, fun {ρ' G' M' H'} hr hg r' _ => ?_, l⟩⟩
      obtain ⟨p', e4, n'⟩ := r'.own i _ e1
      rw [e2] at e4
      cases e4
      obtain ⟨ho', e', vs', eo', l', f'⟩ := n'.at_
      subst eo'
      exact ⟨vs', .of e', f'⟩
    | dct ks ds => simp [items, deref] at h
    | ins C fs ds => simp [items, deref] at h
    | dlk ks ds => simp [items, deref] at h
    | _ => exact c.elim
end

/-! ### the block's slots -/
theorem wipe_get (σ : L2.St) : ∀ (vs : List Nat) (j : Nat), (L2.wipe σ vs)[j]? = if j ∈ vs then σ[j]?.map (fun _ => none) else σ[j]?
  | [], j => by simp [L2.wipe]
  | v :: vs, j => by
    show ((L2.wipe σ vs).set v none)[j]? = _
    by_cases q : v = j
    · subst q
      rw [if_pos List.mem_cons_self]
      by_cases hl : v < σ.length
      · rw [List.getElem?_set_self (by rw [wipe_length]; exact hl), List.getElem?_eq_getElem hl]; rfl
      · rw [List.getElem?_eq_none (by rw [List.length_set, wipe_length]; omega), List.getElem?_eq_none (by omega)]; rfl
    · rw [List.getElem?_set_ne q, wipe_get σ vs j]
      have : (j ∈ v :: vs) ↔ j ∈ vs := by simp; exact fun z => absurd z.symm q
      simp only [this]
theorem wipeS_get (σ : List SV) : ∀ (vs : List Nat) (j : Nat), j ∉ vs → (VM.wipe vs σ)[j]? = σ[j]?
  | [], j, _ => rfl
  | v :: vs, j, h => by
    simp only [List.mem_cons, not_or] at h
    show ((VM.wipe vs σ).set v .u)[j]? = _
    rw [List.getElem?_set_ne (fun z => h.1 z.symm), wipeS_get σ vs j h.2]
mutual
theorem bind_out : ∀ (t : Tg) (d : D) (σ τ : List SV) (j : Nat), t.bind d σ = some τ → j ∉ t.is → τ[j]? = σ[j]?
  | .n i, d, σ, τ, j, h, k => by
    simp only [Tg.bind, Option.some.injEq] at h
    subst h
    simp only [Tg.is, List.mem_singleton] at k
    exact List.getElem?_set_ne fun z => k z.symm
  | .t l, d, σ, τ, j, h, k => by
    simp only [Tg.bind] at h
    split at h
    · exact binds_out l _ σ τ j h k
    · cases h
  | .nil, d, σ, τ, j, h, k => by simp only [Tg.bind] at h; cases h
  | .cons _ _, d, σ, τ, j, h, k => by simp only [Tg.bind] at h; cases h
theorem binds_out : ∀ (t : Tg) (ds : List D) (σ τ : List SV) (j : Nat), t.binds ds σ = some τ → j ∉ t.is → τ[j]? = σ[j]?
  | .nil, ds, σ, τ, j, h, k => by
    simp only [Tg.binds] at h
    split at h
    · cases h; rfl
    · cases h
  | .cons a l, ds, σ, τ, j, h, k => by
    simp only [Tg.binds] at h
    simp only [Tg.is, List.mem_append, not_or] at k
    split at h
    · split at h
      · rename_i σ1 e1
        rw [binds_out l _ _ _ j h k.2, bind_out a _ _ _ j e1 k.1]
      · cases h
    · cases h
  | .n i, ds, σ, τ, j, h, k => by simp only [Tg.binds] at h; cases h
  | .t i, ds, σ, τ, j, h, k => by simp only [Tg.binds] at h; cases h
end
section
variable {W : Wd} {WW : WX} {Fr Fr' : Hp} {ρ ρ' : List Addr} {G G' : Hp} {σs τs : List SV} {M M' : Mem} {σ τ : L2.St} {H H' : Hp} {d : D} {v : V} {xs : List D} {own : List Nat}
theorem Rel.wiped (r : Rel W Fr ρ G σs M σ H) : ∀ own : List Nat, Rel W Fr ρ G (VM.wipe own σs) M (L2.wipe σ own) H
  | [] => r
  | i :: is => (r.wiped is).setu none
/-- out of the block -/
theorem Rel.outof (r : Rel W Fr ρ G σs M σ H) (r' : Rel W Fr' ρ' G' τs M' τ H') (hr : Rle ρ ρ') (hg : Hle G G') (hf : Hle Fr Fr') (no : noO own σs = true) (e1 : ∀ j, j ∉ own → τs[j]? = σs[j]?) (e2 : ∀ j, j ∉ own → τ[j]? = σ[j]?) : Rel W Fr ρ' G' σs M' σ H' where
  gh := r'.gh
  fh := hf.trans r'.fh
  gf := fun a o e => r'.gf a o (hf _ _ e)
  len := r'.len
  mem := fun i a d h1 h2 => by
    obtain ⟨ho, a1, a2, a3, a4⟩ := r'.mem i a d h1 h2
    refine ⟨ho, a1, a2, a3, ?_⟩
    cases q : Fr a with
    | none => exact .inl rfl
    | some o => rw [hf _ _ q] at a4; exact .inr (a4.resolve_left (fun z => nomatch z))
  nd := r'.nd
  sl := r.sl
  val := fun i d e => let ⟨v, h1, h2⟩ := r.val i d e; ⟨v, h1, h2.mono hr hg⟩
  own := fun i d e => by
    have hi : i ∉ own := fun z => by
      have := List.all_eq_true.mp no i z
      rw [e] at this
      cases this
    obtain ⟨p, h1, n⟩ := r'.own i d (by rw [e1 i hi]; exact e)
    refine ⟨p, by rw [← e2 i hi]; exact h1, n.at_, n.g, ?_, n.r, n.l⟩
    cases q : Fr p with
    | none => rfl
    | some o => have := n.f; rw [hf _ _ q] at this; cases this
  uniq := r.uniq

theorem upTo_len {f : Nat → Int} {n : Nat} : (upTo f n).length = n := by unfold upTo; rw [List.length_map, List.length_range]
theorem upTo_get {f : Nat → Int} {n i : Nat} (h : i < (upTo f n).length) : (upTo f n)[i] = .int (f i) := by
  have : (upTo f n)[i]? = some (.int (f i)) := by
    unfold upTo
    rw [List.getElem?_map, List.getElem?_range (by rw [upTo_len] at h; exact h)]
    rfl
  rw [List.getElem?_eq_getElem h] at this
  exact Option.some.inj this
/-- what a turn hands out -/
def Yl (W : Wd) (Fr : Hp) (ρ : List Addr) (G : Hp) (σs : List SV) (M : Mem) (σ : L2.St) (H : Hp) (x : V) (d : D) (H' : Hp) : Prop :=
  ∃ G', Hle G G' ∧ Rel W Fr ρ G' σs M σ H' ∧ Fz W ρ G' d x ∧ Hle H H' ∧ ∀ a o, H a = some o → G' a = G a
theorem Yl.same (r : Rel W Fr ρ G σs M σ H) {x : V} {d : D} (f : Fz W ρ G d x) : Yl W Fr ρ G σs M σ H x d H := ⟨G, Hle.refl _, r, f, Hle.refl _, fun _ _ _ => rfl⟩
theorem Yl.pair (r : Rel W Fr ρ G σs M σ H) {x y : V} {d e : D} {T : Addr} (hT : H T = none) (f : Fz W ρ G d x) (g : Fz W ρ G e y) : Yl W Fr ρ G σs M σ H (.ref T) (.tup [d, e]) (upd H T (.tup [x, y])) := by
  have hg := upd_le (o := HO.tup [x, y]) (r.none_g hT)
  refine ⟨upd G T (.tup [x, y]), hg, r.laid hT, ?_, upd_le hT, fun a o e => upd_ne (ne_of_none e hT)⟩
  unfold Fz
  exact ⟨T, _, rfl, .of upd_same, (show 2 < line by decide), .cons (f.mono (Rle.refl _) hg) (.cons (g.mono (Rle.refl _) hg) .nil)⟩
/-- how a walk goes over these here -/
structure WkAt (W : Wd) (Fr : Hp) (ρ : List Addr) (G : Hp) (σs : List SV) (M : Mem) (σ : L2.St) (H : Hp) (J : L2.It) (xs : List D) : Prop where
  go : ∀ (i : Nat) (hi : i < xs.length), J.go i H ∧ ∀ x H', J.yld i H x H' → Yl W Fr ρ G σs M σ H x xs[i] H'
  stop : J.stop xs.length H
/-- a walk from a fixed place -/
structure WkS (W : Wd) (Fr : Hp) (ρ : List Addr) (G : Hp) (σs : List SV) (σ : L2.St) (J : L2.It) (xs : List D) (c : Mem → Bool) : Prop where
  at_ : ∀ {ρ' : List Addr} {G' : Hp} {M : Mem} {H : Hp}, Rle ρ ρ' → Hle G G' → Rel W Fr ρ' G' σs M σ H → c M = true → WkAt W Fr ρ' G' σs M σ H J xs
theorem wkat_of {J : L2.It} {S : Hp → List V → Prop} (sj : SqJ J S) (r : Rel W Fr ρ G σs M σ H) {vs : List V} (h1 : S H vs) (h2 : Fzs W ρ G xs vs) : WkAt W Fr ρ G σs M σ H J xs where
  go := fun i hi => by
    obtain ⟨x, h3, h4⟩ := h2.get (List.getElem?_eq_getElem hi)
    refine ⟨sj.go i H vs x h1 h3, fun y H' hy => ?_⟩
    obtain ⟨e, k⟩ := sj.yld i H y H' hy
    have := k vs h1
    rw [h3] at this
    cases this
    subst e
    exact .same r h4
  stop := sj.stop _ H vs h1 (by rw [h2.length]; exact Nat.le_refl _)
theorem wks_of {J : L2.It} {S : Hp → List V → Prop} (sj : SqJ J S) (src : Src W Fr ρ G σs σ d xs S) : WkS W Fr ρ G σs σ J xs (still d xs) where
  at_ := fun {ρ' G' M H} hr hg r hc => by
    obtain ⟨vs, h1, h2⟩ := src.at_ hr hg r hc
    exact wkat_of sj r h1 h2
theorem wkat_rng {lo : Int} {n : Nat} (r : Rel W Fr ρ G σs M σ H) : WkAt W Fr ρ G σs M σ H (Itr lo n) (upTo (fun k => lo + (k : Int)) n) where
  go := fun i hi => by
    refine ⟨show i < n by rw [upTo_len] at hi; exact hi, fun x H' ⟨e1, e2⟩ => ?_⟩
    subst e1
    refine .same r ?_
    rw [upTo_get]
    exact e2
  stop := by
    show n ≤ _
    rw [upTo_len]; exact Nat.le_refl _
theorem wks_rng {lo : Int} {n : Nat} {c : Mem → Bool} : WkS W Fr ρ G σs σ (Itr lo n) (upTo (fun k => lo + (k : Int)) n) c where
  at_ := fun _ _ r _ => wkat_rng r

/-! ### one turn's element -/
def ElOk (W : Wd) (WB : WX) (tt : TT) (te : TE) (el : List SV → Mem → Rs (Option D)) : Prop := ∀ (Fr : Hp) (ρ : List Addr) (G : Hp) (τs : List SV) (M : Mem) (τ : L2.St) (H : Hp) (P : VK) (R : Hp → Prop), Rel W Fr ρ G τs M τ H →
  (match el τs M with
    | .ok (some d) M' => ∀ ρ' G' v H', Rle ρ ρ' → Hle G G' → Rel W Fr ρ' G' τs M' τ H' → Fz W ρ' G' d v → P v H'
    | .ok none M' => ∀ ρ' G' H', Rle ρ ρ' → Hle G G' → Rel W Fr ρ' G' τs M' τ H' → R H'
    | .ex C M' => ∀ ρ' G' H', Rle ρ ρ' → Hle G G' → Rel W Fr ρ' G' τs M' τ H' → WB (.ref (W.ca C)) none τ H'
    | .stk => False) → tt τ H fun b H3 => if b = true then te τ H3 P else R H3
abbrev noW : WX := fun _ _ _ _ => False
/-- what a block lets out -/
abbrev outW (WW : WX) (σ : L2.St) : WX := fun cls d _ H => WW cls d σ H
variable {WB : WX}
theorem el_one (re : List SV → Mem → Rs KD) : ElOk W WB tYes (LF W WB fun σ M => (re σ M).fz) (fun τ M => (re τ M).fz.bind fun y M => .ok (some y) M) := by
  intro Fr ρ G τs M τ H P R r h
  show (if true = true then LF W WB (fun σ M => (re σ M).fz) τ H P else R H)
  rw [if_pos rfl]
  dsimp only at h
  refine ⟨Fr, ρ, G, τs, M, r, ?_⟩
  dsimp only
  cases q : (re τs M).fz with
  | ok d M1 => rw [q] at h; exact h
  | ex C M1 => rw [q] at h; exact h
  | stk => rw [q] at h; exact h
theorem el_if (rc re : List SV → Mem → Rs KD) : ElOk W WB (LT W WB fun σ M => (rc σ M).bl) (LF W WB fun σ M => (re σ M).fz)
    (fun τ M => (rc τ M).bl.bind fun k M => if k then (re τ M).fz.bind fun y M => .ok (some y) M else .ok none M) := by
  intro Fr ρ G τs M τ H P R r h
  dsimp only at h
  refine ⟨Fr, ρ, G, τs, M, r, ?_⟩
  dsimp only
  cases q : (rc τs M).bl with
  | ok k M1 =>
    rw [q] at h
    intro ρ1 G1 b H1 hr hg r1 e
    subst e
    cases b with
    | true =>
      rw [if_pos rfl]
      refine ⟨Fr, ρ1, G1, τs, M1, r1, ?_⟩
      simp only [Rs.bind, if_true] at h
      dsimp only
      cases q2 : (re τs M1).fz with
      | ok d M2 => rw [q2] at h; exact fun ρ2 G2 v H2 h1 h2 h3 h4 => h ρ2 G2 v H2 (hr.trans h1) (hg.trans h2) h3 h4
      | ex C M2 => rw [q2] at h; exact fun ρ2 G2 H2 h1 h2 h3 => h ρ2 G2 H2 (hr.trans h1) (hg.trans h2) h3
      | stk => rw [q2] at h; exact h
    | false =>
      show (if false = true then _ else R H1)
      rw [if_neg (fun z => nomatch z)]
      exact h ρ1 G1 H1 hr hg r1
  | ex C M1 => rw [q] at h; exact h
  | stk => rw [q] at h; exact h
/-! ### the whole reading -/
theorem lc_bind {R : Rs (List D)} {ys : List D} {y : Option D} {Q : VK} (h : Aft W WW Fr (RRk W Fr) ρ G σs σ ((R.bind fun zs M => .ok (match y with
      | some d => d :: zs
      | none => zs) M).bind fun zs M => okn (.lst (ys ++ zs)) M) Q) : Aft W WW Fr (RRk W Fr) ρ G σs σ (R.bind fun zs M => okn (.lst ((ys ++ y.toList) ++ zs)) M) Q := by
  cases R with
  | ok zs M =>
    cases y with
    | none => simpa only [Rs.bind, Option.toList, List.append_nil] using h
    | some d =>
      have e : ys ++ [d] ++ zs = ys ++ (d :: zs) := by simp
      simpa only [Rs.bind, Option.toList, e] using h
  | ex C M => exact h
  | stk => exact h
theorem lc_read {J : L2.It} {t : Tg} {c : Mem → Bool} {tt : TT} {te : TE} {el : List SV → Mem → Rs (Option D)} {Q : VK} (r : Rel W Fr ρ G σs M σ H) (wk : WkS W Fr ρ G σs σ J xs c) (ln : xs.length < line) (eo : ElOk W (outW WW σ) tt te el) (no : noO own σs = true) (ht : ∀ j ∈ t.is, j ∈ own)
    (q : Aft W WW Fr (RRk W Fr) ρ G σs σ ((lcL c (lcF own t σs el) xs M).bind fun ys M => okn (.lst ys) M) Q) :
    ∀ D, H D = none → ∃ Wv : Nat → Nat → Hp → Prop, (∃ m, Wv 0 m (upd H D (.lst []))) ∧ ∀ i m H, Wv i m H →
      (J.stop i H ∧ Q (.ref D) H) ∨ (J.go i H ∧ ∃ Nx : Hp → Prop, (∀ H', Nx H' → ∃ m', m' < m ∧ Wv (i + 1) m' H') ∧ ∀ x H', J.yld i H x H' → LG W t x (L2.wipe σ own) H' fun σ2 H2 => L2.wipe σ2 own = L2.wipe σ own ∧ tt σ2 H2 fun b H3 =>
        if b = true then te σ2 H3 fun y H4 => ∃ acc, H4 D = some (.lst acc) ∧ acc.length < sizeLine ∧ Nx (upd H4 D (.lst (acc ++ [y]))) else Nx H3) := by
  intro D hD
  -- what holds ahead of turn i
  let P : Nat → Hp → Prop := fun i H' => i ≤ xs.length ∧ ∃ (ρ1 : List Addr) (G1 : Hp) (M1 : Mem) (acc : List V) (ys : List VM.D), Rle ρ ρ1 ∧ Hle G G1 ∧ Rel W Fr ρ1 G1 σs M1 σ H' ∧ H' D = some (.lst acc) ∧ Fzs W ρ1 G1 ys acc ∧ ys.length ≤ i ∧ G1 D = none ∧ Fr D = none ∧ D ∉ ρ1 ∧
    (∀ j, ¬ Own σs σ j D) ∧ Aft W WW Fr (RRk W Fr) ρ1 G1 σs σ ((lcL c (lcF own t σs el) (xs.drop i) M1).bind fun zs M => okn (.lst (ys ++ zs)) M) Q
  refine ⟨fun i m H' => m = xs.length - i ∧ P i H', ⟨xs.length, rfl, Nat.zero_le _, ρ, G, M, [], [], Rle.refl _, Hle.refl _, r.push hD, upd_same, .nil, Nat.le_refl _, r.none_g hD, r.none_f hD, r.none_r hD, r.noOwn hD, ?_⟩, ?_⟩
  · rw [List.drop_zero]
    exact q
  · rintro i m H' ⟨rfl, hi, ρ1, G1, M1, acc, ys, hr, hg, r1, h1, h2, h3, g1, f1, n1, o1, fin⟩
    have st : c M1 = true := by
      by_cases hs : c M1 = true
      · exact hs
      · exfalso
        cases e : xs.drop i with
        | nil => rw [e] at fin; simp only [lcL] at fin; rw [if_neg hs] at fin; exact fin
        | cons x r => rw [e] at fin; simp only [lcL] at fin; rw [if_neg hs] at fin; exact fin
    by_cases hlt : i < xs.length
    · have ed : xs.drop i = xs[i] :: xs.drop (i + 1) := List.drop_eq_getElem_cons hlt
      rw [ed] at fin
      simp only [lcL] at fin
      rw [if_pos st] at fin
      obtain ⟨w1, w2⟩ := (wk.at_ hr hg r1 st).go i hlt
      refine .inr ⟨w1, P (i + 1), fun H2 k => ⟨xs.length - (i + 1), by omega, rfl, k⟩, fun x H2 hy => ?_⟩
      obtain ⟨G1', gg, r1', fx, hh, ga⟩ := w2 x H2 hy
      have hg := hg.trans gg
      have h1 := hh _ _ h1
      have g1 : G1' D = none := (ga _ _ ‹H' D = some (.lst acc)›).trans g1
      have h2 := h2.mono (Rle.refl _) gg
      have fin := Aft.from (Rle.refl _) gg fin
      clear r1
      have r1 := r1'
      clear r1'
      have rg := r1.guard h1 g1 n1 o1
      refine ⟨upd Fr D (.lst acc), ρ1, G1', VM.wipe own σs, M1, xs[i], rg.wiped own, fx, ?_⟩
      cases hb : t.bind xs[i] (VM.wipe own σs) with
      | none =>
        rw [show lcF own t σs el xs[i] M1 = .stk from by unfold lcF; rw [hb]] at fin
        exact fin.elim
      | some τs =>
        rw [show lcF own t σs el xs[i] M1 = el τs M1 from by unfold lcF; rw [hb]] at fin
        refine ⟨τs, rfl, fun τ rt e1 l1 => ?_⟩
        have out1 : ∀ j, j ∉ own → τs[j]? = σs[j]? := fun j hj => by rw [bind_out t _ _ _ j hb (fun z => hj (ht j z)), wipeS_get σs own j hj]
        have out2 : ∀ j, j ∉ own → τ[j]? = σ[j]? := fun j hj => by rw [e1 j (fun z => hj (ht j z)), wipe_get, if_neg hj]
        refine ⟨?_, ?_⟩
        · apply List.ext_getElem?
          intro j
          rw [wipe_get, wipe_get]
          by_cases hj : j ∈ own
          · rw [if_pos hj, if_pos hj]
            have l2 : τ.length = σ.length := by rw [l1, wipe_length]
            by_cases hl : j < σ.length
            · rw [List.getElem?_eq_getElem (show j < τ.length by omega), List.getElem?_eq_getElem hl]; rfl
            · rw [List.getElem?_eq_none (show τ.length ≤ j by omega), List.getElem?_eq_none (show σ.length ≤ j by omega)]
          · rw [if_neg hj, if_neg hj, out2 j hj]
        · have hfr : Hle Fr (upd Fr D (.lst acc)) := upd_le f1
          have back : ∀ {ρ2 : List Addr} {G2 : Hp} {M2 : Mem} {H2 : Hp}, Rle ρ1 ρ2 → Hle G1' G2 → Rel W (upd Fr D (.lst acc)) ρ2 G2 τs M2 τ H2 → Rel W Fr ρ2 G2 σs M2 σ H2 ∧ H2 D = some (.lst acc) ∧ G2 D = none ∧ D ∉ ρ2 := fun {ρ2 G2 M2 H2} a b c => by
            refine ⟨r1.outof c a b hfr no out1 out2, c.fh _ _ upd_same, c.gf _ _ upd_same, fun z => ?_⟩
            obtain ⟨k, hk, ek⟩ := List.getElem_of_mem z
            have hm : k < M2.length := by rw [c.len]; exact hk
            obtain ⟨_, b1, b2, _, h4⟩ := c.mem k D M2[k] (by rw [List.getElem?_eq_getElem hk, ek]) (List.getElem?_eq_getElem hm)
            rw [upd_same] at h4
            rcases h4 with h4 | h4
            · cases h4
            · rw [c.fh _ _ upd_same] at b1
              cases b1
              exact dlk_frz h4 b2 (fun _ _ z => nomatch z)
          refine eo _ ρ1 G1' τs M1 τ H2 _ _ rt ?_
          cases he : el τs M1 with
          | ok o M2 =>
            rw [he] at fin
            have fin := lc_bind (y := o) fin
            cases o with
            | some y =>
              intro ρ2 G2 v H3 a b c k
              obtain ⟨c1, c2, c3, c4⟩ := back a b c
              refine ⟨acc, c2, ?_, hlt, ρ2, G2, M2, acc ++ [v], ys ++ [y], hr.trans a, hg.trans b, c1.poke c3 f1 c4 o1, upd_same, (h2.mono a b).append (.one k), by rw [List.length_append]; simp; omega, c3, f1, c4, o1, Aft.from a b fin⟩
              rw [line_eq, ← h2.length]
              omega
            | none =>
              intro ρ2 G2 H3 a b c
              obtain ⟨c1, c2, c3, c4⟩ := back a b c
              have e : ys ++ (none : Option VM.D).toList = ys := by simp
              rw [e] at fin
              exact ⟨hlt, ρ2, G2, M2, acc, ys, hr.trans a, hg.trans b, c1, c2, h2.mono a b, by omega, c3, f1, c4, o1, Aft.from a b fin⟩
          | ex C M2 =>
            rw [he] at fin
            exact fun ρ2 G2 H3 a b c => fin ρ2 G2 H3 a b (back a b c).1
          | stk => rw [he] at fin; exact fin
    · -- the end
      have e : i = xs.length := by omega
      subst e
      rw [List.drop_length] at fin
      simp only [lcL] at fin
      rw [if_pos st] at fin
      refine .inl ⟨(wk.at_ hr hg r1 st).stop, ?_⟩
      have fin : Aft W WW Fr (RRk W Fr) ρ1 G1 σs σ (okn (.lst (ys ++ [])) M1) Q := fin
      rw [List.append_nil] at fin
      exact fin ρ1 G1 (.ref D) H' (Rle.refl _) (Hle.refl _) r1 ⟨D, rfl, ⟨⟨_, h1, _, rfl, by omega, h2⟩, g1, f1, n1, rfl⟩, o1⟩
end
end VM
/-! VM7: a comprehension, statements. -/
namespace VM
open PySem L2 PySem.Spec PyProof.Rows

section
variable {T : Tab} {Φ : Hot → Nat → List D → Mem → Rs KD} {Γ : Tx} {nm : Nm} {n : Nat} {N : List Str} {sc : Scope} {hot : Hot} {xa : Option Addr} {WW : WX} {X : Cx}
theorem Cok.blk (c : Cok T Φ Γ nm n N sc hot xa WW X) {L : Addr} (fr : Frm X L) (σ : L2.St) (scope : Scope) (s : Shared) (H : Hp) (C : Addr) (cl : List (Str × Addr)) (fp : List Addr) (E : Value → Shared → Prop)
    (toE : ∀ u s', ExE (blkX X s H scope (compEnvC scope cl C X.env) fp E) L (outW WW σ) u s' → E u s') : Cok T Φ Γ nm n N (relS scope sc) hot xa (outW WW σ) (blkX X s H scope (compEnvC scope cl C X.env) fp E) where
  N := c.N
  nd := c.nd
  sc := by rw [← c.sc]; rfl
  sk := c.sk
  fx := ⟨L, ⟨fr.fr, fr.top⟩, toE⟩
  un := c.un
  mode := c.mode
  ar := c.ar
  fk := c.fk
/-- all that is known of a comprehension -/
structure LcP (X : Cx) (WW : WX) (iter tg elt : Expr) (ifs : List Expr) (scope : Scope) (own : List (Str × Nat)) (r : TE) : Prop where
  ex : ∃ (wi : TI) (g : TG) (tt : L2.St → TT) (te : L2.St → TE) (L : Addr), Frm X L ∧ (∀ u s', ExE X L WW u s' → X.xe u s') ∧ PIQ X tg iter wi ∧ BlkOk X.N X.env.scope scope own ∧
    (∀ (s : Shared) (H : Hp) (C : Addr) (cl : List (Str × Addr)) (fp : List Addr) (E : Value → Shared → Prop), PG (blkX X s H scope (compEnvC scope cl C X.env) fp E) tg g) ∧
    (∀ (σ : L2.St) (s : Shared) (H : Hp) (C : Addr) (cl : List (Str × Addr)) (fp : List Addr) (E : Value → Shared → Prop), (∀ u s', ExE (blkX X s H scope (compEnvC scope cl C X.env) fp E) L (fun cls d _ H => WW cls d σ H) u s' → E u s') → PTs (blkX X s H scope (compEnvC scope cl C X.env) fp E) ifs (tt σ)) ∧
    (∀ (σ : L2.St) (s : Shared) (H : Hp) (C : Addr) (cl : List (Str × Addr)) (fp : List Addr) (E : Value → Shared → Prop), (∀ u s', ExE (blkX X s H scope (compEnvC scope cl C X.env) fp E) L (fun cls d _ H => WW cls d σ H) u s' → E u s') → PE (blkX X s H scope (compEnvC scope cl C X.env) fp E) elt (te σ)) ∧
    (∀ x, foldedSetIterable iter X.env x = pure x) ∧ ((∀ σ H Q, r σ H Q → tLcX wi g tt te (own.map (·.2)) σ H Q) ∨ ∀ σ H Q, r σ H Q → tLockE (tLcX wi g tt te (own.map (·.2))) σ H Q)
theorem LcP.pe {iter elt tg : Expr} {ifs : List Expr} {scope : Scope} {own : List (Str × Nat)} {pos : Pos} {r : TE} (c : Cok T Φ Γ nm n N sc hot xa WW X) (p : LcP X WW iter tg elt ifs scope own r) : PE X (.ListComp elt [⟨tg, iter, ifs, 0⟩] scope pos) r := by
  obtain ⟨wi, g, tt, te, L, fr, hx, hi, hb, hg, ht, he, hs, k⟩ := p.ex
  rcases k with k | k
  · exact PE.weak (pe_lcx c.calm fr hx c.nd hi hb hg ht he hs) k
  · exact PE.weak (pe_lock (pe_lcx c.calm fr hx c.nd hi hb hg ht he hs)) k
/-- its elements: what is asked of the block -/
structure LcE (X : Cx) (WW : WX) (W : Wd) (L : Addr) (tg elt : Expr) (ifs : List Expr) (scope : Scope) (t : Tg) (el : List SV → Mem → Rs (Option D)) : Prop where
  hg : ∀ (s : Shared) (H : Hp) (C : Addr) (cl : List (Str × Addr)) (fp : List Addr) (E : Value → Shared → Prop), PG (blkX X s H scope (compEnvC scope cl C X.env) fp E) tg (LG W t)
  el : ∃ (tt : L2.St → TT) (te : L2.St → TE), (∀ σ, ElOk W (outW WW σ) (tt σ) (te σ) el) ∧ ∀ (σ : L2.St) (s : Shared) (H : Hp) (C : Addr) (cl : List (Str × Addr)) (fp : List Addr) (E : Value → Shared → Prop),
    (∀ u s', ExE (blkX X s H scope (compEnvC scope cl C X.env) fp E) L (outW WW σ) u s' → E u s') → PTs (blkX X s H scope (compEnvC scope cl C X.env) fp E) ifs (tt σ) ∧ PE (blkX X s H scope (compEnvC scope cl C X.env) fp E) elt (te σ)
theorem v_lc (c : Cok T Φ Γ nm n N sc hot xa WW X) {iter elt tg : Expr} {ifs : List Expr} {scope : Scope} {own' : List (Str × Nat)} {rit : List SV → Mem → Rs KD} {t : Tg} {el : List SV → Mem → Rs (Option D)}
    (hit : PE X iter (LK (wd X nm xa) WW rit)) (hb : BlkOk X.N X.env.scope scope own') (he : ∀ L, Frm X L → LcE X WW (wd X nm xa) L tg elt ifs scope t el) (hto : ∀ j ∈ t.is, j ∈ own'.map (·.2)) (hs : ∀ x, foldedSetIterable iter X.env x = pure x) {own : List Nat} (ho : own = own'.map (·.2)) :
    LcP X WW iter tg elt ifs scope own' (LK (wd X nm xa) WW fun σ M => if !noO own σ then .stk else (rit σ M).bw.bind fun d M => (match items d M with
      | some xs => (lcL (still d xs) (lcF own t σ el) xs M).bind fun ys M => okn (.lst ys) M
      | none => .stk)) := by
  obtain ⟨L, fr, hx⟩ := c.fx
  obtain ⟨hg, tt, te, eo, h2⟩ := he L fr
  refine ⟨_, _, tt, te, L, fr, hx, pi_sqQ (pe_bw hit), hb, hg, fun σ s H C cl fp E k => (h2 σ s H C cl fp E k).1, fun σ s H C cl fp E k => (h2 σ s H C cl fp E k).2, hs, .inl ?_⟩
  intro σ H Q ⟨Fr, ρ, G, σs, M, r, q⟩
  dsimp only at q
  split at q
  · exact q.elim
  · rename_i hno
    have hno : noO own σs = true := by simpa using hno
    refine ⟨Fr, ρ, G, σs, M, r, (Aft.bind (RA := RRb _) q).weaker ?_⟩
    rintro x H1 ⟨ρ1, G1, M1, d, hr1, hg1, r1, k1, q1⟩
    dsimp only at q1
    split at q1
    · rename_i xs hx
      obtain ⟨a, ea, hq⟩ := src_of (K := X.K) rfl r1 k1 hx
      refine ⟨a, ea, ?_⟩
      subst ho
      rcases hq with ⟨h1, h2⟩ | ⟨h1, h2⟩
      · exact .inl ⟨h1, lc_read r1 (wks_of (sqj_l X.K a) h2) h2.ln (eo σ) hno hto q1⟩
      · exact .inr ⟨h1, lc_read r1 (wks_of (sqj_t X.K a) h2) h2.ln (eo σ) hno hto q1⟩
    · exact q1.elim
theorem Fzs_int {W : Wd} {Fr : Hp} {ρ : List Addr} {G : Hp} {σs : List SV} {M : Mem} {σ : L2.St} {H : Hp} {i : Int} {v : V} (r : Rel W Fr ρ G σs M σ H) (k : Bz W ρ G σs σ (.int i) v) : v = .int i := k.int r
theorem v_lcr1 (c : Cok T Φ Γ nm n N sc hot xa WW X) {a elt tg : Expr} {ifs : List Expr} {scope : Scope} {own' : List (Str × Nat)} {p1 p2 : Pos} {ra : List SV → Mem → Rs (List D)} {t : Tg} {el : List SV → Mem → Rs (Option D)}
    (hgl : gloC sc "range" = true) (h1 : noStar a = true) (hit : PA X [a] (LAb (wd X nm xa) WW ra)) (hb : BlkOk X.N X.env.scope scope own') (he : ∀ L, Frm X L → LcE X WW (wd X nm xa) L tg elt ifs scope t el) (hto : ∀ j ∈ t.is, j ∈ own'.map (·.2)) {own : List Nat} (ho : own = own'.map (·.2))
    (one : ∀ σ M ds M', ra σ M = .ok ds M' → ds.length = 1) :
    LcP X WW (.Call (.Name "range" p1) [a] [] p2) tg elt ifs scope own' (LK (wd X nm xa) WW fun σ M => if !noO own σ then .stk else (ra σ M).bind fun ds M => (match rngL ds with
      | some xs => (lcL (still .non xs) (lcF own t σ el) xs M).bind fun ys M => okn (.lst ys) M
      | none => .stk)) := by
  obtain ⟨L, fr, hx⟩ := c.fx
  obtain ⟨hg, tt, te, eo, h2⟩ := he L fr
  have gl : Gl X "range" := by unfold Gl Env.kindOf; rw [c.sc]; exact gloC_ok hgl
  have fre : X.mg "range" = none := c.sk.free _ (by decide +kernel)
  refine ⟨_, _, tt, te, L, fr, hx, pi_rng1Q gl fre hit (star_cons h1), hb, hg, fun σ s H C cl fp E k => (h2 σ s H C cl fp E k).1, fun σ s H C cl fp E k => (h2 σ s H C cl fp E k).2, fun _ => rfl, .inl ?_⟩
  intro σ H Q ⟨Fr, ρ, G, σs, M, r, q⟩
  dsimp only at q
  split at q
  · exact q.elim
  · rename_i hno
    have hno : noO own σs = true := by simpa using hno
    refine ⟨Fr, ρ, G, σs, M, r, ?_⟩
    dsimp only
    have len := one σs M
    cases e : ra σs M with
    | ok ds M1 =>
      rw [e] at q
      have l1 := len ds M1 e
      intro ρ1 G1 vs H1 hr hg1 r1 k1
      subst ho
      cases ds with
      | nil => cases l1
      | cons d ds =>
        cases ds with
        | cons _ _ => simp at l1
        | nil =>
          obtain ⟨v, r', rfl, kd, kr⟩ := k1
          have kr : r' = [] := kr
          subst kr
          · simp only [Rs.bind, rngL] at q
            split at q
            · rename_i xs hxs
              split at hxs
              · rename_i ys hys
                split at hxs
                · rename_i hl
                  cases hxs
                  unfold rng1 at hys
                  split at hys
                  · rename_i j
                    split at hys
                    · rename_i hj
                      cases hys
                      exact ⟨j, by rw [kd.int r1], by omega, by omega, lc_read r1 wks_rng hl (eo σ) hno hto (Aft.from hr hg1 q)⟩
                    · cases hys
                  · cases hys
                · cases hxs
              · cases hxs
            · exact q.elim
    | ex C M1 => rw [e] at q; exact q
    | stk => rw [e] at q; exact q.elim

theorem v_lcr2 (c : Cok T Φ Γ nm n N sc hot xa WW X) {a b elt tg : Expr} {ifs : List Expr} {scope : Scope} {own' : List (Str × Nat)} {p1 p2 : Pos} {ra : List SV → Mem → Rs (List D)} {t : Tg} {el : List SV → Mem → Rs (Option D)}
    (hgl : gloC sc "range" = true) (h1 : noStar a = true) (h2 : noStar b = true) (hit : PA X [a, b] (LAb (wd X nm xa) WW ra)) (hb : BlkOk X.N X.env.scope scope own') (he : ∀ L, Frm X L → LcE X WW (wd X nm xa) L tg elt ifs scope t el) (hto : ∀ j ∈ t.is, j ∈ own'.map (·.2)) {own : List Nat} (ho : own = own'.map (·.2))
    (one : ∀ σ M ds M', ra σ M = .ok ds M' → ds.length = 2) :
    LcP X WW (.Call (.Name "range" p1) [a, b] [] p2) tg elt ifs scope own' (LK (wd X nm xa) WW fun σ M => if !noO own σ then .stk else (ra σ M).bind fun ds M => (match rngL ds with
      | some xs => (lcL (still .non xs) (lcF own t σ el) xs M).bind fun ys M => okn (.lst ys) M
      | none => .stk)) := by
  obtain ⟨L, fr, hx⟩ := c.fx
  obtain ⟨hg, tt, te, eo, h3⟩ := he L fr
  have gl : Gl X "range" := by unfold Gl Env.kindOf; rw [c.sc]; exact gloC_ok hgl
  have fre : X.mg "range" = none := c.sk.free _ (by decide +kernel)
  refine ⟨_, _, tt, te, L, fr, hx, pi_rng2Q gl fre hit (by rw [star_cons h1, star_cons h2]; rfl) (by rw [star_cons h2]; rfl), hb, hg, fun σ s H C cl fp E k => (h3 σ s H C cl fp E k).1, fun σ s H C cl fp E k => (h3 σ s H C cl fp E k).2, fun _ => rfl, .inl ?_⟩
  intro σ H Q ⟨Fr, ρ, G, σs, M, r, q⟩
  dsimp only at q
  split at q
  · exact q.elim
  · rename_i hno
    have hno : noO own σs = true := by simpa using hno
    refine ⟨Fr, ρ, G, σs, M, r, ?_⟩
    dsimp only
    have len := one σs M
    cases e : ra σs M with
    | ok ds M1 =>
      rw [e] at q
      have l1 := len ds M1 e
      intro ρ1 G1 vs H1 hr hg1 r1 k1
      subst ho
      match ds, l1 with
      | [d, d'], hlen =>
        clear hlen
        obtain ⟨v, r', rfl, kd, v', r'', rfl, kd', kr⟩ := k1
        have kr : r'' = [] := kr
        subst kr
        simp only [Rs.bind, rngL] at q
        split at q
        · rename_i xs hxs
          split at hxs
          · rename_i ys hys
            split at hxs
            · rename_i hl
              cases hxs
              unfold rng2 at hys
              split at hys
              · rename_i i j
                split at hys
                · rename_i hj
                  cases hys
                  exact ⟨i, j, by rw [kd.int r1, kd'.int r1], ⟨by omega, by omega, by omega, by omega⟩, lc_read r1 wks_rng hl (eo σ) hno hto (Aft.from hr hg1 q)⟩
                · cases hys
              · cases hys
            · cases hxs
          · cases hxs
        · exact q.elim
    | ex C M1 => rw [e] at q; exact q
    | stk => rw [e] at q; exact q.elim

/-! ### statements -/
/-- a def's own frame -/
structure FnL (WW : WX) (X : Cx) : Prop where
  stk : X.stack = X.env :: X.outer
  fr : X.env.frame = some X.env.locals
  fn : ∀ x, X.fn x = true
  kd : X.env.scope.kind = .function
  tk : L2N.Takes X WW
  po : PassesOwn (model X.prog X.w) X.A X.env X.xe
theorem fx_of {X : Cx} {WW : WX} (stk : X.stack = X.env :: X.outer) (fr : X.env.frame = some X.env.locals) (tk : L2N.Takes X WW) : ∃ L, Frm X L ∧ ∀ u s', ExE X L WW u s' → X.xe u s' := ⟨X.env.locals, ⟨fr, X.env, X.outer, stk, fr⟩, tk⟩
def AftS (W : Wd) (WW : WX) (Fr : Hp) (ρ : List Addr) (G : Hp) (R : Sx) (D : Ends) : Prop :=
  match R with
  | .nx σs M => ∀ (ρ' : List Addr) (G' : Hp) (σ : L2.St) (H : Hp), Rle ρ ρ' → Hle G G' → Rel W Fr ρ' G' σs M σ H → D.nx σ H
  | .rt r M => ∀ (ρ' : List Addr) (G' : Hp) (v : V) (H : Hp), Rle ρ ρ' → Hle G G' → MRel W Fr ρ' G' M H → ResC W Fr ρ' G' H r v → D.rt v H
  | .ex C σs M => ∀ (ρ' : List Addr) (G' : Hp) (σ : L2.St) (H : Hp), Rle ρ ρ' → Hle G G' → Rel W Fr ρ' G' σs M σ H → WW (.ref (W.ca C)) none σ H
  | .stk => False
def LS (W : Wd) (WW : WX) (r : List SV → Mem → Sx) : TS := fun D σ H => ∃ (Fr : Hp) (ρ : List Addr) (G : Hp) (σs : List SV) (M : Mem), Rel W Fr ρ G σs M σ H ∧ AftS W WW Fr ρ G (r σs M) D
section
variable {W : Wd} {WW : WX} {Fr : Hp} {ρ : List Addr} {G : Hp} {σs : List SV} {M : Mem} {σ : L2.St} {H : Hp} {D : Ends} {α β : Type} {RA : RT α β}
theorem AftS.from {R : Sx} {ρ0 : List Addr} {G0 : Hp} (hr : Rle ρ0 ρ) (hg : Hle G0 G) (h : AftS W WW Fr ρ0 G0 R D) : AftS W WW Fr ρ G R D := by
  cases R with
  | nx s M => exact fun ρ' G' σ H h1 h2 h3 => h ρ' G' σ H (hr.trans h1) (hg.trans h2) h3
  | rt r M => exact fun ρ' G' v H h1 h2 h3 h4 => h ρ' G' v H (hr.trans h1) (hg.trans h2) h3 h4
  | ex C s M => exact fun ρ' G' σ H h1 h2 h3 => h ρ' G' σ H (hr.trans h1) (hg.trans h2) h3
  | stk => exact h
theorem AftS.on {R : Rs α} {f : α → Mem → Sx} (h : AftS W WW Fr ρ G (R.on σs f) D) : Aft W WW Fr RA ρ G σs σ R fun x H1 =>
    ∃ (ρ1 : List Addr) (G1 : Hp) (M1 : Mem) (a : α), Rle ρ ρ1 ∧ Hle G G1 ∧ Rel W Fr ρ1 G1 σs M1 σ H1 ∧ RA ρ1 G1 σs σ H1 a x ∧ AftS W WW Fr ρ1 G1 (f a M1) D := by
  cases R with
  | ok a M => exact fun ρ' G' v H' h1 h2 h3 h4 => ⟨ρ', G', M, a, h1, h2, h3, h4, AftS.from h1 h2 (show AftS W WW Fr ρ G (f a M) D from h)⟩
  | ex C M => exact fun ρ' G' H' h1 h2 h3 => h ρ' G' σ H' h1 h2 h3
  | stk => exact h
theorem AftS.next {R : Sx} {f : List SV → Mem → Sx} (h : AftS W WW Fr ρ G (R.next f) D) : AftS W WW Fr ρ G R { D with nx := LS W WW f D } := by
  cases R with
  | nx s M => exact fun ρ' G' σ H h1 h2 h3 => ⟨Fr, ρ', G', s, M, h3, AftS.from h1 h2 (show AftS W WW Fr ρ G (f s M) D from h)⟩
  | rt r M => exact h
  | ex C s M => exact h
  | stk => exact h
end
section
variable {W : Wd} {ra : List SV → Mem → Rs KD} {e : Expr} {pos : Pos}
theorem s_nil : PSs X [] (LS W WW fun σ M => .nx σ M) := PSs.weak pss_nil fun D σ H ⟨Fr, ρ, G, σs, M, r, q⟩ => q ρ G σ H (Rle.refl _) (Hle.refl _) r
theorem s_cons {st : Stmt} {rest : List Stmt} {r1 r2 : List SV → Mem → Sx} (h1 : PS X st (LS W WW r1)) (h2 : PSs X rest (LS W WW r2)) : PSs X (st :: rest) (LS W WW fun σ M => (r1 σ M).next r2) :=
  PSs.weak (pss_cons h1 h2) fun D σ H ⟨Fr, ρ, G, σs, M, r, q⟩ => ⟨Fr, ρ, G, σs, M, r, q.next⟩
theorem s_pass : PS X (.Pass pos) (LS W WW fun σ M => .nx σ M) := PS.weak ps_pass fun D σ H ⟨Fr, ρ, G, σs, M, r, q⟩ => q ρ G σ H (Rle.refl _) (Hle.refl _) r
theorem s_exp (hs : swapsWith e none pos.line X.env = pure false) (he : PE X e (LK W WW ra)) : PS X (.Expr e pos) (LS W WW fun σ M => (ra σ M).on σ fun _ M => .nx σ M) := by
  refine PS.weak (ps_expr he hs) fun D σ H ⟨Fr, ρ, G, σs, M, r, q⟩ => ⟨Fr, ρ, G, σs, M, r, (AftS.on (RA := RRk W Fr) q).weaker ?_⟩
  rintro x H1 ⟨ρ1, G1, M1, a, h1, h2, h3, h4, h5⟩
  exact h5 ρ1 G1 σ H1 (Rle.refl _) (Hle.refl _) h3
theorem s_ret (he : PE X e (LK W WW ra)) : PS X (.Return (some e) pos) (LS W WW fun σ M => (ra σ M).on σ fun r M => .rt (out r) M) := by
  refine PS.weak (ps_ret he) fun D σ H ⟨Fr, ρ, G, σs, M, r, q⟩ => ⟨Fr, ρ, G, σs, M, r, (AftS.on (RA := RRk W Fr) q).weaker ?_⟩
  rintro x H1 ⟨ρ1, G1, M1, ⟨k, d⟩, h1, h2, h3, h4, h5⟩
  refine h5 ρ1 G1 x H1 (Rle.refl _) (Hle.refl _) h3.toMRel ?_
  cases k with
  | f => exact h4
  | n =>
    obtain ⟨p, e, n, _⟩ := h4
    exact ⟨p, e, n⟩
  | b =>
    obtain ⟨i, e1, e2⟩ := h4
    obtain ⟨p, e3, n⟩ := h3.own i _ e1
    rw [e2] at e3
    cases e3
    exact ⟨p, rfl, n⟩
theorem s_retN : PS X (.Return none pos) (LS W WW fun σ M => (ok1 .non M).on σ fun r M => .rt (out r) M) :=
  PS.weak ps_retN fun D σ H ⟨Fr, ρ, G, σs, M, r, q⟩ => q ρ G .non H (Rle.refl _) (Hle.refl _) r.toMRel rfl
theorem s_ite {t : Expr} {a b : List Stmt} {r1 r2 : List SV → Mem → Sx} (ht : PT X t (LT W WW fun σ M => (ra σ M).bl)) (h1 : PSs X a (LS W WW r1)) (h2 : PSs X b (LS W WW r2)) :
    PS X (.If t a b pos) (LS W WW fun σ M => (ra σ M).bl.on σ fun k M => if k then r1 σ M else r2 σ M) := by
  refine PS.weak (ps_if ht h1 h2) fun D σ H ⟨Fr, ρ, G, σs, M, r, q⟩ => ⟨Fr, ρ, G, σs, M, r, (AftS.on (RA := RRt) q).weaker ?_⟩
  rintro x H1 ⟨ρ1, G1, M1, a, h1, h2, h3, h4, h5⟩
  subst h4
  cases x with
  | true => exact ⟨Fr, ρ1, G1, σs, M1, h3, h5⟩
  | false => exact ⟨Fr, ρ1, G1, σs, M1, h3, h5⟩
/-- a shared object is made of something new -/
theorem Rel.share {W : Wd} {Fr : Hp} {ρ : List Addr} {G : Hp} {σs : List SV} {M : Mem} {σ : L2.St} {H : Hp} {d : VM.D} {p : Addr} (r : Rel W Fr ρ G σs M σ H) (n : New W Fr ρ G H d p) (no : ∀ j, ¬ Own σs σ j p) : Rel W Fr (ρ ++ [p]) G σs (M ++ [d]) σ H where
  gh := r.gh
  fh := r.fh
  gf := r.gf
  len := by rw [List.length_append, List.length_append, r.len]; rfl
  mem := fun i a e h1 h2 => by
    have hr : Rle ρ (ρ ++ [p]) := fun i a h => by rw [List.getElem?_append_left (List.getElem?_eq_some_iff.mp h).1]; exact h
    by_cases hl : i < ρ.length
    · rw [List.getElem?_append_left hl] at h1
      rw [List.getElem?_append_left (by rw [r.len]; exact hl)] at h2
      obtain ⟨ho, a1, a2, a3⟩ := r.mem i a e h1 h2
      exact ⟨ho, a1, a2.mono hr (Hle.refl _), a3⟩
    · have hi : i = ρ.length := by
        have := (List.getElem?_eq_some_iff.mp h1).1
        rw [List.length_append, List.length_singleton] at this
        omega
      subst hi
      rw [List.getElem?_concat_length] at h1
      rw [← r.len, List.getElem?_concat_length] at h2
      cases h1
      cases h2
      obtain ⟨ho, a1, a2⟩ := n.at_
      exact ⟨ho, a1, a2.mono hr (Hle.refl _), n.g, .inl n.f⟩
  nd := fun i j a h1 h2 => by
    have ck : ∀ {i : Nat}, (ρ ++ [p])[i]? = some a → (ρ[i]? = some a) ∨ (i = ρ.length ∧ a = p) := fun {i} h => by
      by_cases hl : i < ρ.length
      · rw [List.getElem?_append_left hl] at h; exact .inl h
      · have hi : i = ρ.length := by
          have := (List.getElem?_eq_some_iff.mp h).1
          rw [List.length_append, List.length_singleton] at this
          omega
        subst hi
        rw [List.getElem?_concat_length] at h
        cases h
        exact .inr ⟨rfl, rfl⟩
    rcases ck h1 with a1 | ⟨a1, b1⟩
    · rcases ck h2 with a2 | ⟨a2, b2⟩
      · exact r.nd i j a a1 a2
      · subst b2; exact absurd (List.mem_of_getElem? a1) n.r
    · rcases ck h2 with a2 | ⟨a2, b2⟩
      · subst b1; exact absurd (List.mem_of_getElem? a2) n.r
      · rw [a1, a2]
  sl := r.sl
  val := fun i e h => by
    have hr : Rle ρ (ρ ++ [p]) := fun i a h => by rw [List.getElem?_append_left (List.getElem?_eq_some_iff.mp h).1]; exact h
    obtain ⟨v, a1, a2⟩ := r.val i e h
    exact ⟨v, a1, a2.mono hr (Hle.refl _)⟩
  own := fun i e h => by
    have hr : Rle ρ (ρ ++ [p]) := fun i a h => by rw [List.getElem?_append_left (List.getElem?_eq_some_iff.mp h).1]; exact h
    obtain ⟨q, a1, n'⟩ := r.own i e h
    have : q ≠ p := fun z => no i ⟨e, h, z ▸ a1⟩
    exact ⟨q, a1, n'.mono hr (Hle.refl _) (fun _ z => z) n'.g (by simp [n'.r, this])⟩
  uniq := r.uniq
theorem Rle.push (ρ : List Addr) (p : Addr) : Rle ρ (ρ ++ [p]) := fun i a h => by rw [List.getElem?_append_left (List.getElem?_eq_some_iff.mp h).1]; exact h
/-- something new is shared -/
theorem aft_cel {W : Wd} {WW : WX} {Fr : Hp} {ρ : List Addr} {G : Hp} {σs : List SV} {σ : L2.St} {R : Rs KD} {Q : VK} (h : Aft W WW Fr (RRk W Fr) ρ G σs σ R.cel Q) : Aft W WW Fr (RRk W Fr) ρ G σs σ R Q := by
  cases R with
  | ok a M =>
    obtain ⟨k, d⟩ := a
    cases k with
    | f => exact h
    | b => exact h.elim
    | n =>
      rintro ρ' G' v H' hr hg r ⟨p, rfl, n, no⟩
      refine h (ρ' ++ [p]) G' (.ref p) H' (hr.trans (Rle.push ρ' p)) hg (r.share n no) ?_
      show Fz W (ρ' ++ [p]) G' (.cell M.length) (.ref p)
      unfold Fz
      exact ⟨p, rfl, by rw [r.len, List.getElem?_concat_length]⟩
  | ex C M => exact h
  | stk => exact h
theorem aft_celb {W : Wd} {WW : WX} {Fr : Hp} {ρ : List Addr} {G : Hp} {σs : List SV} {σ : L2.St} {R : Rs KD} {Q : Bool → Hp → Prop} (h : Aft W WW Fr RRt ρ G σs σ R.cel.bl Q) : Aft W WW Fr RRt ρ G σs σ R.bl Q := by
  cases R with
  | ok a M =>
    obtain ⟨k, d⟩ := a
    cases k with
    | f => exact h
    | b => exact h.elim
    | n => exact h.elim
  | ex C M => exact h
  | stk => exact h
/-- a store to a slot -/
theorem stored {W : Wd} {WW : WX} {Fr : Hp} {ρ : List Addr} {G : Hp} {σs : List SV} {M : Mem} {σ : L2.St} {H : Hp} {D : Ends} {m : Md} {i : Nat} {k : KD} {x : V} (r : Rel W Fr ρ G σs M σ H) (h : Res W Fr ρ G σs σ H k x) (q : AftS W WW Fr ρ G (store m i k σs M) D) : D.nx (σ.set i (some x)) H := by
  obtain ⟨kk, d⟩ := k
  have hl : ∀ (o : HO) (p : Addr), H p = some o → True := fun _ _ _ => trivial
  unfold store at q
  cases kk with
  | b => cases m <;> exact q.elim
  | f => cases m <;> exact q ρ G _ H (Rle.refl _) (Hle.refl _) (r.setv h)
  | n =>
    obtain ⟨p, rfl, n, no⟩ := h
    cases m with
    | f =>
      obtain ⟨ho, e, c⟩ := n.at_
      exact q ρ _ _ H (Rle.refl _) (upd_le n.g) ((r.keep e n.g n.f n.r no).setv ((c.mono (Rle.refl _) (upd_le n.g)).fz upd_same))
    | o => exact q ρ G _ H (Rle.refl _) (Hle.refl _) (r.seto n no)
    | c =>
      have r2 := r.share n no
      refine q (ρ ++ [p]) G _ H (Rle.push ρ p) (Hle.refl _) (r2.setv ?_)
      unfold Fz
      refine ⟨p, rfl, ?_⟩
      rw [r.len, List.getElem?_concat_length]
theorem s_set {m : Md} {i : Nat} {x : Str} {pos' : Pos} (hN : X.N.Nodup) (hi : X.N[i]? = some x) (hx : Loc X.env.scope x) (hf : X.fn x = true ∨ X.env.scope.names.lookup x = some .local) (hs : swapsWith e (some (.Name x pos')) pos.line X.env = pure false) (he : PE X e (LK W WW ra)) :
    PS X (.Assign [.Name x pos'] e pos) (LS W WW fun σ M => (ra σ M).on σ fun r M => store m i r σ M) := by
  refine PS.weak (ps_set hN hi hx he hs hf) fun D σ H ⟨Fr, ρ, G, σs, M, r, q⟩ => ⟨Fr, ρ, G, σs, M, r, (AftS.on (RA := RRk W Fr) q).weaker ?_⟩
  rintro y H1 ⟨ρ1, G1, M1, a, h1, h2, h3, h4, h5⟩
  exact stored h3 h4 h5
end
end
end VM
/-! VM8: for, raise, try. -/
namespace VM
open PySem L2 PySem.Spec PyProof.Rows

/-- how a for goes over items -/
structure Wk (W : Wd) (Fr : Hp) (ρ : List Addr) (G : Hp) (J : L2.It) (xs : List D) (c : Mem → Bool) : Prop where
  at_ : ∀ {ρ' : List Addr} {G' : Hp} {σs : List SV} {M : Mem} {σ : L2.St} {H : Hp}, Rle ρ ρ' → Hle G G' → Rel W Fr ρ' G' σs M σ H → c M = true → WkAt W Fr ρ' G' σs M σ H J xs
section
variable {W : Wd} {WW : WX} {Fr : Hp} {ρ : List Addr} {G : Hp} {σs : List SV} {M : Mem} {σ : L2.St} {H : Hp} {d : VM.D} {v : V} {xs : List VM.D} {K : PySem.W.Frag}
theorem wk_of {J : L2.It} {S : Hp → List V → Prop} {c : Mem → Bool} (sj : SqJ J S) (h : ∀ {ρ' : List Addr} {G' : Hp} {σs : List SV} {M : Mem} {σ : L2.St} {H : Hp}, Rle ρ ρ' → Hle G G' → Rel W Fr ρ' G' σs M σ H → c M = true → ∃ vs, S H vs ∧ Fzs W ρ' G' xs vs) : Wk W Fr ρ G J xs c where
  at_ := fun {ρ' G' σs M σ H} hr hg r hc => by
    obtain ⟨vs, h1, h2⟩ := h hr hg r hc
    exact wkat_of sj r h1 h2
theorem srcF_of (hK : W.K = K) (r : Rel W Fr ρ G σs M σ H) (b : Fz W ρ G d v) (h : items d M = some xs) :
    ∃ a, v = .ref a ∧ (((∃ vs, SqL K H a vs) ∧ Wk W Fr ρ G (Itl K a) xs (still d xs)) ∨ ((∃ vs, SqT K H a vs) ∧ Wk W Fr ρ G (Itt K a) xs (still d xs))) := by
  cases d with
  | lst ds =>
    simp only [items, deref, Option.some.injEq] at h
    subst h
    unfold Fz at b
    obtain ⟨a, vs, e, q, l, f⟩ := b
    exact ⟨a, e, .inl ⟨⟨vs, .of (r.gh _ _ q)⟩, wk_of (sqj_l K a) fun hr hg r' _ => ⟨vs, .of (r'.gh _ _ (hg _ _ q)), f.mono hr hg⟩⟩⟩
  | scr ds =>
    simp only [items, deref, Option.some.injEq] at h
    subst h
    unfold Fz at b
    obtain ⟨a, vs, e, q, l, f⟩ := b
    exact ⟨a, e, .inl ⟨⟨vs, hK ▸ r.gh.sql q⟩, wk_of (sqj_l K a) fun hr hg r' _ => ⟨vs, hK ▸ r'.gh.sql (hg.sql q), f.mono hr hg⟩⟩⟩
  | tup ds =>
    simp only [items, deref, Option.some.injEq] at h
    subst h
    unfold Fz at b
    obtain ⟨a, vs, e, q, l, f⟩ := b
    exact ⟨a, e, .inr ⟨⟨vs, hK ▸ r.gh.sqt q⟩, wk_of (sqj_t K a) fun hr hg r' _ => ⟨vs, hK ▸ r'.gh.sqt (hg.sqt q), f.mono hr hg⟩⟩⟩
  | cell i =>
    unfold Fz at b
    obtain ⟨a, e, q⟩ := b
    subst e
    have mk : ∀ {ρ' : List Addr} {G' : Hp} {σs' : List SV} {M' : Mem} {σ' : L2.St} {H' : Hp}, Rle ρ ρ' → Rel W Fr ρ' G' σs' M' σ' H' → ∀ {ys : List VM.D}, items (.cell i) M' = some ys → ∃ vs, SqL K H' a vs ∧ Fzs W ρ' G' ys vs := fun {ρ' G' σs' M' σ' H'} hr r' {ys} h' => by
      have e := hr _ _ q
      have hi : i < M'.length := by rw [r'.len]; exact (List.getElem?_eq_some_iff.mp e).1
      obtain ⟨ho, h1, c, _⟩ := r'.mem i a M'[i] e (List.getElem?_eq_getElem hi)
      have de : deref M' (.cell i) = M'[i] := by simp [deref, List.getD, List.getElem?_eq_getElem hi]
      unfold items at h'
      rw [de] at h'
      cases z : M'[i] with
      | lst zs =>
        rw [z] at h' c
        simp only [Option.some.injEq] at h'
        subst h'
        obtain ⟨vs, eo, l, f⟩ := c
        subst eo
        exact ⟨vs, .of h1, f⟩
      | tup _ => rw [z] at c; exact c.elim
      | scr _ => rw [z] at c; exact c.elim
      | _ => rw [z] at h'; cases h'
    obtain ⟨vs, s1, f1⟩ := mk (Rle.refl _) r h
    refine ⟨a, rfl, .inl ⟨⟨vs, s1⟩, wk_of (sqj_l K a) fun {ρ' G' σs' M' σ' H'} hr hg r' hs => ?_⟩⟩
    unfold still at hs
    dsimp only at hs
    split at hs
    · rename_i ys e1
      have e2 := sames_ok _ _ hs
      subst e2
      exact mk hr r' e1
    · cases hs
  | _ => simp [items, deref] at h
theorem wk_rng {lo : Int} {n : Nat} : Wk W Fr ρ G (Itr lo n) (upTo (fun k => lo + (k : Int)) n) (still .non (upTo (fun k => lo + (k : Int)) n)) where
  at_ := fun _ _ r _ => wkat_rng r
theorem for_read {J : L2.It} {t : Tg} {c : Mem → Bool} {body : List SV → Mem → Sx} {D : Ends} (r : Rel W Fr ρ G σs M σ H) (wk : Wk W Fr ρ G J xs c) (q : AftS W WW Fr ρ G (forL c (forF t body) xs σs M) D) :
    ∃ Wv : Nat → Nat → L2.St → Hp → Prop, (∃ m, Wv 0 m σ H) ∧ ∀ i m σ H, Wv i m σ H → (J.stop i H ∧ D.nx σ H) ∨ (J.go i H ∧ ∃ Nx : L2.St → Hp → Prop, (∀ σ' H', Nx σ' H' → ∃ m', m' < m ∧ Wv (i + 1) m' σ' H') ∧
      ∀ x H', J.yld i H x H' → LG W t x σ H' fun σ2 H2 => LS W WW body { D with nx := Nx, ct := Nx, bk := D.nx } σ2 H2) := by
  refine ⟨fun i m σ H => i ≤ xs.length ∧ m = xs.length - i ∧ ∃ (ρ1 : List Addr) (G1 : Hp) (σs1 : List SV) (M1 : Mem), Rle ρ ρ1 ∧ Hle G G1 ∧ Rel W Fr ρ1 G1 σs1 M1 σ H ∧ AftS W WW Fr ρ1 G1 (forL c (forF t body) (xs.drop i) σs1 M1) D, ⟨xs.length, Nat.zero_le _, rfl, ρ, G, σs, M, Rle.refl _, Hle.refl _, r, by rw [List.drop_zero]; exact q⟩, ?_⟩
  rintro i m σ1 H1 ⟨hi, rfl, ρ1, G1, σs1, M1, hr, hg, r1, q1⟩
  have hc : c M1 = true := by
    by_cases hc : c M1 = true
    · exact hc
    · exfalso
      cases e : xs.drop i with
      | nil => rw [e] at q1; simp only [forL] at q1; rw [if_neg hc] at q1; exact q1
      | cons x r => rw [e] at q1; simp only [forL] at q1; rw [if_neg hc] at q1; exact q1
  by_cases hlt : i < xs.length
  · have ed : xs.drop i = xs[i] :: xs.drop (i + 1) := List.drop_eq_getElem_cons hlt
    rw [ed] at q1
    simp only [forL] at q1
    rw [if_pos hc] at q1
    obtain ⟨g1, g2⟩ := (wk.at_ hr hg r1 hc).go i hlt
    refine .inr ⟨g1, fun σ2 H2 => ∃ (ρ2 : List Addr) (G2 : Hp) (σs2 : List SV) (M2 : Mem), Rle ρ ρ2 ∧ Hle G G2 ∧ Rel W Fr ρ2 G2 σs2 M2 σ2 H2 ∧ AftS W WW Fr ρ2 G2 (forL c (forF t body) (xs.drop (i + 1)) σs2 M2) D,
      fun σ2 H2 k => ⟨xs.length - (i + 1), by omega, hlt, rfl, k⟩, fun x H2 hy => ?_⟩
    obtain ⟨G1', gg, r1', fx, _, _⟩ := g2 x H2 hy
    have hg := hg.trans gg
    have q1 := AftS.from (Rle.refl _) gg q1
    clear r1
    have r1 := r1'
    clear r1'
    cases hb : t.bind xs[i] σs1 with
    | none =>
      rw [show forF t body xs[i] σs1 M1 = .stk from by unfold forF; rw [hb]] at q1
      exact q1.elim
    | some τs =>
      rw [show forF t body xs[i] σs1 M1 = body τs M1 from by unfold forF; rw [hb]] at q1
      refine ⟨Fr, ρ1, G1', σs1, M1, xs[i], r1, fx, τs, hb, fun τ rt _ _ => ⟨Fr, ρ1, G1', τs, M1, rt, ?_⟩⟩
      cases hs : body τs M1 with
      | nx s2 M2 =>
        rw [hs] at q1
        exact fun ρ2 G2 σ2 H2 h1 h2 h3 => ⟨ρ2, G2, s2, M2, hr.trans h1, hg.trans h2, h3, AftS.from h1 h2 (show AftS W WW Fr ρ1 G1' (forL c (forF t body) (xs.drop (i + 1)) s2 M2) D from q1)⟩
      | rt k M2 => rw [hs] at q1; exact q1
      | ex C s2 M2 => rw [hs] at q1; exact q1
      | stk => rw [hs] at q1; exact q1.elim
  · have e : i = xs.length := by omega
    subst e
    rw [List.drop_length] at q1
    simp only [forL] at q1
    rw [if_pos hc] at q1
    exact .inl ⟨(wk.at_ hr hg r1 hc).stop, q1 ρ1 G1 σ1 H1 (Rle.refl _) (Hle.refl _) r1⟩
end
section
variable {T : Tab} {Φ : Hot → Nat → List D → Mem → Rs KD} {Γ : Tx} {nm : Nm} {n : Nat} {N : List Str} {sc : Scope} {hot : Hot} {xa : Option Addr} {WW : WX} {X : Cx}
theorem s_for (c : Cok T Φ Γ nm n N sc hot xa WW X) (fl : FnL WW X) {iter tg : Expr} {body : List Stmt} {pos : Pos} {rit : List SV → Mem → Rs KD} {t : Tg} {rb : List SV → Mem → Sx} (hit : PE X iter (LK (wd X nm xa) WW rit)) (hg : PG X tg (LG (wd X nm xa) t)) (hb : PSs X body (LS (wd X nm xa) WW rb))
    (hs : ∀ x, foldedSetIterable iter X.env x = pure x) :
    PS X (.For tg iter body [] pos) (LS (wd X nm xa) WW fun σ M => ((rit σ M).fz.bind fun d M => okL (items d M) d M).on σ fun xd M => forL (still xd.2 xd.1) (forF t rb) xd.1 σ M) := by
  refine PS.weak (ps_forQ fl.po c.calm (pi_sqQ (pe_fz hit)) hg hb hs) fun D σ H ⟨Fr, ρ, G, σs, M, r, q⟩ => ⟨Fr, ρ, G, σs, M, r, ?_⟩
  dsimp only at q ⊢
  cases e : (rit σs M).fz with
  | ok d M1 =>
    rw [e] at q
    intro ρ1 G1 v H1 hr hg1 r1 k1
    simp only [Rs.bind] at q
    cases hx : items d M1 with
    | none => rw [hx] at q; exact q.elim
    | some xs =>
      rw [hx] at q
      simp only [Rs.on, okL] at q
      obtain ⟨a, ea, hq⟩ := srcF_of (K := X.K) rfl r1 k1 hx
      refine ⟨a, ea, ?_⟩
      rcases hq with ⟨h1, h2⟩ | ⟨h1, h2⟩
      · exact .inl ⟨h1, for_read r1 h2 (AftS.from hr hg1 q)⟩
      · exact .inr ⟨h1, for_read r1 h2 (AftS.from hr hg1 q)⟩
  | ex C M1 => rw [e] at q; exact fun ρ' G' H' h1 h2 h3 => q ρ' G' σ H' h1 h2 h3
  | stk => rw [e] at q; exact q.elim
theorem s_rng1 (c : Cok T Φ Γ nm n N sc hot xa WW X) (fl : FnL WW X) {tg a : Expr} {body : List Stmt} {pos p1 p2 : Pos} {ra : List SV → Mem → Rs KD} {t : Tg} {rb : List SV → Mem → Sx} (hx : gloC sc "range" = true) (h1 : noStar a = true)
    (ha : PE X a (LK (wd X nm xa) WW ra)) (hg : PG X tg (LG (wd X nm xa) t)) (hb : PSs X body (LS (wd X nm xa) WW rb)) :
    PS X (.For tg (.Call (.Name "range" p1) [a] [] p2) body [] pos) (LS (wd X nm xa) WW fun σ M => ((ra σ M).bw.bind fun x M => okL (rng1 x) .non M).on σ fun xd M => forL (still xd.2 xd.1) (forF t rb) xd.1 σ M) := by
  have gl : Gl X "range" := by unfold Gl Env.kindOf; rw [c.sc]; exact gloC_ok hx
  have fr : X.mg "range" = none := c.sk.free _ (by decide +kernel)
  refine PS.weak (ps_forQ fl.po c.calm (pi_rng1Q gl fr (pa_cons (pe_bw ha) pa_nil (star_cons h1)) (star_cons h1)) hg hb (fun _ => rfl)) fun D σ H ⟨Fr, ρ, G, σs, M, r, q⟩ => ⟨Fr, ρ, G, σs, M, r, ?_⟩
  dsimp only at q ⊢
  cases e : (ra σs M).bw with
  | ok d M1 =>
    rw [e] at q
    intro ρ1 G1 v H1 hr hg1 r1 k1
    simp only [Rs.bind] at q
    unfold rng1 at q
    split at q
    · rename_i j
      split at q
      · rename_i hj
        simp only [Rs.on, okL] at q
        exact ⟨j, by rw [k1.int r1], by omega, by omega, for_read r1 wk_rng (AftS.from hr hg1 q)⟩
      · exact q.elim
    · exact q.elim
  | ex C M1 => rw [e] at q; exact fun ρ' G' H' h1 h2 h3 => q ρ' G' σ H' h1 h2 h3
  | stk => rw [e] at q; exact q.elim
theorem s_rng2 (c : Cok T Φ Γ nm n N sc hot xa WW X) (fl : FnL WW X) {tg a b : Expr} {body : List Stmt} {pos p1 p2 : Pos} {ra rc : List SV → Mem → Rs KD} {t : Tg} {rb : List SV → Mem → Sx} (hx : gloC sc "range" = true) (h1 : noStar a = true) (h2 : noStar b = true)
    (ha : PE X a (LK (wd X nm xa) WW ra)) (hc : PE X b (LK (wd X nm xa) WW rc)) (hg : PG X tg (LG (wd X nm xa) t)) (hb : PSs X body (LS (wd X nm xa) WW rb)) :
    PS X (.For tg (.Call (.Name "range" p1) [a, b] [] p2) body [] pos) (LS (wd X nm xa) WW fun σ M => ((ra σ M).bw.bind fun x M => (rc σ M).bw.bind fun y M => okL (rng2 x y) .non M).on σ fun xd M => forL (still xd.2 xd.1) (forF t rb) xd.1 σ M) := by
  have gl : Gl X "range" := by unfold Gl Env.kindOf; rw [c.sc]; exact gloC_ok hx
  have fr : X.mg "range" = none := c.sk.free _ (by decide +kernel)
  refine PS.weak (ps_forQ fl.po c.calm (pi_rng2Q gl fr (pa_cons (pe_bw ha) (pa_cons (pe_bw hc) pa_nil (star_cons h2)) (star_cons h1)) (by rw [star_cons h1, star_cons h2]; rfl) (by rw [star_cons h2]; rfl)) hg hb (fun _ => rfl)) fun D σ H ⟨Fr, ρ, G, σs, M, r, q⟩ => ⟨Fr, ρ, G, σs, M, r, ?_⟩
  dsimp only at q ⊢
  cases e : (ra σs M).bw with
  | ok d M1 =>
    rw [e] at q
    intro ρ1 G1 v H1 hr hg1 r1 k1
    simp only [Rs.bind] at q
    refine ⟨Fr, ρ1, G1, σs, M1, r1, ?_⟩
    dsimp only
    cases e2 : (rc σs M1).bw with
    | ok d2 M2 =>
      rw [e2] at q
      intro ρ2 G2 v2 H2 hr2 hg2 r2 k2
      simp only [Rs.bind] at q
      unfold rng2 at q
      split at q
      · rename_i i j
        split at q
        · rename_i hj
          simp only [Rs.on, okL] at q
          have k1' : Bz (wd X nm xa) ρ2 G2 σs σ (.int i) v := k1.elim (fun k => .inl (k.mono hr2 hg2)) .inr
          exact ⟨i, j, by rw [k1'.int r2, k2.int r2], ⟨by omega, by omega, by omega, by omega⟩, for_read r2 wk_rng (AftS.from (hr.trans hr2) (hg1.trans hg2) q)⟩
        · exact q.elim
      · exact q.elim
    | ex C M2 => rw [e2] at q; exact fun ρ' G' H' h1 h2 h3 => q ρ' G' σ H' (hr.trans h1) (hg1.trans h2) h3
    | stk => rw [e2] at q; exact q.elim
  | ex C M1 => rw [e] at q; exact fun ρ' G' H' h1 h2 h3 => q ρ' G' σ H' h1 h2 h3
  | stk => rw [e] at q; exact q.elim
end
end VM
/-! VMU: what is changed in place. -/
namespace VM
open PySem L2 PySem.Spec PyProof.Rows
section
variable {W : Wd} {Fr : Hp} {ρ : List Addr} {G : Hp} {σs : List SV} {M : Mem} {σ : L2.St} {H : Hp} {d d' : VM.D} {p : Addr} {ho' : HO} {i : Nat}
/-- an own object written -/
theorem Rel.own_w (r : Rel W Fr ρ G σs M σ H) (e1 : σs[i]? = some (.o d)) (e2 : σ[i]? = some (some (.ref p))) (c : Co W ρ G d' ho') (l : d'.isDlk = false := by rfl) : Rel W Fr ρ G (σs.set i (.o d')) M σ (upd H p ho') := by
  obtain ⟨p', e3, n⟩ := r.own i d e1
  rw [e2] at e3
  cases e3
  have hi : i < σs.length := (List.getElem?_eq_some_iff.mp e1).1
  have ow : ∀ {j q}, Own (σs.set i (.o d')) σ j q → Own σs σ j q := fun {j q} ⟨x, h1, h2⟩ => by
    by_cases h : i = j
    · subst h; exact ⟨d, e1, h2⟩
    · rw [List.getElem?_set_ne h] at h1; exact ⟨x, h1, h2⟩
  refine { gh := fun a o e => ?_, fh := fun a o e => ?_, gf := r.gf, len := r.len, mem := fun j a x h1 h2 => ?_, nd := r.nd, sl := by rw [List.length_set]; exact r.sl, val := fun j x h => ?_, own := fun j x h => ?_, uniq := fun j k q h1 h2 => r.uniq j k q (ow h1) (ow h2) }
  · rw [upd_ne (fun z => by rw [z, n.g] at e; cases e)]; exact r.gh _ _ e
  · rw [upd_ne (fun z => by rw [z, n.f] at e; cases e)]; exact r.fh _ _ e
  · obtain ⟨ho, a1, a2⟩ := r.mem j a x h1 h2
    have ne : a ≠ p := fun z => n.r (z ▸ List.mem_of_getElem? h1)
    exact ⟨ho, by rw [upd_ne ne]; exact a1, a2⟩
  · by_cases hj : i = j
    · subst hj; rw [List.getElem?_set_self hi] at h; cases h
    · rw [List.getElem?_set_ne hj] at h; exact r.val j x h
  · by_cases hj : i = j
    · subst hj
      rw [List.getElem?_set_self hi] at h
      cases h
      exact ⟨p, e2, ⟨_, upd_same, c⟩, n.g, n.f, n.r, l⟩
    · rw [List.getElem?_set_ne hj] at h
      obtain ⟨q, h1, h2⟩ := r.own j x h
      have ne : q ≠ p := fun z => hj (r.uniq i j p ⟨d, e1, e2⟩ ⟨x, h, z ▸ h1⟩)
      obtain ⟨ho, a1, a2⟩ := h2.at_
      exact ⟨q, h1, ⟨ho, by rw [upd_ne ne]; exact a1, a2⟩, h2.g, h2.f, h2.r, h2.l⟩
theorem nlk {j : Nat} {x : VM.D} (e : M.getD j .non = x) (l : x.isDlk = false) : ∀ y, M[j]? = some y → y.isDlk = false := fun y hy => by
  rw [List.getD_eq_getElem?_getD, hy] at e
  exact (show y = x from e) ▸ l
/-- a shared object written -/
theorem Rel.cell_w (r : Rel W Fr ρ G σs M σ H) (e : ρ[i]? = some p) (nl : ∀ x, M[i]? = some x → x.isDlk = false) (c : Co W ρ G d' ho') : Rel W Fr ρ G σs (M.set i d') σ (upd H p ho') := by
  have hi : i < M.length := by rw [r.len]; exact (List.getElem?_eq_some_iff.mp e).1
  obtain ⟨h0, a1, a2, a3, a4⟩ := r.mem i p M[i] e (List.getElem?_eq_getElem hi)
  have a4 : Fr p = none := a4.resolve_right (by rw [nl _ (List.getElem?_eq_getElem hi)]; exact fun z => nomatch z)
  refine { gh := fun a o z => ?_, fh := fun a o z => ?_, gf := r.gf, len := by rw [List.length_set]; exact r.len, mem := fun j a x h1 h2 => ?_, nd := r.nd, sl := r.sl, val := r.val, own := fun j x h => ?_, uniq := r.uniq }
  · rw [upd_ne (fun k => by rw [k, a3] at z; cases z)]; exact r.gh _ _ z
  · rw [upd_ne (fun k => by rw [k, a4] at z; cases z)]; exact r.fh _ _ z
  · by_cases hj : i = j
    · subst hj
      rw [e] at h1
      cases h1
      rw [List.getElem?_set_self hi] at h2
      cases h2
      exact ⟨_, upd_same, c, a3, .inl a4⟩
    · rw [List.getElem?_set_ne hj] at h2
      obtain ⟨ho, b1, b2⟩ := r.mem j a x h1 h2
      have ne : a ≠ p := fun z => hj (r.nd i j p e (z ▸ h1))
      exact ⟨ho, by rw [upd_ne ne]; exact b1, b2⟩
  · obtain ⟨q, h1, h2⟩ := r.own j x h
    obtain ⟨ho, b1, b2⟩ := h2.at_
    have ne : q ≠ p := fun z => h2.r (z ▸ List.mem_of_getElem? e)
    exact ⟨q, h1, ⟨ho, by rw [upd_ne ne]; exact b1, b2⟩, h2.g, h2.f, h2.r, h2.l⟩
end

/-! ### lists -/
def muV (k : Mu) (xs as : List V) : Option (List V) :=
  match k, as with
  | .app, [y] => if xs.length + 1 < line then some (xs ++ [y]) else none
  | .ins, [.int i, y] => if xs.length + 1 < line ∧ 0 ≤ i ∧ i < 9223372036854775808 then some (xs.take i.toNat ++ [y] ++ xs.drop i.toNat) else none
  | .pop, [] => if xs.isEmpty then none else some xs.dropLast
  | .pop, [.int i] => if i.natAbs < 9223372036854775808 then (place xs.length i).map fun k => xs.eraseIdx k else none
  | .clr, [] => some []
  | _, _ => none
def muS : Mu → Str
  | .app => "append" | .ins => "insert" | .pop => "pop" | .clr => "clear"
def muI : Mu → String
  | .app => "list.append" | .ins => "list.insert" | .pop => "list.pop" | .clr => "list.clear"
def rMu (k : Mu) : V → List V → Hp → VK → Prop := fun x vs H Q => ∃ l xs ys, x = .ref l ∧ H l = some (.lst xs) ∧ muV k xs vs = some ys ∧ ∀ v, Q v (upd H l (.lst ys))
theorem place_seq {n : Nat} {i : Int} : seqIndex? i n = place n i := by
  unfold seqIndex? place
  by_cases h : 0 ≤ i
  · have h1 : ¬ i < 0 := by omega
    simp only [h1, if_false, h, if_true, decide_true, Bool.true_and]
    by_cases k : i < (n : Int) <;> simp [k]
  · have h1 : i < 0 := by omega
    simp only [h1, if_true, h, if_false]
    by_cases k : -(n : Int) ≤ i
    · have a : 0 ≤ i + (n : Int) := by omega
      have b : i + (n : Int) < n := by omega
      simp [k, a, b]
    · have a : ¬ 0 ≤ i + (n : Int) := by omega
      simp [k, a]
theorem muV_app {xs vs ys : List V} (e : muV .app xs vs = some ys) : ∃ y, vs = [y] ∧ xs.length + 1 < line ∧ ys = xs ++ [y] := by
  match vs, e with
  | [y], e =>
    simp only [muV] at e
    split at e
    · rename_i h; cases e; exact ⟨y, rfl, h, rfl⟩
    · cases e
theorem muV_ins {xs vs ys : List V} (e : muV .ins xs vs = some ys) : ∃ i y, vs = [.int i, y] ∧ (xs.length + 1 < line ∧ 0 ≤ i ∧ i < 9223372036854775808) ∧ ys = xs.take i.toNat ++ [y] ++ xs.drop i.toNat := by
  unfold muV at e
  split at e
  all_goals first | (cases e; done) | skip
  · rename_i k; cases k
  · rename_i i y _
    split at e
    · rename_i h; cases e; exact ⟨i, y, rfl, h, rfl⟩
    · cases e
  all_goals (rename_i k; cases k)
theorem muV_pop {xs vs ys : List V} (e : muV .pop xs vs = some ys) : (vs = [] ∧ xs ≠ [] ∧ ys = xs.dropLast) ∨ ∃ i k, vs = [.int i] ∧ i.natAbs < 9223372036854775808 ∧ place xs.length i = some k ∧ ys = xs.eraseIdx k := by
  unfold muV at e
  split at e
  all_goals first | (cases e; done) | skip
  · rename_i k; cases k
  · rename_i k; cases k
  · split at e
    · cases e
    · rename_i h
      cases e
      exact .inl ⟨rfl, fun z => h (by rw [z]; rfl), rfl⟩
  · rename_i i _
    split at e
    · rename_i h
      rw [Option.map_eq_some_iff] at e
      obtain ⟨j, e1, e2⟩ := e
      exact .inr ⟨i, j, rfl, h, e1, e2.symm⟩
    · cases e
  · rename_i k; cases k
theorem muV_clr {xs vs ys : List V} (e : muV .clr xs vs = some ys) : vs = [] ∧ ys = [] := by
  match vs, e with
  | [], e => simp only [muV, Option.some.injEq] at e; exact ⟨rfl, e.symm⟩
theorem c_mu {X : Cx} (k : Mu) : MtR X (muI k) (rMu k) := by
  rintro pins s σ H x vs v us Q I rx rv ⟨l, xs, ys, hx, hl, e, q⟩
  cases k with
  | app =>
    obtain ⟨y, rfl, hz, rfl⟩ := muV_app e
    exact mt_append pins s σ H _ _ v us Q I rx rv ⟨l, xs, y, hx, rfl, hl, by rw [line_eq]; omega, q _⟩
  | ins =>
    obtain ⟨i, y, rfl, hz, rfl⟩ := muV_ins e
    exact mt_insert pins s σ H _ _ v us Q I rx rv ⟨l, xs, i, y, hx, rfl, hl, by rw [line_eq]; omega, hz.2.1, by omega, q _⟩
  | pop =>
    rcases muV_pop e with ⟨rfl, hz, rfl⟩ | ⟨i, j, rfl, hz, e1, rfl⟩
    · have hp : 0 < xs.length := by
        cases xs with
        | nil => exact absurd rfl hz
        | cons _ _ => simp
      exact mt_pop pins s σ H _ _ v us Q I rx rv ⟨l, xs, xs[xs.length - 1], hx, rfl, hl, List.getElem?_eq_getElem (by omega), q _⟩
    · have hj : j < xs.length := by
        unfold place at e1
        split at e1
        · split at e1
          · cases e1; omega
          · cases e1
        · split at e1
          · cases e1; omega
          · cases e1
      exact mt_popAt pins s σ H _ _ v us Q I rx rv ⟨l, xs, i, j, xs[j], hx, rfl, hl, by omega, by omega, by rw [place_seq]; exact e1, List.getElem?_eq_getElem hj, q _⟩
  | clr =>
    obtain ⟨rfl, rfl⟩ := muV_clr e
    exact mt_clear pins s σ H _ _ v us Q I rx rv ⟨l, xs, hx, rfl, hl, q _⟩
section
variable {W : Wd} {ρ : List Addr} {G : Hp}
theorem Fzs.split {d : D} {ds : List D} {vs : List V} (h : Fzs W ρ G (d :: ds) vs) : ∃ v r, vs = v :: r ∧ Fz W ρ G d v ∧ Fzs W ρ G ds r := by
  unfold Fzs at h
  exact h
theorem Fzs.take' : ∀ {ds : List D} {vs : List V} (n : Nat), Fzs W ρ G ds vs → Fzs W ρ G (ds.take n) (vs.take n)
  | _, _, 0, _ => by rw [List.take_zero, List.take_zero]; exact .nil
  | [], vs, n + 1, h => by
    unfold Fzs at h
    subst h
    exact .nil
  | d :: ds, vs, n + 1, h => by
    obtain ⟨v, r, rfl, h1, h2⟩ := h.split
    exact .cons h1 (h2.take' n)
theorem Fzs.drop' : ∀ {ds : List D} {vs : List V} (n : Nat), Fzs W ρ G ds vs → Fzs W ρ G (ds.drop n) (vs.drop n)
  | _, _, 0, h => h
  | [], vs, n + 1, h => by
    unfold Fzs at h
    subst h
    exact .nil
  | d :: ds, vs, n + 1, h => by
    obtain ⟨v, r, rfl, h1, h2⟩ := h.split
    exact h2.drop' n
theorem Fzs.erase' {ds : List D} {vs : List V} (n : Nat) (h : Fzs W ρ G ds vs) : Fzs W ρ G (ds.eraseIdx n) (vs.eraseIdx n) := by
  rw [List.eraseIdx_eq_take_drop_succ, List.eraseIdx_eq_take_drop_succ]
  exact (h.take' n).append (h.drop' _)
theorem Fzs.last' {ds : List D} {vs : List V} (h : Fzs W ρ G ds vs) : Fzs W ρ G ds.dropLast vs.dropLast := by
  rw [List.dropLast_eq_take, List.dropLast_eq_take, h.length]
  exact h.take' _
/-- what the machine changes is changed -/
theorem mu_rel {k : Mu} {xs as ys : List D} {vx va : List V} (hx : Fzs W ρ G xs vx) (ha : Fzs W ρ G as va) (hl : xs.length < line) (e : muL k xs as = some ys) : ∃ vy, muV k vx va = some vy ∧ Fzs W ρ G ys vy ∧ ys.length < line := by
  have ln := hx.length
  unfold muL at e
  split at e
  · obtain ⟨v, r, rfl, h1, h2⟩ := ha.split
    have h2 : r = [] := h2
    subst h2
    split at e
    · rename_i h
      cases e
      exact ⟨vx ++ [v], by simp only [muV]; rw [if_pos (by omega)], hx.append (.cons h1 .nil), by rw [List.length_append]; exact h⟩
    · cases e
  · rename_i i y
    obtain ⟨v, r, rfl, h1, h2⟩ := ha.split
    obtain ⟨v', r', rfl, h3, h4⟩ := h2.split
    have h4 : r' = [] := h4
    subst h4
    have h1 : v = .int i := h1
    subst h1
    split at e
    · rename_i h
      cases e
      refine ⟨vx.take i.toNat ++ [v'] ++ vx.drop i.toNat, by simp only [muV]; rw [if_pos (by omega)], ((hx.take' _).append (.cons h3 .nil)).append (hx.drop' _), ?_⟩
      simp only [List.length_append, List.length_take, List.length_drop, List.length_cons, List.length_nil]
      omega
    · cases e
  · have ha : va = [] := ha
    subst ha
    split at e
    · cases e
    · rename_i h
      cases e
      refine ⟨vx.dropLast, ?_, hx.last', by rw [List.length_dropLast]; omega⟩
      simp only [muV]
      rw [if_neg]
      intro z
      refine h ?_
      rw [List.isEmpty_iff] at z ⊢
      rw [z] at ln
      exact List.length_eq_zero_iff.mp ln
  · rename_i i
    obtain ⟨v, r, rfl, h1, h2⟩ := ha.split
    have h2 : r = [] := h2
    subst h2
    have h1 : v = .int i := h1
    subst h1
    split at e
    · rename_i h
      rw [Option.map_eq_some_iff] at e
      obtain ⟨j, e1, rfl⟩ := e
      refine ⟨vx.eraseIdx j, ?_, hx.erase' j, ?_⟩
      · simp only [muV]
        rw [if_pos h, ← ln, e1]; rfl
      · have := List.length_eraseIdx_le xs j
        omega
    · cases e
  · have ha : va = [] := ha
    subst ha
    cases e
    exact ⟨[], rfl, .nil, by decide⟩
  · cases e
end
/-! ### x.m(..) of a list -/
def noCall : Expr → Bool
  | .Call (.Name _ _) [] [] _ => false
  | _ => true
theorem base_ok {o : Expr} {m : Str} {env : Env} {w : Sem Value} (h : noCall o = true) : attributeBase o m env w = w := by
  cases o with
  | Call f as ks p => cases f <;> cases as <;> cases ks <;> first | rfl | cases h
  | _ => rfl
theorem star_all {es : List Expr} {env : Env} {pos : Pos} (h : es.all noStar = true) : (backTo pos (starEach es env)).all (fun x => !x.1) = true := by
  induction es with
  | nil => rfl
  | cons e es ih =>
    simp only [List.all_cons, Bool.and_eq_true] at h
    rw [star_cons h.1]
    show (true && (backTo pos (starEach es env)).all (fun x => !x.1)) = true
    rw [ih h.2]; rfl
theorem mu_slot (k : Mu) : Slot "list" (muS k) (muI k) := by
  cases k
  · exact PySem.F.slot_list_append
  · exact PySem.F.slot_list_insert
  · exact PySem.F.slot_list_pop
  · exact PySem.F.slot_list_clear
theorem mu_type (k : Mu) : typeOf (.builtin (muI k)) = pure (.type "method_descriptor") := by
  cases k
  · exact PySem.F.type_list_append
  · exact PySem.F.type_list_insert
  · exact PySem.F.type_list_pop
  · exact PySem.F.type_list_clear
/-- o.m(..): the list, then the arguments, then the change -/
theorem pe_mu {X : Cx} {W : Wd} {WW : WX} {k : Mu} {o : Expr} {es : List Expr} {ap cp : Pos} {to : TE} {ras : List SV → Mem → Rs (List D)} (mono : ∀ σ H (P P' : VK), (∀ x H, P x H → P' x H) → to σ H P → to σ H P') (ho : PE X o to) (ha : PA X es (LA W WW ras)) (hz : es = [] → ras = fun _ M => .ok [] M) (hc : noCall o = true) (hl : (ap.endLine == cp.line) = true) (hs : es.all noStar = true) (hn : es.length < 20) :
    PE X (.Call (.Attribute o (muS k) ap) es [] cp) (fun σ H Q => to σ H fun x H1 => tyV X.K "list" x H1 ∧ LA W WW ras σ H1 fun vs H2 => rMu k x vs H2 Q) := by
  cases es with
  | nil =>
    refine PE.weak (pe_bm0 PySem.F.plainAttrs_list (mu_slot k) (mu_type k) (c_mu k) ho (base_ok hc) hl) fun σ H Q h => mono _ _ _ _ ?_ h
    rw [hz rfl]
    rintro x H1 ⟨h1, Fr1, ρ1, G1, σs1, M1, r1, h2⟩
    exact ⟨h1, h2 ρ1 G1 [] H1 (Rle.refl _) (Hle.refl _) r1 .nil⟩
  | cons e es =>
    have hs' := hs
    simp only [List.all_cons, Bool.and_eq_true] at hs'
    refine pe_bm PySem.F.plainAttrs_list (mu_slot k) (mu_type k) (c_mu k) ho ha (base_ok hc) ?_ hl (star_cons hs'.1) (star_any hs'.2)
    rw [star_all hs]
    show (true && true && decide ((e :: es).length + 0 + (if ([] : List Keyword).isEmpty then 0 else 1) < 30)) = true
    simp only [List.length_cons] at hn ⊢
    simp
    omega
section
variable {X : Cx} {W : Wd} {WW : WX} {k : Mu} {o : Expr} {es : List Expr} {ap cp pos : Pos} {ro : List SV → Mem → Rs KD} {ras : List SV → Mem → Rs (List D)}
theorem lk_mono : ∀ σ H (P P' : VK), (∀ x H, P x H → P' x H) → LK W WW ro σ H P → LK W WW ro σ H P' := fun σ H P P' k ⟨Fr, ρ, G, σs, M, r, h⟩ => ⟨Fr, ρ, G, σs, M, r, h.weaker k⟩
/-- of an own list -/
theorem s_mutO {i : Nat} (ho : PE X o (tVar i)) (ha : PA X es (LA W WW ras)) (hz : es = [] → ras = fun _ M => .ok [] M) (hc : noCall o = true) (hl : (ap.endLine == cp.line) = true) (hs : es.all noStar = true) (hn : es.length < 20) :
    PS X (.Expr (.Call (.Attribute o (muS k) ap) es [] cp) pos) (LS W WW fun σ M => (match σ[i]? with
      | some (.o (.lst xs)) => (ras σ M).on σ fun ds M => (match muL k xs ds with
        | some ys => .nx (σ.set i (.o (.lst ys))) M
        | none => .stk)
      | _ => .stk)) := by
  refine PS.weak (ps_expr (pe_mu (fun σ H P P' k ⟨v, h1, h2⟩ => ⟨v, h1, k _ _ h2⟩) ho ha hz hc hl hs hn) rfl) fun D σ H ⟨Fr, ρ, G, σs, M, r, q⟩ => ?_
  dsimp only at q
  split at q
  · rename_i xs e1
    obtain ⟨p, e2, n⟩ := r.own i _ e1
    obtain ⟨ho, a1, c⟩ := id n.at_
    obtain ⟨vs, rfl, l, f⟩ := c
    refine ⟨.ref p, e2, .inl ⟨rfl, vs, .of a1⟩, Fr, ρ, G, σs, M, r, (AftS.on (RA := RRfs W) q).weaker ?_⟩
    rintro va H1 ⟨ρ1, G1, M1, ds, hr, hg, r1, k1, q1⟩
    obtain ⟨p', e3, n1⟩ := r1.own i _ e1
    rw [e2] at e3
    cases e3
    obtain ⟨ho1, b1, c1⟩ := id n1.at_
    obtain ⟨vs1, rfl, l1, f1⟩ := c1
    cases e4 : muL k xs ds with
    | none => rw [e4] at q1; exact q1.elim
    | some ys =>
      rw [e4] at q1
      obtain ⟨vy, m1, m2, m3⟩ := mu_rel f1 k1 l1 e4
      exact ⟨p, vs1, vy, rfl, b1, m1, fun v => q1 ρ1 G1 σ _ (Rle.refl _) (Hle.refl _) (r1.own_w e1 e2 ⟨vy, rfl, m3, m2⟩)⟩
  · exact q.elim
/-- of a shared list -/
theorem s_mutC (ho : PE X o (LK W WW ro)) (ha : PA X es (LA W WW ras)) (hz : es = [] → ras = fun _ M => .ok [] M) (hc : noCall o = true) (hl : (ap.endLine == cp.line) = true) (hs : es.all noStar = true) (hn : es.length < 20) :
    PS X (.Expr (.Call (.Attribute o (muS k) ap) es [] cp) pos) (LS W WW fun σ M => (ro σ M).on σ fun r M => (match r with
      | ⟨.f, .cell j⟩ => (match M.getD j .non with
        | .lst _ => (ras σ M).on σ fun ds M => (match M.getD j .non with
          | .lst xs => (match muL k xs ds with
            | some ys => .nx σ (M.set j (.lst ys))
            | none => .stk)
          | _ => .stk)
        | _ => .stk)
      | _ => .stk)) := by
  refine PS.weak (ps_expr (pe_mu lk_mono ho ha hz hc hl hs hn) rfl) fun D σ H ⟨Fr, ρ, G, σs, M, r, q⟩ => ⟨Fr, ρ, G, σs, M, r, (AftS.on (RA := RRk W Fr) q).weaker ?_⟩
  rintro x H1 ⟨ρ1, G1, M1, kd, hr, hg, r1, k1, q1⟩
  have at_ : ∀ {ρ' : List Addr} {G' : Hp} {M' : Mem} {H' : Hp} {j : Nat} {a : Addr} {xs : List VM.D}, Rel W Fr ρ' G' σs M' σ H' → ρ'[j]? = some a → M'.getD j .non = .lst xs → ∃ vs, H' a = some (.lst vs) ∧ xs.length < line ∧ Fzs W ρ' G' xs vs := fun {ρ' G' M' H' j a xs} r' e1 e2 => by
    have hj : j < M'.length := by rw [r'.len]; exact (List.getElem?_eq_some_iff.mp e1).1
    have e3 : M'[j]? = some (.lst xs) := by
      rw [List.getElem?_eq_getElem hj]
      simp only [List.getD, List.getElem?_eq_getElem hj, Option.getD_some] at e2
      rw [e2]
    obtain ⟨ho, b1, c, _⟩ := r'.mem j a _ e1 e3
    obtain ⟨vs, rfl, l, f⟩ := c
    exact ⟨vs, b1, l, f⟩
  split at q1
  · rename_i j
    have k1 : Fz W ρ1 G1 (.cell j) x := k1
    unfold Fz at k1
    obtain ⟨a, rfl, ej⟩ := k1
    split at q1
    · rename_i xs0 e0
      obtain ⟨vs0, b0, _, _⟩ := at_ r1 ej e0
      refine ⟨.inl ⟨rfl, vs0, .of b0⟩, Fr, ρ1, G1, σs, M1, r1, (AftS.on (RA := RRfs W) q1).weaker ?_⟩
      rintro va H2 ⟨ρ2, G2, M2, ds, hr2, hg2, r2, k2, q2⟩
      split at q2
      · rename_i xs e1
        obtain ⟨vs1, b1, l1, f1⟩ := at_ r2 (hr2 _ _ ej) e1
        split at q2
        · rename_i ys e4
          obtain ⟨vy, m1, m2, m3⟩ := mu_rel f1 k2 l1 e4
          exact ⟨a, vs1, vy, rfl, b1, m1, fun v => q2 ρ2 G2 σ _ (Rle.refl _) (Hle.refl _) (r2.cell_w (hr2 _ _ ej) (nlk e1 rfl) ⟨vy, rfl, m3, m2⟩)⟩
        · exact q2.elim
      · exact q2.elim
    · exact q1.elim
  · exact q1.elim
end
end VM
/-! VM9: raise, try. -/
namespace VM
open PySem L2 PySem.Spec PyProof.Rows

section
variable {K : PySem.W.Frag} {nm : Nm} {a : Addr} {ρ : List Addr} {G : Hp}
abbrev w0 (K : PySem.W.Frag) (nm : Nm) : Wd := ⟨K, nm, none⟩
abbrev w1 (K : PySem.W.Frag) (nm : Nm) (a : Addr) : Wd := ⟨K, nm, some a⟩
mutual
theorem Fz.up : ∀ (d : VM.D) (v : V), Fz (w0 K nm) ρ G d v → Fz (w1 K nm a) ρ G d v
  | .non, _, h => h
  | .bl _, _, h => h
  | .int _, _, h => h
  | .str _, _, h => h
  | .tup ds, v, h => by
    unfold Fz at h ⊢
    obtain ⟨p, vs, e, q, l, r⟩ := h
    exact ⟨p, vs, e, q, l, Fzs.up ds vs r⟩
  | .lst ds, v, h => by
    unfold Fz at h ⊢
    obtain ⟨p, vs, e, q, l, r⟩ := h
    exact ⟨p, vs, e, q, l, Fzs.up ds vs r⟩
  | .scr ds, v, h => by
    unfold Fz at h ⊢
    obtain ⟨p, vs, e, q, l, r⟩ := h
    exact ⟨p, vs, e, q, l, Fzs.up ds vs r⟩
  | .dct ks ds, v, h => by
    unfold Fz at h ⊢
    obtain ⟨p, vs, e, q, l, r⟩ := h
    exact ⟨p, vs, e, q, l, Fzs.up ds vs r⟩
  | .cell i, v, h => h
  | .ins C fs ds, v, h => by
    unfold Fz at h ⊢
    obtain ⟨p, dx, vs, e, q, l, r⟩ := h
    exact ⟨p, dx, vs, e, q, l, Fzs.up ds vs r⟩
  | .exc, v, h => by
    unfold Fz at h
    obtain ⟨p, e, _⟩ := h
    cases e
  | .fn _, v, h => h
  | .dlk ks ds, v, h => by
    unfold Fz at h ⊢
    obtain ⟨p, o, vs, e, q, l, r⟩ := h
    exact ⟨p, o, vs, e, q, l, Fzs.up ds vs r⟩
theorem Fzs.up : ∀ (ds : List VM.D) (vs : List V), Fzs (w0 K nm) ρ G ds vs → Fzs (w1 K nm a) ρ G ds vs
  | [], _, h => h
  | d :: ds, vs, h => by
    unfold Fzs at h ⊢
    obtain ⟨v, r, e, q, k⟩ := h
    exact ⟨v, r, e, Fz.up d v q, Fzs.up ds r k⟩
end
mutual
theorem Fz.dn : ∀ (d : VM.D) (v : V), d.nox = true → Fz (w1 K nm a) ρ G d v → Fz (w0 K nm) ρ G d v
  | .non, _, _, h => h
  | .bl _, _, _, h => h
  | .int _, _, _, h => h
  | .str _, _, _, h => h
  | .tup ds, v, n, h => by
    unfold Fz at h ⊢
    obtain ⟨p, vs, e, q, l, r⟩ := h
    exact ⟨p, vs, e, q, l, Fzs.dn ds vs (by simpa only [D.nox] using n) r⟩
  | .lst ds, v, n, h => by
    unfold Fz at h ⊢
    obtain ⟨p, vs, e, q, l, r⟩ := h
    exact ⟨p, vs, e, q, l, Fzs.dn ds vs (by simpa only [D.nox] using n) r⟩
  | .scr ds, v, n, h => by
    unfold Fz at h ⊢
    obtain ⟨p, vs, e, q, l, r⟩ := h
    exact ⟨p, vs, e, q, l, Fzs.dn ds vs (by simpa only [D.nox] using n) r⟩
  | .dct ks ds, v, n, h => by
    unfold Fz at h ⊢
    obtain ⟨p, vs, e, q, l, r⟩ := h
    exact ⟨p, vs, e, q, l, Fzs.dn ds vs (by simpa only [D.nox] using n) r⟩
  | .cell i, v, _, h => h
  | .ins C fs ds, v, n, h => by
    unfold Fz at h ⊢
    obtain ⟨p, dx, vs, e, q, l, r⟩ := h
    exact ⟨p, dx, vs, e, q, l, Fzs.dn ds vs (by simpa only [D.nox] using n) r⟩
  | .exc, v, n, h => by simp [D.nox] at n
  | .fn _, v, _, h => h
  | .dlk ks ds, v, n, h => by
    unfold Fz at h ⊢
    obtain ⟨p, o, vs, e, q, l, r⟩ := h
    exact ⟨p, o, vs, e, q, l, Fzs.dn ds vs (by simpa only [D.nox] using n) r⟩
theorem Fzs.dn : ∀ (ds : List VM.D) (vs : List V), noxs ds = true → Fzs (w1 K nm a) ρ G ds vs → Fzs (w0 K nm) ρ G ds vs
  | [], _, _, h => h
  | d :: ds, vs, n, h => by
    simp only [noxs, Bool.and_eq_true] at n
    unfold Fzs at h ⊢
    obtain ⟨v, r, e, q, k⟩ := h
    exact ⟨v, r, e, Fz.dn d v n.1 q, Fzs.dn ds r n.2 k⟩
end
mutual
theorem Fz.nx : ∀ (d : VM.D) (v : V), Fz (w0 K nm) ρ G d v → d.nox = true
  | .non, _, h => rfl
  | .bl _, _, h => rfl
  | .int _, _, h => rfl
  | .str _, _, h => rfl
  | .tup ds, v, h => by
    unfold Fz at h
    obtain ⟨p, vs, e, q, l, r⟩ := h
    simpa only [D.nox] using Fzs.nx ds vs r
  | .lst ds, v, h => by
    unfold Fz at h
    obtain ⟨p, vs, e, q, l, r⟩ := h
    simpa only [D.nox] using Fzs.nx ds vs r
  | .scr ds, v, h => by
    unfold Fz at h
    obtain ⟨p, vs, e, q, l, r⟩ := h
    simpa only [D.nox] using Fzs.nx ds vs r
  | .dct ks ds, v, h => by
    unfold Fz at h
    obtain ⟨p, vs, e, q, l, r⟩ := h
    simpa only [D.nox] using Fzs.nx ds vs r
  | .cell i, v, h => rfl
  | .ins C fs ds, v, h => by
    unfold Fz at h
    obtain ⟨p, dx, vs, e, q, l, r⟩ := h
    simpa only [D.nox] using Fzs.nx ds vs r
  | .exc, v, h => by
    unfold Fz at h
    obtain ⟨p, e, _⟩ := h
    cases e
  | .fn _, v, h => rfl
  | .dlk ks ds, v, h => by
    unfold Fz at h
    obtain ⟨p, o, vs, e, q, l, r⟩ := h
    simpa only [D.nox] using Fzs.nx ds vs r
theorem Fzs.nx : ∀ (ds : List VM.D) (vs : List V), Fzs (w0 K nm) ρ G ds vs → noxs ds = true
  | [], _, h => rfl
  | d :: ds, vs, h => by
    unfold Fzs at h
    obtain ⟨v, r, e, q, k⟩ := h
    simp only [noxs, Bool.and_eq_true]
    exact ⟨Fz.nx d v q, Fzs.nx ds r k⟩
end
theorem Co.up {d : VM.D} {ho : HO} (h : Co (w0 K nm) ρ G d ho) : Co (w1 K nm a) ρ G d ho := by
  cases d with
  | lst ds => obtain ⟨vs, e, l, q⟩ := h; exact ⟨vs, e, l, q.up⟩
  | dct ks ds => obtain ⟨vs, e, l, q⟩ := h; exact ⟨vs, e, l, q.up⟩
  | ins C fs ds => obtain ⟨dx, vs, e, l, q⟩ := h; exact ⟨dx, vs, e, l, q.up⟩
  | dlk ks ds => obtain ⟨o, vs, e, l, q⟩ := h; exact ⟨o, vs, e, l, q.up⟩
  | _ => exact h
theorem Co.dn {d : VM.D} {ho : HO} (n : d.nox = true) (h : Co (w1 K nm a) ρ G d ho) : Co (w0 K nm) ρ G d ho := by
  cases d with
  | lst ds => obtain ⟨vs, e, l, q⟩ := h; exact ⟨vs, e, l, q.dn ds vs (by simpa only [D.nox] using n)⟩
  | dct ks ds => obtain ⟨vs, e, l, q⟩ := h; exact ⟨vs, e, l, q.dn ds vs (by simpa only [D.nox] using n)⟩
  | ins C fs ds => obtain ⟨dx, vs, e, l, q⟩ := h; exact ⟨dx, vs, e, l, q.dn ds vs (by simpa only [D.nox] using n)⟩
  | dlk ks ds => obtain ⟨o, vs, e, l, q⟩ := h; exact ⟨o, vs, e, l, q.dn ds vs (by simpa only [D.nox] using n)⟩
  | _ => exact h
theorem Co.nx {d : VM.D} {ho : HO} (h : Co (w0 K nm) ρ G d ho) : d.nox = true := by
  cases d with
  | lst ds => obtain ⟨vs, e, l, q⟩ := h; simpa only [D.nox] using q.nx
  | dct ks ds => obtain ⟨vs, e, l, q⟩ := h; simpa only [D.nox] using q.nx
  | ins C fs ds => obtain ⟨dx, vs, e, l, q⟩ := h; simpa only [D.nox] using q.nx
  | dlk ks ds => obtain ⟨o, vs, e, l, q⟩ := h; simpa only [D.nox] using q.nx
  | _ => exact h.elim
variable {Fr : Hp} {σs : List SV} {M : Mem} {σ : L2.St} {H : Hp}
theorem New.up {d : VM.D} {p : Addr} (h : New (w0 K nm) Fr ρ G H d p) : New (w1 K nm a) Fr ρ G H d p := let ⟨ho, e, c⟩ := h.at_; ⟨⟨ho, e, c.up⟩, h.g, h.f, h.r, h.l⟩
theorem New.dn {d : VM.D} {p : Addr} (n : d.nox = true) (h : New (w1 K nm a) Fr ρ G H d p) : New (w0 K nm) Fr ρ G H d p := let ⟨ho, e, c⟩ := h.at_; ⟨⟨ho, e, c.dn n⟩, h.g, h.f, h.r, h.l⟩
theorem MRel.up (r : MRel (w0 K nm) Fr ρ G M H) : MRel (w1 K nm a) Fr ρ G M H :=
  ⟨r.gh, r.fh, r.gf, r.len, fun i b d e1 e2 => let ⟨ho, h1, h2, h3⟩ := r.mem i b d e1 e2; ⟨ho, h1, h2.up, h3⟩, r.nd⟩
theorem MRel.nx (r : MRel (w0 K nm) Fr ρ G M H) : ∀ d ∈ M, d.nox = true := fun d hd => by
  obtain ⟨i, hi, e⟩ := List.getElem_of_mem hd
  have hl : i < ρ.length := by rw [← r.len]; exact hi
  obtain ⟨ho, _, c, _⟩ := r.mem i ρ[i] d (List.getElem?_eq_getElem hl) (by rw [List.getElem?_eq_getElem hi, e])
  exact c.nx
theorem MRel.dn (n : ∀ d ∈ M, d.nox = true) (r : MRel (w1 K nm a) Fr ρ G M H) : MRel (w0 K nm) Fr ρ G M H :=
  ⟨r.gh, r.fh, r.gf, r.len, fun i b d e1 e2 => let ⟨ho, h1, h2, h3⟩ := r.mem i b d e1 e2; ⟨ho, h1, h2.dn (n d (List.mem_of_getElem? e2)), h3⟩, r.nd⟩
theorem Rel.up (r : Rel (w0 K nm) Fr ρ G σs M σ H) : Rel (w1 K nm a) Fr ρ G σs M σ H :=
  { r.toMRel.up with sl := r.sl, val := fun i d e => let ⟨v, h1, h2⟩ := r.val i d e; ⟨v, h1, h2.up⟩, own := fun i d e => let ⟨p, h1, h2⟩ := r.own i d e; ⟨p, h1, h2.up⟩, uniq := r.uniq }
end

section
variable {T : Tab} {Φ : Hot → Nat → List D → Mem → Rs KD} {Γ : Tx} {nm : Nm} {n : Nat} {N : List Str} {sc : Scope} {hot : Hot} {xa : Option Addr} {WW : WX} {X : Cx}
theorem Cok.tr (c : Cok T Φ Γ nm n N sc none xa WW X) (fl : FnL WW X) {W' : WX} {pn : List (Addr × Obj)} {xe : Value → Shared → Prop} (tk : L2N.Takes (X.tr pn xe) W') : Cok T Φ Γ nm n N sc none xa W' (X.tr pn xe) :=
  ⟨c.N, c.nd, c.sc, c.sk, fx_of (X := X.tr pn xe) fl.stk fl.fr tk, c.un, c.mode, c.ar, c.fk⟩
theorem no_takes {X : Cx} : L2N.Takes X noW := fun u s' x => by
  obtain ⟨a, B, sI, ps, τ, H, cl, d, rest⟩ := x
  exact rest.2.2.2.2.2.2.2.2.elim
theorem Cok.suite (c : Cok T Φ Γ nm n N sc none xa WW X) (fl : FnL WW X) {a : Addr} {oe : Obj} {C : Nat} {z : Str} {pn : List (Addr × Obj)} (hC : Γ.cs[C]? = some z) (hCp : plainN z = true) (hz : L2N.Zn (.ref (nm.ca C)) none oe) (hv : ∃ vs, oe.data = .fields vs) {xb : Option Addr} (hx : xb = none ∨ xb = some a) :
    Cok T Φ Γ nm n N sc (some C) xb noW (X.suite a ((a, oe) :: pn)) where
  N := c.N
  nd := c.nd
  sc := c.sc
  sk := c.sk
  fx := fx_of (X := X.suite a ((a, oe) :: pn)) fl.stk fl.fr no_takes
  un := c.un
  mode := by
    obtain ⟨m1, m2, m3⟩ := c.mode
    obtain ⟨vs, hv⟩ := hv
    exact ⟨(a, oe), hx, List.mem_cons_self, ⟨rfl, vs, hv, hz.2.2 vs hv⟩, hz.zc, ⟨z, hC, hCp⟩, ⟨by have := m3.dp; show X.A.depth + 3 * n + 5 < _; omega, by have := m3.un; show X.A.units + 16 * n + 200 < _; omega⟩⟩
  ar := c.ar
  fk := c.fk
theorem FnL.tr (f : FnL WW X) {W' : WX} {pn : List (Addr × Obj)} {xe : Value → Shared → Prop} (tk : L2N.Takes (X.tr pn xe) W') (po : PassesOwn (model X.prog X.w) X.A X.env xe) : FnL W' (X.tr pn xe) := ⟨f.stk, f.fr, f.fn, f.kd, tk, po⟩
theorem FnL.suite (f : FnL WW X) (a : Addr) (pn : List (Addr × Obj)) : FnL noW (X.suite a pn) := ⟨f.stk, f.fr, f.fn, f.kd, no_takes, PassesOwn.never⟩
theorem s_raise (c : Cok T Φ Γ nm n N sc none xa WW X) (fl : FnL WW X) {C : Nat} {x m : Str} {j : Nat} {p p2 pos pos' : Pos} (hC : Γ.cs[C]? = some x) (hx : gloC sc x = true) (hp : plainN x = true) :
    PS X (.Raise (some (.Call (.Name x p) [.Constant (.str m) j p2] [] pos)) none pos') (LS (wd X nm xa) WW fun σ M => .ex C σ M) := by
  obtain ⟨m1, m2, m3⟩ := c.mode
  obtain ⟨g1, g2⟩ := c.sk.cl C x hC hp
  obtain ⟨e1, e2, e3, _⟩ := c.sk.ex C x hC hp
  have gl : Gl X x := by unfold Gl Env.kindOf; rw [c.sc]; exact gloC_ok hx
  refine PS.weak (L2N.ps_raise m2 fl.tk (L2N.pmk_own PySem.F.excBase_ValueError e1 g1 g2 (raises_own e2 e3) gl (plainN_ok hp).1)) fun D σ H ⟨Fr, ρ, G, σs, M, r, q⟩ => ?_
  exact q ρ G σ H (Rle.refl _) (Hle.refl _) r
/-- the suite of a clause without a name -/
def sTn (X : Cx) (Γ : Tx) (nm : Nm) (xa : Option Addr) (rs : Nat → List SV → Mem → Sx) : Addr → Value → Option Addr → TS := fun _ cls d D σ H => ∃ (C : Nat) (z : Str), Γ.cs[C]? = some z ∧ plainN z = true ∧ cls = .ref (nm.ca C) ∧ d = none ∧ LS (wd X nm xa) noW (rs C) D σ H
def sTs (X : Cx) (Γ : Tx) (nm : Nm) (rs : Nat → List SV → Mem → Sx) : Addr → Value → Option Addr → TS := fun a cls d D σ H => ∃ (C : Nat) (z : Str), Γ.cs[C]? = some z ∧ plainN z = true ∧ cls = .ref (nm.ca C) ∧ d = none ∧ LS (wd X nm (some a)) noW (rs C) D σ H
theorem Sx.noex {W : Wd} {WW : WX} {Fr : Hp} {ρ : List Addr} {G : Hp} {R : Sx} {D : Ends} (h : AftS W WW Fr ρ G (match R with
      | .ex _ _ _ => .stk
      | r => r) D) : AftS W noW Fr ρ G R D := by
  cases R with
  | nx s M => exact h
  | rt r M => exact h
  | ex C s M => exact h.elim
  | stk => exact h
theorem names_of (c : Cok T Φ Γ nm n N sc hot xa WW X) {C : Nat} {x : Str} (hC : Γ.cs[C]? = some x) (hx : gloC sc x = true) (hp : plainN x = true) : Names X x (.ref (nm.ca C)) := by
  have gl : Gl X x := by unfold Gl Env.kindOf; rw [c.sc]; exact gloC_ok hx
  exact ⟨gl, (plainN_ok hp).1, .inl (c.sk.cl C x hC hp).1⟩
/-- try .. except X as n: a suite that hands back -/
theorem s_tryAs (c : Cok T Φ Γ nm n N sc none none WW X) (fl : FnL WW X) {C : Nat} {x y : Str} {i : Nat} {body : List Stmt} {b₀ : Stmt} {suite : List Stmt} {np pos pos' : Pos} {rb : List SV → Mem → Sx} {rs : Nat → List SV → Mem → Sx}
    (hC : Γ.cs[C]? = some x) (hx : gloC sc x = true) (hp : plainN x = true) (hi : N[i]? = some y) (hy : sc.names.lookup y = some .local)
    (hb : ∀ (W' : WX) (pn : List (Addr × Obj)) (xe : Value → Shared → Prop), Cok T Φ Γ nm n N sc none none W' (X.tr pn xe) → FnL W' (X.tr pn xe) → PSs (X.tr pn xe) body (LS (wd X nm none) W' rb))
    (hs : ∀ (a : Addr) (oe : Obj) (pn : List (Addr × Obj)) (k : Nat), Cok T Φ Γ nm n N sc (some k) (some a) noW (X.suite a ((a, oe) :: pn)) → FnL noW (X.suite a ((a, oe) :: pn)) → PSs (X.suite a ((a, oe) :: pn)) (b₀ :: suite) (LS (wd X nm (some a)) noW (rs k))) :
    PS X (.Try body [.ExceptHandler (some (.Name x np)) (some y) (b₀ :: suite) pos'] [] [] pos) (LS (wd X nm none) WW fun σ M => (match rb σ M with
      | .ex k σ M => if T.rl.getD k false then (if subC T.up 9 k C then (match rs k (σ.set i (.v .exc)) M with
        | .rt r M' => if r.d.nox && sames M' M then .rt r M else .stk
        | _ => .stk) else .ex k σ M) else .stk
      | r => r)) := by
  refine PS.weak (L2N.ps_try_as (tb := fun W' => LS (wd X nm none) W' rb) (ts := sTs X Γ nm rs) (i := i) fl.stk fl.fr c.nd (by rw [c.N]; exact hi) (by unfold Env.kindOf; rw [c.sc]; exact hy) (names_of c hC hx hp) fl.tk (fun W' pn xe tk po => hb W' pn xe (c.tr fl tk) (fl.tr tk po)) fun a oe cls d pn hz hv => ?_) fun D σ H ⟨Fr, ρ, G, σs, M, r, q⟩ => ⟨Fr, ρ, G, σs, M, r, ?_⟩
  · refine ⟨fun pins s σ H D I ⟨k, z, h1, h1p, h2, h3, h4⟩ => ?_⟩
    subst h2 h3
    exact (hs a oe pn k (c.suite fl h1 h1p hz hv (.inr rfl)) (fl.suite a _)).run pins s σ H D I h4
  · dsimp only at q ⊢
    cases e : rb σs M with
    | nx s M1 => rw [e] at q; exact q
    | rt k M1 => rw [e] at q; exact q
    | stk => rw [e] at q; exact q
    | ex k s M1 =>
      rw [e] at q
      dsimp only at q
      intro ρ1 G1 σ1 H1 hr hg r1
      split at q
      · rename_i hk
        obtain ⟨z, hz, hzp⟩ := c.sk.rl k hk
        refine ⟨subC T.up 9 k C, (c.sk.ee k C _ x hz hC hzp hp).2, fun hb1 a ha => ?_, fun hb1 => ?_⟩
        · rw [if_pos hb1] at q
          refine ⟨k, _, hz, hzp, rfl, rfl, Fr, ρ1, G1, s.set i (.v .exc), M1, r1.up.setv ⟨a, rfl, rfl⟩, ?_⟩
          cases e2 : rs k (s.set i (.v .exc)) M1 with
          | rt kd M2 =>
            rw [e2] at q
            dsimp only at q
            split at q
            · rename_i hn
              simp only [Bool.and_eq_true] at hn
              have e3 := sames_ok _ _ hn.2
              subst e3
              intro ρ2 G2 v H2 h1 h2 h3 h4
              refine q ρ2 G2 v H2 (hr.trans h1) (hg.trans h2) (h3.dn r1.toMRel.nx) ?_
              obtain ⟨kk, d⟩ := kd
              cases kk with
              | f => exact h4.dn d v hn.1
              | n =>
                obtain ⟨p, e4, n⟩ := h4
                exact ⟨p, e4, n.dn hn.1⟩
              | b => exact h4.elim
            · exact q.elim
          | nx _ _ => rw [e2] at q; exact q.elim
          | ex _ _ _ => rw [e2] at q; exact q.elim
          | stk => rw [e2] at q; exact q.elim
        · rw [if_neg (by rw [hb1]; exact Bool.false_ne_true)] at q
          exact q ρ1 G1 σ1 H1 hr hg r1
      · exact q.elim
/-- one clause after the other, none of a name -/
def hdsR (T : Tab) (rb : List SV → Mem → Sx) : List (Nat × (Nat → List SV → Mem → Sx)) → Nat → List SV → Mem → Sx
  | [], k, σ, M => .ex k σ M
  | (C, rs) :: l, k, σ, M => if subC T.up 9 k C then (match rs k σ M with
      | .ex _ _ _ => .stk
      | r => r) else hdsR T rb l k σ M
/-- what is known of the clauses -/
inductive Hds (T : Tab) (Φ : Hot → Nat → List D → Mem → Rs KD) (Γ : Tx) (nm : Nm) (n : Nat) (N : List Str) (sc : Scope) (X : Cx) : List ExceptHandler → List (Nat × (Nat → List SV → Mem → Sx)) → Prop
  | nil : Hds T Φ Γ nm n N sc X [] []
  | cons {x : Str} {C : Nat} {b₀ : Stmt} {suite : List Stmt} {np pos' : Pos} {hds : List ExceptHandler} {l : List (Nat × (Nat → List SV → Mem → Sx))} {rs : Nat → List SV → Mem → Sx} (hC : Γ.cs[C]? = some x) (hx : gloC sc x = true) (hp : plainN x = true)
      (hs : ∀ (a : Addr) (oe : Obj) (pn : List (Addr × Obj)) (k : Nat), Cok T Φ Γ nm n N sc (some k) none noW (X.suite a ((a, oe) :: pn)) → FnL noW (X.suite a ((a, oe) :: pn)) → PSs (X.suite a ((a, oe) :: pn)) (b₀ :: suite) (LS (wd X nm none) noW (rs k)))
      (r : Hds T Φ Γ nm n N sc X hds l) : Hds T Φ Γ nm n N sc X (.ExceptHandler (some (.Name x np)) none (b₀ :: suite) pos' :: hds) ((C, rs) :: l)
def hdl (X : Cx) (Γ : Tx) (nm : Nm) (l : List (Nat × (Nat → List SV → Mem → Sx))) : List (Value × (Addr → Value → Option Addr → TS)) := l.map fun y => (.ref (nm.ca y.1), sTn X Γ nm none y.2)
theorem Hds.ok (c : Cok T Φ Γ nm n N sc none none WW X) (fl : FnL WW X) : ∀ {hds : List ExceptHandler} {l : List (Nat × (Nat → List SV → Mem → Sx))}, Hds T Φ Γ nm n N sc X hds l → L2N.HdsOk X hds (hdl X Γ nm l) := by
  intro hds l h
  induction h with
  | nil => exact .nil
  | @cons x C b₀ suite np pos' hds l rs hC hx hp hs _ ih =>
    refine .cons (names_of c hC hx hp) (fun a oe cls d pn hz hv => ?_) ih
    refine ⟨fun pins s σ H D I ⟨k, z, h1, h1p, h2, h3, h4⟩ => ?_⟩
    subst h2 h3
    exact (hs a oe pn k (c.suite fl h1 h1p hz hv (.inl rfl)) (fl.suite a _)).run pins s σ H D I h4
theorem hds_many (c : Cok T Φ Γ nm n N sc none none WW X) {Fr : Hp} {ρ : List Addr} {G : Hp} {k : Nat} {s : List SV} {M : Mem} {σ : L2.St} {H : Hp} {D : Ends} {rb : List SV → Mem → Sx} {z : Str} (hz : Γ.cs[k]? = some z) (hzp : plainN z = true) (r : Rel (wd X nm none) Fr ρ G s M σ H) :
    ∀ {hds : List ExceptHandler} {l : List (Nat × (Nat → List SV → Mem → Sx))}, Hds T Φ Γ nm n N sc X hds l → AftS (wd X nm none) WW Fr ρ G (hdsR T rb l k s M) D → wMany X.K WW D (hdl X Γ nm l) (.ref (nm.ca k)) none σ H := by
  intro hds l h
  induction h with
  | nil => exact fun q => q ρ G σ H (Rle.refl _) (Hle.refl _) r
  | @cons x C b₀ suite np pos' hds l rs hC hx hp hs _ ih =>
    intro q
    unfold hdsR at q
    refine ⟨subC T.up 9 k C, (c.sk.ee k C _ x hz hC hzp hp).2, fun hb1 a ha => ?_, fun hb1 => ?_⟩
    · rw [if_pos hb1] at q
      exact ⟨k, _, hz, hzp, rfl, rfl, Fr, ρ, G, s, M, r, Sx.noex q⟩
    · rw [if_neg (by rw [hb1]; exact Bool.false_ne_true)] at q
      exact ih q
theorem s_tryMany (c : Cok T Φ Γ nm n N sc none none WW X) (fl : FnL WW X) {body : List Stmt} {h₀ : ExceptHandler} {hds : List ExceptHandler} {pos : Pos} {rb : List SV → Mem → Sx} {l : List (Nat × (Nat → List SV → Mem → Sx))}
    (hb : ∀ (W' : WX) (pn : List (Addr × Obj)) (xe : Value → Shared → Prop), Cok T Φ Γ nm n N sc none none W' (X.tr pn xe) → FnL W' (X.tr pn xe) → PSs (X.tr pn xe) body (LS (wd X nm none) W' rb)) (hh : Hds T Φ Γ nm n N sc X (h₀ :: hds) l) :
    PS X (.Try body (h₀ :: hds) [] [] pos) (LS (wd X nm none) WW fun σ M => (match rb σ M with
      | .ex k σ M => if T.rl.getD k false then hdsR T rb l k σ M else .stk
      | r => r)) := by
  refine PS.weak (L2N.ps_try_many (tb := fun W' => LS (wd X nm none) W' rb) fl.stk fl.fr fl.tk (fun W' pn xe tk po => hb W' pn xe (c.tr fl tk) (fl.tr tk po)) (hh.ok c fl)) fun D σ H ⟨Fr, ρ, G, σs, M, r, q⟩ => ⟨Fr, ρ, G, σs, M, r, ?_⟩
  dsimp only at q ⊢
  cases e : rb σs M with
  | nx s M1 => rw [e] at q; exact q
  | rt k M1 => rw [e] at q; exact q
  | stk => rw [e] at q; exact q
  | ex k s M1 =>
    rw [e] at q
    dsimp only at q
    intro ρ1 G1 σ1 H1 hr hg r1
    split at q
    · rename_i hk
      obtain ⟨z, hz, hzp⟩ := c.sk.rl k hk
      exact hds_many c hz hzp r1 hh (AftS.from hr hg q)
    · exact q.elim
end
end VM
/-! VMD: shared objects that nobody knows any more. -/
namespace VM
open PySem L2 PySem.Spec PyProof.Rows
section
variable {W : Wd} {WW : WX} {Fr : Hp} {ρ ρ' : List Addr} {G G' : Hp} {σs : List SV} {M M' : Mem} {σ : L2.St} {H H' : Hp} {p : Addr}
mutual
theorem Fz.low : ∀ (d : VM.D) (v : V), Fz W ρ G d v → d.low ρ.length = true
  | .non, _, _ => rfl
  | .bl _, _, _ => rfl
  | .int _, _, _ => rfl
  | .str _, _, _ => rfl
  | .exc, _, _ => rfl
  | .fn _, _, _ => rfl
  | .tup ds, v, h => by unfold Fz at h; obtain ⟨a, vs, e, q, l, r⟩ := h; simp only [D.low]; exact Fzs.low ds vs r
  | .lst ds, v, h => by unfold Fz at h; obtain ⟨a, vs, e, q, l, r⟩ := h; simp only [D.low]; exact Fzs.low ds vs r
  | .scr ds, v, h => by unfold Fz at h; obtain ⟨a, vs, e, q, l, r⟩ := h; simp only [D.low]; exact Fzs.low ds vs r
  | .dct ks ds, v, h => by unfold Fz at h; obtain ⟨a, vs, e, q, l, r⟩ := h; simp only [D.low]; exact Fzs.low ds vs r
  | .dlk ks ds, v, h => by unfold Fz at h; obtain ⟨a, o, vs, e, q, l, r⟩ := h; simp only [D.low]; exact Fzs.low ds vs r
  | .ins C fs ds, v, h => by unfold Fz at h; obtain ⟨a, dx, vs, e, q, l, r⟩ := h; simp only [D.low]; exact Fzs.low ds vs r
  | .cell i, v, h => by
    unfold Fz at h
    obtain ⟨a, e, q⟩ := h
    simp only [D.low, decide_eq_true_eq]
    exact (List.getElem?_eq_some_iff.mp q).1
theorem Fzs.low : ∀ (ds : List VM.D) (vs : List V), Fzs W ρ G ds vs → lows ρ.length ds = true
  | [], _, _ => rfl
  | d :: ds, vs, h => by
    unfold Fzs at h
    obtain ⟨v, r, e, q, k⟩ := h
    simp only [lows, Bool.and_eq_true]
    exact ⟨Fz.low d v q, Fzs.low ds r k⟩
end
mutual
theorem Fz.cut (hr : Rle ρ ρ') : ∀ (d : VM.D) (v : V), d.low ρ.length = true → Fz W ρ' G d v → Fz W ρ G d v
  | .non, _, _, h => h
  | .bl _, _, _, h => h
  | .int _, _, _, h => h
  | .str _, _, _, h => h
  | .exc, _, _, h => h
  | .fn _, _, _, h => h
  | .tup ds, v, n, h => by unfold Fz at h ⊢; obtain ⟨a, vs, e, q, l, r⟩ := h; exact ⟨a, vs, e, q, l, Fzs.cut hr ds vs (by simpa only [D.low] using n) r⟩
  | .lst ds, v, n, h => by unfold Fz at h ⊢; obtain ⟨a, vs, e, q, l, r⟩ := h; exact ⟨a, vs, e, q, l, Fzs.cut hr ds vs (by simpa only [D.low] using n) r⟩
  | .scr ds, v, n, h => by unfold Fz at h ⊢; obtain ⟨a, vs, e, q, l, r⟩ := h; exact ⟨a, vs, e, q, l, Fzs.cut hr ds vs (by simpa only [D.low] using n) r⟩
  | .dct ks ds, v, n, h => by unfold Fz at h ⊢; obtain ⟨a, vs, e, q, l, r⟩ := h; exact ⟨a, vs, e, q, l, Fzs.cut hr ds vs (by simpa only [D.low] using n) r⟩
  | .dlk ks ds, v, n, h => by unfold Fz at h ⊢; obtain ⟨a, o, vs, e, q, l, r⟩ := h; exact ⟨a, o, vs, e, q, l, Fzs.cut hr ds vs (by simpa only [D.low] using n) r⟩
  | .ins C fs ds, v, n, h => by unfold Fz at h ⊢; obtain ⟨a, dx, vs, e, q, l, r⟩ := h; exact ⟨a, dx, vs, e, q, l, Fzs.cut hr ds vs (by simpa only [D.low] using n) r⟩
  | .cell i, v, n, h => by
    unfold Fz at h ⊢
    obtain ⟨a, e, q⟩ := h
    simp only [D.low, decide_eq_true_eq] at n
    refine ⟨a, e, ?_⟩
    have := hr i ρ[i] (List.getElem?_eq_getElem n)
    rw [q] at this
    cases this
    exact List.getElem?_eq_getElem n
theorem Fzs.cut (hr : Rle ρ ρ') : ∀ (ds : List VM.D) (vs : List V), lows ρ.length ds = true → Fzs W ρ' G ds vs → Fzs W ρ G ds vs
  | [], _, _, h => h
  | d :: ds, vs, n, h => by
    simp only [lows, Bool.and_eq_true] at n
    unfold Fzs at h ⊢
    obtain ⟨v, r, e, q, k⟩ := h
    exact ⟨v, r, e, Fz.cut hr d v n.1 q, Fzs.cut hr ds r n.2 k⟩
end
theorem Co.low {d : VM.D} {ho : HO} (h : Co W ρ G d ho) : d.low ρ.length = true := by
  cases d with
  | lst ds => obtain ⟨vs, e, l, q⟩ := h; simp only [D.low]; exact q.low
  | dct ks ds => obtain ⟨vs, e, l, q⟩ := h; simp only [D.low]; exact q.low
  | ins C fs ds => obtain ⟨dx, vs, e, l, q⟩ := h; simp only [D.low]; exact q.low
  | dlk ks ds => obtain ⟨o, vs, e, l, q⟩ := h; simp only [D.low]; exact q.low
  | _ => exact h.elim
theorem Co.drop (hr : Rle ρ ρ') {d : VM.D} {ho : HO} (n : d.low ρ.length = true) (h : Co W ρ' G d ho) : Co W ρ G d ho := by
  cases d with
  | lst ds => obtain ⟨vs, e, l, q⟩ := h; exact ⟨vs, e, l, q.cut hr ds vs (by simpa only [D.low] using n)⟩
  | dct ks ds => obtain ⟨vs, e, l, q⟩ := h; exact ⟨vs, e, l, q.cut hr ds vs (by simpa only [D.low] using n)⟩
  | ins C fs ds => obtain ⟨dx, vs, e, l, q⟩ := h; exact ⟨dx, vs, e, l, q.cut hr ds vs (by simpa only [D.low] using n)⟩
  | dlk ks ds => obtain ⟨o, vs, e, l, q⟩ := h; exact ⟨o, vs, e, l, q.cut hr ds vs (by simpa only [D.low] using n)⟩
  | _ => exact h.elim
theorem New.drop (hr : Rle ρ ρ') {d : VM.D} (n : d.low ρ.length = true) (h : New W Fr ρ' G H d p) : New W Fr ρ G H d p :=
  let ⟨ho, e, c⟩ := h.at_
  ⟨⟨ho, e, c.drop hr n⟩, h.g, h.f, fun z => h.r (by
    obtain ⟨i, hi, e⟩ := List.getElem_of_mem z
    exact List.mem_of_getElem? (hr i p (by rw [List.getElem?_eq_getElem hi, e]))), h.l⟩
theorem take_get {i : Nat} {d : VM.D} (e : M'.take M.length = M) (h : M[i]? = some d) : M'[i]? = some d := by
  have hi := (List.getElem?_eq_some_iff.mp h).1
  have h2 : (M'.take M.length)[i]? = some d := by rw [e]; exact h
  rw [List.getElem?_take_of_lt hi] at h2
  exact h2
theorem MRel.drop (r0 : MRel W Fr ρ G M H) (hr : Rle ρ ρ') (r : MRel W Fr ρ' G' M' H') (e : M'.take M.length = M) : MRel W Fr ρ G' M H' where
  gh := r.gh
  fh := r.fh
  gf := r.gf
  len := r0.len
  mem := fun i a d h1 h2 => by
    obtain ⟨ho, a1, a2, a3, a4⟩ := r.mem i a d (hr _ _ h1) (take_get e h2)
    obtain ⟨_, _, b2, _⟩ := r0.mem i a d h1 h2
    exact ⟨ho, a1, a2.drop hr b2.low, a3, a4⟩
  nd := r0.nd
theorem Rel.drop (r0 : Rel W Fr ρ G σs M σ H) (hr : Rle ρ ρ') (hg : Hle G G') (r : Rel W Fr ρ' G' σs M' σ H') (e : M'.take M.length = M) : Rel W Fr ρ G' σs M σ H' where
  toMRel := r0.toMRel.drop hr r.toMRel e
  sl := r0.sl
  val := fun i d h => let ⟨v, h1, h2⟩ := r0.val i d h; ⟨v, h1, h2.mono (Rle.refl _) hg⟩
  own := fun i d h => by
    obtain ⟨p, h1, n⟩ := r.own i d h
    obtain ⟨q, h2, n0⟩ := r0.own i d h
    obtain ⟨_, _, c⟩ := n0.at_
    exact ⟨p, h1, n.drop hr c.low⟩
  uniq := r0.uniq
/-- what a def that throws away has made -/
theorem AftC.gc {E : XK} {Q : VK} {R : Rs KD} (r0 : MRel W Fr ρ G M H) (h : AftC W Fr ρ G (gcR M R) Q E) : AftC W Fr ρ G R Q E := by
  cases R with
  | ok r M' =>
    change AftC W Fr ρ G (if (sames (M'.take M.length) M && r.d.low M.length) = true then .ok r M else .stk) Q E at h
    split at h
    · rename_i k
      simp only [Bool.and_eq_true] at k
      have e := sames_ok _ _ k.1
      have lw := k.2
      rw [r0.len] at lw
      intro ρ' G' v H' hr hg m rs
      refine h ρ G' v H' (Rle.refl _) hg (r0.drop hr m e) ?_
      obtain ⟨kk, d⟩ := r
      cases kk with
      | f => exact Fz.cut hr d v lw rs
      | n => obtain ⟨p, e, n⟩ := rs; exact ⟨p, e, n.drop hr lw⟩
      | b => exact rs.elim
    · exact h.elim
  | ex C M' =>
    change AftC W Fr ρ G (if sames (M'.take M.length) M = true then .ex C M else .stk) Q E at h
    split at h
    · rename_i k
      have e := sames_ok _ _ k
      intro ρ' G' H' hr hg m
      exact h ρ G' H' (Rle.refl _) hg (r0.drop hr m e)
    · exact h.elim
  | stk => exact h
end
end VM
/-! VMK: fields, methods, instances made. -/
namespace VM
open PySem L2 PySem.Spec PyProof.Rows
section
variable {W : Wd} {ρ : List Addr} {G : Hp}
theorem getF_val {f : Nat} : ∀ {fs : List Nat} {ds : List VM.D} {vs : List V} {d : VM.D}, fs.length = vs.length → Fzs W ρ G ds vs → getF f fs ds = some d → ∃ v, ((fs.map W.fn).zip vs).lookup (W.fn f) = some v ∧ Fz W ρ G d v
  | [], ds, vs, d, _, _, e => by cases ds <;> simp [getF] at e
  | j :: fs, [], vs, d, _, _, e => by simp [getF] at e
  | j :: fs, x :: ds, vs, d, hl, h, e => by
    unfold Fzs at h
    obtain ⟨v, r, rfl, q, k⟩ := h
    unfold getF at e
    show ∃ v', List.lookup (W.fn f) ((W.fn j, v) :: ((fs.map W.fn).zip r)) = some v' ∧ Fz W ρ G d v'
    rw [List.lookup_cons]
    split at e
    · rename_i e2
      subst e2
      cases e
      rw [beq_self_eq_true]
      exact ⟨v, rfl, q⟩
    · rename_i e2
      have : (W.fn f == W.fn j) = false := by rw [beq_eq_false_iff_ne]; exact fun z => e2 (W.nm.inj _ _ z).symm
      rw [this]
      exact getF_val (by simpa using hl) k e
theorem lookup_not {x : Str} : ∀ {fs : List Nat} {vs : List V}, (∀ f, W.fn f ≠ x) → ((fs.map W.fn).zip vs).lookup x = none
  | [], _, _ => rfl
  | j :: fs, [], _ => rfl
  | j :: fs, v :: vs, h => by
    show List.lookup x ((W.fn j, v) :: ((fs.map W.fn).zip vs)) = none
    rw [List.lookup_cons]
    have : (x == W.fn j) = false := by rw [beq_eq_false_iff_ne]; exact fun z => h j z.symm
    rw [this]
    exact lookup_not h
theorem putF_val {f : Nat} {y : VM.D} {v : V} (hy : Fz W ρ G y v) : ∀ {fs : List Nat} {ds : List VM.D} {vs : List V}, fs.length = vs.length → Fzs W ρ G ds vs → ∃ vs', putF (W.fn f) v ((fs.map W.fn).zip vs) = ((putF' f y fs ds).1.map W.fn).zip vs' ∧ (putF' f y fs ds).1.length = vs'.length ∧ Fzs W ρ G (putF' f y fs ds).2 vs'
  | [], ds, vs, hl, h => by
    cases vs with
    | cons _ _ => simp at hl
    | nil =>
      have := h.length
      cases ds with
      | cons _ _ => simp at this
      | nil => exact ⟨[v], rfl, rfl, .cons hy .nil⟩
  | j :: fs, [], vs, hl, h => by
    unfold Fzs at h
    subst h
    simp at hl
  | j :: fs, x :: ds, vs, hl, h => by
    unfold Fzs at h
    obtain ⟨w, r, rfl, q, k⟩ := h
    show ∃ vs', putF (W.fn f) v ((W.fn j, w) :: ((fs.map W.fn).zip r)) = _ ∧ _
    unfold putF putF'
    by_cases e : j = f
    · subst e
      rw [if_pos rfl, if_pos rfl]
      exact ⟨v :: r, rfl, hl, .cons hy k⟩
    · rw [if_neg (fun z => e (W.nm.inj _ _ z)), if_neg e]
      obtain ⟨vs', e1, e2, e3⟩ := putF_val hy (by simpa using hl) k
      exact ⟨w :: vs', by rw [e1]; rfl, by simpa using e2, .cons q e3⟩
theorem putF_len {f : Nat} {y : VM.D} : ∀ {fs : List Nat} {ds : List VM.D}, (putF' f y fs ds).1.length ≤ fs.length + 1
  | [], ds => by simp [putF']
  | j :: fs, [] => by simp [putF']
  | j :: fs, x :: ds => by
    unfold putF'
    split
    · simp
    · have := putF_len (f := f) (y := y) (fs := fs) (ds := ds)
      simp only [List.length_cons]
      omega
end
section
variable {T : Tab} {Φ : Hot → Nat → List D → Mem → Rs KD} {Γ : Tx} {nm : Nm} {n : Nat} {N : List Str} {sc : Scope} {hot : Hot} {xa : Option Addr} {WW : WX} {X : Cx}
/-- o.f -/
theorem v_att (c : Cok T Φ Γ nm n N sc hot xa WW X) {o : Expr} {f : Nat} {x : Str} {pos : Pos} {ra : List SV → Mem → Rs KD} (hf : Γ.fd[f]? = some x) (hx : x ≠ "") (hc : noCall o = true) (ha : PE X o (LK (wd X nm xa) WW ra)) :
    PE X (.Attribute o x pos) (LK (wd X nm xa) WW fun σ M => (ra σ M).bw.bind fun x M => attr x f M) := by
  refine PE.weak (pe_fld (pe_bw ha) (base_ok hc)) fun σ H Q ⟨Fr, ρ, G, σs, M, r, q⟩ => ⟨Fr, ρ, G, σs, M, r, (Aft.bind (RA := RRb _) q).weaker ?_⟩
  rintro v H1 ⟨ρ1, G1, M1, d, hr1, hg1, r1, k1, q1⟩
  have l := r1.look k1
  dsimp only at q1
  unfold attr at q1
  split at q1
  · rename_i C fs ds e1
    rw [e1] at l
    obtain ⟨a, dx, vs, ev, ha', ⟨hl, hr⟩, fz⟩ := l
    obtain ⟨d', h1, q1⟩ := q1.okO
    obtain ⟨w, h2, h3⟩ := getF_val hl fz h1
    obtain ⟨h4, h5⟩ := c.sk.kf C f x hr hf hx
    have h2 : ((fs.map nm.fn).zip vs).lookup (nm.fn f) = some w := h2
    rw [h5] at h2
    exact ⟨a, _, dx, _, w, ev, ha', (c.sk.kc C hr).1, h4, h2, q1.one r1 h3⟩
  · exact q1.elim
/-- what a def promises, for its caller -/
theorem spC_of {Fr : Hp} {ρ1 : List Addr} {G1 : Hp} {σs : List SV} {M1 : Mem} {σ : L2.St} {H1 : Hp} {xs : List V} {d : List D} {Q : VK} (c : Cok T Φ Γ nm n N sc hot xa WW X) {f : Nat} {x : Str} {ps : List Str} (hf : Γ.fs[f]? = some (x, ps)) (r1 : Rel (wd X nm xa) Fr ρ1 G1 σs M1 σ H1) (k1 : Fzs (wd X nm xa) ρ1 G1 d xs) (q1 : Aft (wd X nm xa) WW Fr (RRk (wd X nm xa) Fr) ρ1 G1 σs σ (Φ hot f d M1) Q) :
    spC (wd X nm xa) (Φ hot) f ps.length xs H1 Q (WE WW σ) := by
  have hl : d.length = ps.length := by
    by_cases e : d.length = ps.length
    · exact e
    · rw [c.ar hot f x ps d M1 hf e] at q1
      exact q1.elim
  exact ⟨by rw [← k1.length]; exact hl, ownH Fr σs σ H1, ρ1, G1, M1, d, r1.callee, k1, q1.toC r1⟩
/-- a call of no arguments -/
theorem v_call0 (c : Cok T Φ Γ nm n N sc none xa WW X) {f : Nat} {x : Str} {ps : List Str} {p pos : Pos} (hf : Γ.fs[f]? = some (x, ps)) (hx : gloC sc x = true) (hpl : plainN x = true) :
    PE X (.Call (.Name x p) [] [] pos) (LK (wd X nm xa) WW fun _ M => Φ none f [] M) := by
  obtain ⟨hm, hk⟩ := c.sk.fn f x ps hf hpl
  obtain ⟨fd, hb, hF, hX⟩ := c.fk f x ps hf (plainN_ne hpl)
  have hg : Gl X x := by unfold Gl Env.kindOf; rw [c.sc]; exact gloC_ok hx
  obtain ⟨m1, m2, m3⟩ := c.mode
  subst m1
  refine ⟨fun pins s σ H Q I ⟨Fr, ρ, G, σs, M, r, q⟩ => ?_⟩
  refine wpAny_Call_Name_kw (ld_glob I hg hm ?_ (plainN_ok hpl).1)
  exact PySem.W.callWith_K0 I.kIn hk (run_fnSD (E := fun σ => WE WW σ) (us := []) (vs := []) (dvs := []) (ds := []) hF (m3.mono (Nat.le_succ _)) hb .nil (c.pass σ) I .nil (spC_of c hf r .nil q))
theorem meth_eval {o : Expr} {name : Str} {ap pos : Pos} {env : Env} {es : List Expr} (hb : attributeBase o name env (eval o env) = eval o env) (hs : es.all noStar = true) (hn : es.length < 20) (hl : (ap.endLine == pos.line) = true) :
    eval (.Call (.Attribute o name ap) es [] pos) env = (do
      let ov ← eval o env
      standAt ap.atName
      let (f, first) ← holding [ov] (getMethod ov name (do return (← importBound o env).getD true))
      callWith pos f first (backTo pos (starEach es env)) (backToKw pos (keywordEach [] env))) := by
  have hform : methodCallForm (es.length + ([] : List Keyword).length) (backTo pos (starEach es env)) (backToKw pos (keywordEach [] env)) = true := by
    unfold methodCallForm
    rw [star_all hs]
    show (true && true && decide (es.length + 0 + 0 < 30)) = true
    simp; omega
  rw [arm_eval_Call, hb]
  unfold methodCall calleeOf methodCallPos
  rw [hform, hl]
  rfl
/-- o.m(..) -/
theorem v_meth (c : Cok T Φ Γ nm n N sc none xa WW X) {o : Expr} {m : Nat} {x : Str} {es : List Expr} {ap pos : Pos} {ro : List SV → Mem → Rs KD} {rs : List SV → Mem → Rs (List D)} (hm : Γ.ms[m]? = some x) (hc : noCall o = true) (hl : (ap.endLine == pos.line) = true) (hs : es.all noStar = true) (hn : es.length < 20) (hz : es = [] → rs = fun _ M => .ok [] M)
    (ho : PE X o (LK (wd X nm xa) WW ro)) (ha : PA X es (LA (wd X nm xa) WW rs)) :
    PE X (.Call (.Attribute o x ap) es [] pos) (LK (wd X nm xa) WW fun σ M => (ro σ M).fz.bind fun y M => (match (clsOf M y).bind fun C => T.meth C m with
      | some g => (rs σ M).bind fun ds M => Φ none g (y :: ds) M
      | none => .stk)) := by
  obtain ⟨m1, m2, m3⟩ := c.mode
  subst m1
  have fz := pe_fz ho
  refine ⟨fun pins s σ H Q I ⟨Fr, ρ, G, σs, M, r, q⟩ => ?_⟩
  have ht := meth_eval (o := o) (name := x) (ap := ap) (pos := pos) (env := X.env) (es := es) (base_ok hc) hs hn hl
  refine PySem.W.methodCall_KW (pl := _) (thn (fz.run pins s σ H _ I ⟨Fr, ρ, G, σs, M, r, Aft.bind (RA := RRf _) q⟩) fun u s1 ⟨y, H1, I1, ry, hq⟩ => ?_) ht
  obtain ⟨ρ1, G1, M1, d, hr1, hg1, r1, k1, q1⟩ := hq
  dsimp only at q1
  cases eC : clsOf M1 d with
  | none => rw [eC] at q1; exact q1.elim
  | some C =>
    rw [eC] at q1
    simp only [Option.bind] at q1
    have l := r1.look (.inl k1)
    unfold clsOf at eC
    split at eC
    · rename_i C' fs ds e1
      cases eC
      rw [e1] at l
      obtain ⟨a, dx, vs, ev, ha', ⟨hl', hr⟩, fzs⟩ := l
      subst ev
      obtain rfl : u = Value.ref a := ry
      cases eM : T.meth C m with
      | none => rw [eM] at q1; exact q1.elim
      | some g =>
        rw [eM] at q1
        dsimp only at q1
        obtain ⟨z, ps, hf, hzz, hg⟩ := c.sk.km C m g x hr eM hm
        refine getmeth_ok I1 ha' (c.sk.kc C hr).1 hg (lookup_not (W := wd X nm none) (fun f => c.sk.kd f m x hm)) ?_
        obtain ⟨fd, hb, hF, hX⟩ := c.fk g z ps hf hzz
        cases es with
        | nil =>
          rw [hz rfl] at q1
          exact PySem.W.callWith_K0 (first := [.ref a]) I1.kIn hg.kp (run_fnSD (E := fun σ => WE WW σ) (us := [.ref a]) (vs := [.ref a]) (dvs := []) (ds := []) hF (m3.mono (Nat.le_succ _)) hb .nil (c.pass σ) I1 (.cons rfl .nil) (spC_of c hf r1 (.cons k1 .nil) q1))
        | cons e es =>
          simp only [List.all_cons, Bool.and_eq_true] at hs
          refine PySem.W.callWith_K (first := [.ref a]) (h₀ := X.base) I.ok.mod.kin hg.kp (thn (ha.run pos pins s1 σ H1 _ I1 ⟨Fr, ρ1, G1, σs, M1, r1, Aft.bind (RA := RRfs _) q1⟩) fun us s2 ⟨ws, H2, I2, rv, ρ2, G2, M2, ds2, hr2, hg2, r2, k2, q2⟩ => ⟨I2.kIn, ?_⟩) (star_cons hs.1) (star_any hs.2)
          exact run_fnSD (E := fun σ => WE WW σ) (us := .ref a :: us) (vs := .ref a :: ws) (dvs := []) (ds := []) hF (m3.mono (Nat.le_succ _)) hb .nil (c.pass σ) I2 (.cons rfl rv) (by
            rw [List.append_nil]
            exact spC_of c hf r2 (.cons (k1.mono hr2 hg2) k2) q2)
    · cases eC
theorem pe_clsN (c : Cok T Φ Γ nm n N sc hot xa WW X) {C : Nat} {x : Str} {p : Pos} (hC : Γ.ks[C]? = some x) (hx : gloC sc x = true) (hpl : plainN x = true) : PE X (.Name x p) (tC (.ref (nm.ka C))) :=
  pe_glob (show Gl X x from by unfold Gl Env.kindOf; rw [c.sc]; exact gloC_ok hx) (c.sk.kl C x hC hpl).2.1 rfl (plainN_ok hpl).1
/-- K.__init__(self, ..) -/
theorem v_sup (c : Cok T Φ Γ nm n N sc none xa WW X) {C : Nat} {x : Str} {e : Expr} {es : List Expr} {p ap pos : Pos} {rs : List SV → Mem → Rs (List D)} (hC : Γ.ks[C]? = some x) (hx : gloC sc x = true) (hpl : plainN x = true) (hl : (ap.endLine == pos.line) = true) (hs : noStar e = true) (hss : es.all noStar = true) (hn : (e :: es).length < 20)
    (ha : PA X (e :: es) (LA (wd X nm xa) WW rs)) :
    PE X (.Call (.Attribute (.Name x p) "__init__" ap) (e :: es) [] pos) (LK (wd X nm xa) WW fun σ M => (rs σ M).bind fun ds M => Φ none (T.ini.getD C 0) ds M) := by
  obtain ⟨m1, m2, m3⟩ := c.mode
  subst m1
  obtain ⟨_, h1, _, ⟨z, ps, hf, hzz⟩, hr, hfc, hkp⟩ := c.sk.kl C x hC hpl
  obtain ⟨fd, hb, hF, hX⟩ := c.fk _ z ps hf hzz
  refine ⟨fun pins s σ H Q I ⟨Fr, ρ, G, σs, M, r, q⟩ => ?_⟩
  refine PySem.W.methodCall_KW (pl := _) (thn ((pe_clsN c hC hx hpl).run pins s σ H (fun y H1 => y = .ref (nm.ka C) ∧ H1 = H) I ⟨rfl, rfl⟩) fun u s1 ⟨y, H1, I1, ry, ey, eH⟩ => ?_) (meth_eval (base_ok rfl) (by simp [hs, hss]) hn hl)
  subst ey eH
  obtain rfl : u = Value.ref (nm.ka C) := ry
  refine PySem.W.method_cls I1.kIn hr.ga (PySem.W.cls_value I1.kIn hr.rd hfc rfl ?_)
  refine PySem.W.callWith_K (first := []) (h₀ := X.base) I.ok.mod.kin hkp (thn (ha.run pos pins _ σ H1 _ (I1.tok _) ⟨Fr, ρ, G, σs, M, r, Aft.bind (RA := RRfs _) q⟩) fun us s2 ⟨ws, H2, I2, rv, ρ2, G2, M2, ds2, hr2, hg2, r2, k2, q2⟩ => ⟨I2.kIn, ?_⟩) (star_cons hs) (star_any hss)
  exact run_fnSD (E := fun σ => WE WW σ) (us := us) (vs := ws) (dvs := []) (ds := []) hF (m3.mono (Nat.le_succ _)) hb .nil (c.pass σ) I2 rv (by
    rw [List.append_nil]
    exact spC_of c hf r2 k2 q2)
/-- a class is called -/
theorem run_makeD {X : Cx} {CX : CXT} {k : Nat} {f C : Addr} {fd : FuncData} {ps : List Str} {sp : Sp} {E : XK} {pins : List (Addr × Obj)} {σ : L2.St} {H : Hp} {s : Shared} {Q : VK} {us : List Value} {vs : List V} (M : Mk X.K C f) (F : FnOk X.prog X.w X.K X.mg X.base CX k f fd ps sp) (hr : Room (k + 1) X.A) (hb : Binds X.K fd ps [])
    (hx : PassesAt CX X σ E) (I : L2.Inv X pins σ H s) (r : Vals vs us)
    (h : ∀ x dx, H x = none → H dx = none → dx ≠ x → sp (.ref x :: vs) (upd (upd H dx (.own x)) x (.ins C dx [])) (fun v H2 => v = .non ∧ Q (.ref x) H2) E) :
    wpAny (model X.prog X.w) X.A (PySem.call (.ref C) us) (EP X pins σ Q) X.xe s := by
  have hq := h (s.heap.objs.size + 1) s.heap.objs.size (I.hok.fresh (Nat.le_succ _)) (I.hok.fresh (Nat.le_refl _)) (Nat.ne_of_lt (Nat.lt_succ_self _))
  have I2 := L2.Inv.made (C := C) I
  have r2 : Vals (V.ref (s.heap.objs.size + 1) :: vs) (Value.ref (s.heap.objs.size + 1) :: us) := .cons rfl r
  have hl : (Value.ref (s.heap.objs.size + 1) :: us ++ []).length = ps.length := by
    have e := r2.length
    rw [F.len _ _ _ _ hq] at e
    rw [List.append_nil]
    exact e.symm
  have bnd := hb _ (Value.ref (s.heap.objs.size + 1) :: us) I2.kIn hl
  rw [List.append_nil] at bnd
  refine wpAny_call (make_map (f := f) I.kIn M.makes M.init (beq_iff_eq.mp M.fn) (codeAny_mono (F.run _ X.stack _ _ ⟨Value.ref (s.heap.objs.size + 1) :: us, []⟩ (Value.ref (s.heap.objs.size + 1) :: us) _ _ E (hr.make C us [])
    (I2.env0.make C us []) bnd r2 hq) fun r s' hq' => ?_))
  cases r with
  | error e => exact hx pins _ _ e s' I2 hq'
  | ok fl =>
    cases fl with
    | ret u =>
      obtain ⟨v, H', I3, rv, ev, q3⟩ := I2.after hq'
      subst ev
      exact ⟨rv, ⟨V.ref (s.heap.objs.size + 1), H', I3, rfl, q3⟩⟩
    | next => exact False.elim hq'
    | brk => exact False.elim hq'
    | cont => exact False.elim hq'
section
variable {W : Wd} {Fr : Hp} {ρ : List Addr} {G : Hp} {σs : List SV} {M : Mem} {σ : L2.St} {H : Hp}
/-- an instance without fields, shared -/
theorem Rel.made (r : Rel W Fr ρ G σs M σ H) {C : Nat} {x dx : Addr} (hC : W.nm.kr C = true) (h1 : H x = none) (h2 : H dx = none) (h3 : dx ≠ x) : Rel W Fr (ρ ++ [x]) G σs (M ++ [.ins C [] []]) σ (upd (upd H dx (.own x)) x (.ins (W.ka C) dx [])) := by
  have r1 : Rel W Fr ρ G σs M σ (upd H dx (.own x)) := r.push h2
  have hx : (upd H dx (.own x)) x = none := by rw [upd_ne (fun z => h3 z.symm)]; exact h1
  have r2 := r1.push (ho := .ins (W.ka C) dx []) hx
  exact r2.share (r1.newAt hx ⟨dx, [], rfl, ⟨rfl, hC⟩, .nil⟩) (r1.noOwn hx)
/-- what an instance's making is, for its caller -/
theorem Aft.made {v : Bool} {C : Nat} {x dx : Addr} {R : Rs KD} {Q : VK} (r : Rel W Fr ρ G σs M σ H) (hC : W.nm.kr C = true) (h1 : H x = none) (h2 : H dx = none) (h3 : dx ≠ x) (q : Aft W WW Fr (RRk W Fr) ρ G σs σ (mkR v M R) Q) :
    AftC W (ownH Fr σs σ (upd (upd H dx (.own x)) x (.ins (W.ka C) dx []))) (ρ ++ [x]) G R (fun u H2 => u = .non ∧ Q (.ref x) H2) (fun c d H' => WW c d σ H') := by
  have r1 := r.made hC h1 h2 h3
  have hx : (ρ ++ [x])[M.length]? = some x := by rw [r.len, List.getElem?_concat_length]
  cases R with
  | ok k M' =>
    obtain ⟨kk, d⟩ := k
    cases kk with
    | n => cases d <;> exact q.elim
    | b => cases d <;> exact q.elim
    | f =>
      cases d with
      | non =>
        intro ρ' G' u H2 hr hg m rs
        refine ⟨rs, ?_⟩
        have rb := r1.back hr hg m
        cases v with
        | false =>
          have q : Aft W WW Fr (RRk W Fr) ρ G σs σ (ok1 (.cell M.length) M') Q := q
          refine (Aft.from ((Rle.push ρ x).trans hr) hg q).one rb ?_
          unfold Fz
          exact ⟨x, rfl, hr _ _ hx⟩
        | true =>
          change Aft W WW Fr (RRk W Fr) ρ G σs σ (if (sames (M'.take M.length) M && decide (M'.length = M.length + 1) && (M'.getD M.length .non).low M.length && !(M'.getD M.length .non).isDlk) = true then .ok ⟨.n, M'.getD M.length .non⟩ M else .stk) Q at q
          split at q
          · rename_i k
            simp only [decide_eq_true_eq, Bool.and_eq_true] at k
            obtain ⟨⟨⟨k1, k2⟩, k3⟩, k4⟩ := k
            have e := sames_ok _ _ k1
            have hr' := (Rle.push ρ x).trans hr
            have rd := r.drop hr' hg rb e
            have hi : M.length < M'.length := by omega
            have eM : M'.getD M.length .non = M'[M.length] := by simp [List.getD, List.getElem?_eq_getElem hi]
            obtain ⟨ho, a1, a2, a3, a4⟩ := rb.mem M.length x M'[M.length] (hr _ _ hx) (List.getElem?_eq_getElem hi)
            rw [eM] at k3 k4 q
            have k4 : D.isDlk M'[M.length] = false := by simpa using k4
            have k3 : D.low ρ.length M'[M.length] = true := by rw [← r.len]; exact k3
            refine q ρ G' (.ref x) H2 (Rle.refl _) hg rd ⟨x, rfl, ⟨⟨ho, a1, a2.drop hr' k3⟩, a3, a4.resolve_right (by rw [k4]; exact fun z => nomatch z), fun z => ?_, k4⟩, fun i hi' => ?_⟩
            · obtain ⟨i, hi2, e2⟩ := List.getElem_of_mem z
              have := rb.nd i M.length x (hr' i x (by rw [List.getElem?_eq_getElem hi2, e2])) (hr _ _ hx)
              rw [r.len] at this
              omega
            · exact r.noOwn h1 i hi'
          · exact q.elim
      | _ => exact q.elim
  | ex C' M' =>
    intro ρ' G' H2 hr hg m
    have rb := r1.back hr hg m
    have hr' := (Rle.push ρ x).trans hr
    cases v with
    | false =>
      have q : Aft W WW Fr (RRk W Fr) ρ G σs σ (.ex C' M') Q := q
      exact q ρ' G' H2 hr' hg rb
    | true =>
      change Aft W WW Fr (RRk W Fr) ρ G σs σ (if sames (M'.take M.length) M = true then .ex C' M else .stk) Q at q
      split at q
      · rename_i k
        exact q ρ G' H2 (Rle.refl _) hg (r.drop hr' hg rb (sames_ok _ _ k))
      · exact q.elim
  | stk => exact q
end
/-- K(..) -/
theorem v_mk (c : Cok T Φ Γ nm n N sc none xa WW X) {v : Bool} {C : Nat} {x : Str} {es : List Expr} {p pos : Pos} {rs : List SV → Mem → Rs (List D)} (hC : Γ.ks[C]? = some x) (hx : gloC sc x = true) (hpl : plainN x = true) (hs : es.all noStar = true) (hz : es = [] → rs = fun _ M => .ok [] M)
    (ha : PA X es (LA (wd X nm xa) WW rs)) :
    PE X (.Call (.Name x p) es [] pos) (LK (wd X nm xa) WW fun σ M => (rs σ M).bind fun ds M => mkR v M (Φ none (T.ini.getD C 0) (.cell M.length :: ds) (M ++ [.ins C [] []]))) := by
  obtain ⟨m1, m2, m3⟩ := c.mode
  subst m1
  obtain ⟨hkr, h1, hmk, ⟨z, ps, hf, hzz⟩, _, _, _⟩ := c.sk.kl C x hC hpl
  obtain ⟨fd, hb, hF, hX⟩ := c.fk _ z ps hf hzz
  have hg : Gl X x := by unfold Gl Env.kindOf; rw [c.sc]; exact gloC_ok hx
  have key : ∀ {pins : List (Addr × Obj)} {σ : L2.St} {Q : VK} {us : List Value} {ws : List V} {s2 : Shared} {H2 Fr : Hp} {ρ2 : List Addr} {G2 : Hp} {σs : List SV} {M2 : Mem} {ds : List D}, L2.Inv X pins σ H2 s2 → Vals ws us → Rel (wd X nm none) Fr ρ2 G2 σs M2 σ H2 → Fzs (wd X nm none) ρ2 G2 ds ws →
      Aft (wd X nm none) WW Fr (RRk (wd X nm none) Fr) ρ2 G2 σs σ (mkR v M2 (Φ none (T.ini.getD C 0) (.cell M2.length :: ds) (M2 ++ [.ins C [] []]))) Q → wpAny (model X.prog X.w) X.A (PySem.call (.ref (nm.ka C)) us) (EP X pins σ Q) X.xe s2 := fun {pins σ Q us ws s2 H2 Fr ρ2 G2 σs M2 ds} I2 rv r2 k2 q2 => by
    refine run_makeD hmk hF m3 hb (c.pass σ) I2 rv fun y dx a1 a2 a3 => ?_
    have ac := Aft.made (W := wd X nm none) r2 hkr a1 a2 a3 q2
    have r3 := r2.made (C := C) hkr a1 a2 a3
    have len : (VM.D.cell M2.length :: ds).length = ps.length := by
      by_cases e : (VM.D.cell M2.length :: ds).length = ps.length
      · exact e
      · have e0 := c.ar none _ z ps (VM.D.cell M2.length :: ds) (M2 ++ [VM.D.ins C [] []]) hf e
        rw [e0] at ac
        exact ac.elim
    refine ⟨?_, _, _, _, _, _, r3.callee, .cons ?_ (k2.mono (Rle.push _ _) (Hle.refl _)), ac⟩
    · rw [← len, List.length_cons, List.length_cons, k2.length]
    · unfold Fz
      exact ⟨y, rfl, by rw [r2.len, List.getElem?_concat_length]⟩
  refine ⟨fun pins s σ H Q I ⟨Fr, ρ, G, σs, M, r, q⟩ => ?_⟩
  refine wpAny_Call_Name_kw (ld_glob I hg h1 ?_ (plainN_ok hpl).1)
  cases es with
  | nil =>
    rw [hz rfl] at q
    exact PySem.W.callWith_K0 I.kIn hmk.kp (key I .nil r .nil q)
  | cons e es =>
    simp only [List.all_cons, Bool.and_eq_true] at hs
    exact PySem.W.callWith_K (h₀ := X.base) I.ok.mod.kin hmk.kp (thn (ha.run pos pins s σ H _ I ⟨Fr, ρ, G, σs, M, r, Aft.bind (RA := RRfs _) q⟩) fun us s2 ⟨ws, H2, I2, rv, ρ2, G2, M2, ds2, hr2, hg2, r2, k2, q2⟩ => ⟨I2.kIn, key I2 rv r2 k2 q2⟩) (star_cons hs.1) (star_any hs.2)
/-- a def as a value -/
theorem v_gf (c : Cok T Φ Γ nm n N sc hot xa WW X) {f : Nat} {x : Str} {ps : List Str} {pos : Pos} (hf : Γ.fs[f]? = some (x, ps)) (hx : gloC sc x = true) (hpl : plainN x = true) : PE X (.Name x pos) (LK (wd X nm xa) WW fun _ M => ok1 (.fn f) M) := by
  refine PE.weak (pe_glob (v := .ref (nm.fa f)) (show Gl X x from by unfold Gl Env.kindOf; rw [c.sc]; exact gloC_ok hx) (c.sk.fn f x ps hf hpl).1 rfl (plainN_ok hpl).1) fun σ H Q ⟨Fr, ρ, G, σs, M, r, a⟩ => ?_
  exact a.one r (show Fz (wd X nm xa) ρ G (.fn f) (.ref (nm.fa f)) from by unfold Fz; rfl)
end
end VM
/-! VMP: slices, dict(..), methods of built-ins. -/
namespace VM
open PySem L2 PySem.Spec PyProof.Rows

theorem cutL_V (xs : List V) (lo hi : Option Int) : cutL xs lo hi = cutV xs lo hi := by
  unfold cutL cutV
  cases lo <;> cases hi <;> rfl
theorem cutL_S (s : List Nat) (lo hi : Option Int) : tx (cutL s lo hi) = cutS (tx s) lo hi := by
  unfold cutL cutS
  have e : (tx s).length = s.length := tx_len s
  rw [e, tx_cps]
  cases lo <;> cases hi <;> rfl
theorem cutL_len {α : Type} (xs : List α) (lo hi : Option Int) : (cutL xs lo hi).length ≤ xs.length := by
  unfold cutL
  simp only [List.length_take, List.length_drop]
  omega
theorem cutL_mem {α : Type} {xs : List α} {lo hi : Option Int} {x : α} (h : x ∈ cutL xs lo hi) : x ∈ xs := by
  unfold cutL at h
  exact List.mem_of_mem_drop (List.mem_of_mem_take h)
section
variable {W : Wd} {ρ : List Addr} {G : Hp}
theorem Fzs.rev : ∀ {ds : List VM.D} {vs : List V}, Fzs W ρ G ds vs → Fzs W ρ G ds.reverse vs.reverse
  | [], _, h => by unfold Fzs at h; subst h; exact .nil
  | d :: ds, _, h => by
    unfold Fzs at h
    obtain ⟨v, r, rfl, q, k⟩ := h
    rw [List.reverse_cons, List.reverse_cons]
    exact k.rev.append (.one q)
theorem Fzs.slc {ds : List VM.D} {vs : List V} (lo hi : Option Int) (h : Fzs W ρ G ds vs) : Fzs W ρ G (cutL ds lo hi) (cutL vs lo hi) := by
  unfold cutL
  rw [h.length]
  exact (h.drop _).take _
theorem OkS.cut {s : List Nat} (lo hi : Option Int) (h : OkS s) : OkS (cutL s lo hi) := ⟨Nat.lt_of_le_of_lt (cutL_len s lo hi) h.1, fun c hc => h.2 c (cutL_mem hc)⟩
end
section
variable {T : Tab} {Φ : Hot → Nat → List VM.D → Mem → Rs KD} {Γ : Tx} {nm : Nm} {n : Nat} {N : List Str} {sc : Scope} {hot : Hot} {xa : Option Addr} {WW : WX} {X : Cx} {W : Wd}
def rSlD (W : Wd) (WW : WX) : V → Option Int → Option Int → Hp → VK → Prop := fun x lo hi H Q => ∃ (Fr : Hp) (ρ : List Addr) (G : Hp) (σs : List SV) (M : Mem) (σ : L2.St) (d : VM.D), Rel W Fr ρ G σs M σ H ∧ Bz W ρ G σs σ d x ∧ Aft W WW Fr (RRk W Fr) ρ G σs σ (slD d lo hi M) Q
theorem sl_all (hK : W.K = X.K) : SlR X (rSlD W WW) := by
  intro pins s σ H x v vl vu lo hi sl Q I rx hs pl pu ⟨Fr, ρ, G, σs, M, τ, d, r, b, q⟩
  have l := r.look b
  unfold slD at q
  split at q
  · rename_i xs e
    rw [e] at l
    obtain ⟨p, vs, ea, ha, la, fa⟩ := l
    refine sl_list pins s σ H x v vl vu lo hi sl Q I rx hs pl pu ⟨p, vs, ea, .of ha, fun l hl => ?_⟩
    rw [← cutL_V]
    exact q.new r hl ⟨_, rfl, Nat.lt_of_le_of_lt (cutL_len _ _ _) la, fa.slc lo hi⟩
  · rename_i xs e
    obtain ⟨p, vs, ea, ha, la, fa⟩ := look_lst (xs := xs) r b (by unfold lstOf; rw [e])
    refine sl_list pins s σ H x v vl vu lo hi sl Q I rx hs pl pu ⟨p, vs, ea, hK ▸ ha, fun l hl => ?_⟩
    rw [← cutL_V]
    exact q.new r hl ⟨_, rfl, Nat.lt_of_le_of_lt (cutL_len _ _ _) la, fa.slc lo hi⟩
  · rename_i xs e
    obtain ⟨p, vs, ea, ha, la, fa⟩ := look_tup r b e
    refine sl_tupA pins s σ H x v vl vu lo hi sl Q I rx hs pl pu ⟨p, vs, ea, hK ▸ r.gh.sqt ha, fun hw => q.one r ?_, fun hw l hl => ?_⟩
    · have e2 : cutL xs lo hi = xs := by
        have e3 : cutL vs lo hi = vs := by
          rw [cutL_V]
          unfold cutV
          rw [hw.1, hw.2]
          simp
        have h1 : ∀ {α : Type} (ys : List α), ys.length = vs.length → (cutL ys lo hi) = ys := fun {α} ys hl => by
          have : HT.sIx ys.length 0 lo = 0 ∧ HT.sIx ys.length ys.length hi = ys.length := by rw [hl]; exact hw
          have k : cutL ys lo hi = (ys.drop (HT.sIx ys.length 0 lo)).take (HT.sIx ys.length ys.length hi - HT.sIx ys.length 0 lo) := by
            unfold cutL
            cases lo <;> cases hi <;> rfl
          rw [k, this.1, this.2]
          simp
        exact h1 xs fa.length
      rw [e2]
      unfold Fz
      exact ⟨p, vs, rfl, ha, la, fa⟩
    · rw [← cutL_V]
      refine q.new1 r hl ?_
      unfold Fz
      exact ⟨l, _, rfl, .of upd_same, Nat.lt_of_le_of_lt (cutL_len _ _ _) la, (fa.slc lo hi).mono (Rle.refl _) (upd_le (r.none_g hl))⟩
  · rename_i xs e
    rw [e] at l
    have l : Fz W ρ G (.str xs) x := l
    unfold Fz at l
    refine sl_str pins s σ H x v vl vu lo hi sl Q I rx hs pl pu ⟨tx xs, l.1, by rw [tx_len, line_eq]; exact Nat.le_of_lt l.2.1, ?_⟩
    rw [← cutL_S]
    exact q.one r (.mkS (l.2.cut lo hi))
  · exact q.elim
/-- the elements of a row of expressions, each by itself -/
inductive Ves (T : Tab) (Φ : Hot → Nat → List VM.D → Mem → Rs KD) (nm : Nm) (hot : Hot) (X : Cx) (xa : Option Addr) (WW : WX) : E → List Expr → Prop
  | nil : Ves T Φ nm hot X xa WW .nil []
  | cons {a as : E} {e : Expr} {es : List Expr} (h : PE X e (LK (wd X nm xa) WW fun σ M => ev T (Φ hot) hot a σ M)) (r : Ves T Φ nm hot X xa WW as es) : Ves T Φ nm hot X xa WW (.cons a as) (e :: es)
theorem Ves.one {as : E} {e : Expr} (h : Ves T Φ nm hot X xa WW as [e]) : ∃ a, as = .cons a .nil ∧ PE X e (LK (wd X nm xa) WW fun σ M => ev T (Φ hot) hot a σ M) := by
  cases h with
  | cons h r => cases r; exact ⟨_, rfl, h⟩
theorem Ves.two {as : E} {e f : Expr} (h : Ves T Φ nm hot X xa WW as [e, f]) : ∃ a b, as = .cons a (.cons b .nil) ∧ PE X e (LK (wd X nm xa) WW fun σ M => ev T (Φ hot) hot a σ M) ∧ PE X f (LK (wd X nm xa) WW fun σ M => ev T (Φ hot) hot b σ M) := by
  cases h with
  | cons h r =>
    obtain ⟨b, rfl, k⟩ := r.one
    exact ⟨_, b, rfl, h, k⟩
theorem Ves.three {as : E} {e f g : Expr} (h : Ves T Φ nm hot X xa WW as [e, f, g]) : ∃ a b c, as = .cons a (.cons b (.cons c .nil)) ∧ PE X e (LK (wd X nm xa) WW fun σ M => ev T (Φ hot) hot a σ M) ∧ PE X f (LK (wd X nm xa) WW fun σ M => ev T (Φ hot) hot b σ M) ∧ PE X g (LK (wd X nm xa) WW fun σ M => ev T (Φ hot) hot c σ M) := by
  cases h with
  | cons h r =>
    obtain ⟨b, c, rfl, k, m⟩ := r.two
    exact ⟨_, b, c, rfl, h, k, m⟩
/-- what is looked at, then the rest -/
theorem lb_bind {α : Type} {RA : RT α V} {a : E} {f : VM.D → Mem → Rs KD} {Fr : Hp} {ρ : List Addr} {G : Hp} {σs : List SV} {M : Mem} {σ : L2.St} {H : Hp} {Q : VK} (r : Rel W Fr ρ G σs M σ H) (q : Aft W WW Fr (RRk W Fr) ρ G σs σ ((ev T (Φ hot) hot a σs M).bw.bind f) Q) :
    LB W WW (fun σ M => (ev T (Φ hot) hot a σ M).bw) σ H (fun x H1 => ∃ (ρ1 : List Addr) (G1 : Hp) (M1 : Mem) (d : VM.D), Rle ρ ρ1 ∧ Hle G G1 ∧ Rel W Fr ρ1 G1 σs M1 σ H1 ∧ Bz W ρ1 G1 σs σ d x ∧ Aft W WW Fr (RRk W Fr) ρ1 G1 σs σ (f d M1) Q) :=
  ⟨Fr, ρ, G, σs, M, r, Aft.bind (RA := RRb W) q⟩
theorem rs_bind {α β γ : Type} (r : Rs α) (f : α → Mem → Rs β) (g : β → Mem → Rs γ) : (r.bind f).bind g = r.bind fun x M => (f x M).bind g := by cases r <;> rfl
theorem rs_ok {α β : Type} (x : α) (M : Mem) (g : α → Mem → Rs β) : (Rs.ok x M).bind g = g x M := rfl
theorem v_sl0 (c : Cok T Φ Γ nm n N sc none xa WW X) {e : Expr} {a : E} {p2 pos : Pos} (he : PE X e (LK (wd X nm xa) WW fun σ M => ev T (Φ none) none a σ M)) :
    PE X (.Subscript e (.Slice none none none p2) pos) (LK (wd X nm xa) WW fun σ M => (evb T (Φ none) none (.cons a .nil) σ M).bind fun ds M => prim (.sl false false) ds M) := by
  refine PE.weak (pe_slice (sl_all (W := wd X nm xa) (WW := WW) rfl) (pe_bw he) po_none po_none) fun σ H Q ⟨Fr, ρ, G, σs, M, r, q⟩ => ?_
  simp only [evb, rs_bind, rs_ok, prim, ppSl, bnds] at q
  refine ⟨Fr, ρ, G, σs, M, r, (Aft.bind (RA := RRb _) q).weaker ?_⟩
  rintro x H1 ⟨ρ1, G1, M1, d, hr1, hg1, r1, k1, q1⟩
  exact ⟨Fr, ρ1, G1, σs, M1, σ, d, r1, k1, q1⟩
theorem Bz.mono {W : Wd} {ρ ρ' : List Addr} {G G' : Hp} {σs : List SV} {σ : L2.St} {d : VM.D} {v : V} (hr : Rle ρ ρ') (hg : Hle G G') (k : Bz W ρ G σs σ d v) : Bz W ρ' G' σs σ d v := k.elim (fun k => .inl (k.mono hr hg)) .inr
theorem v_slL (c : Cok T Φ Γ nm n N sc none xa WW X) {e l : Expr} {a b : E} {p2 pos : Pos} (he : PE X e (LK (wd X nm xa) WW fun σ M => ev T (Φ none) none a σ M)) (hl : PE X l (LK (wd X nm xa) WW fun σ M => ev T (Φ none) none b σ M)) :
    PE X (.Subscript e (.Slice (some l) none none p2) pos) (LK (wd X nm xa) WW fun σ M => (evb T (Φ none) none (.cons a (.cons b .nil)) σ M).bind fun ds M => prim (.sl true false) ds M) := by
  refine PE.weak (pe_slice (sl_all (W := wd X nm xa) (WW := WW) rfl) (pe_bw he) (po_some (pe_bw hl)) po_none) fun σ H Q ⟨Fr, ρ, G, σs, M, r, q⟩ => ?_
  simp only [evb, rs_bind, rs_ok, prim, ppSl] at q
  refine ⟨Fr, ρ, G, σs, M, r, (Aft.bind (RA := RRb _) q).weaker ?_⟩
  rintro x H1 ⟨ρ1, G1, M1, d, hr1, hg1, r1, k1, q1⟩
  refine ⟨Fr, ρ1, G1, σs, M1, r1, (Aft.bind (RA := RRb _) q1).weaker ?_⟩
  rintro y H2 ⟨ρ2, G2, M2, d2, hr2, hg2, r2, k2, q2⟩
  cases d2 with
  | int i => exact ⟨i, k2.int r2, Fr, ρ2, G2, σs, M2, σ, d, r2, k1.mono hr2 hg2, q2⟩
  | _ => exact q2.elim
theorem v_slH (c : Cok T Φ Γ nm n N sc none xa WW X) {e l : Expr} {a b : E} {p2 pos : Pos} (he : PE X e (LK (wd X nm xa) WW fun σ M => ev T (Φ none) none a σ M)) (hl : PE X l (LK (wd X nm xa) WW fun σ M => ev T (Φ none) none b σ M)) :
    PE X (.Subscript e (.Slice none (some l) none p2) pos) (LK (wd X nm xa) WW fun σ M => (evb T (Φ none) none (.cons a (.cons b .nil)) σ M).bind fun ds M => prim (.sl false true) ds M) := by
  refine PE.weak (pe_slice (sl_all (W := wd X nm xa) (WW := WW) rfl) (pe_bw he) po_none (po_some (pe_bw hl))) fun σ H Q ⟨Fr, ρ, G, σs, M, r, q⟩ => ?_
  simp only [evb, rs_bind, rs_ok, prim, ppSl] at q
  refine ⟨Fr, ρ, G, σs, M, r, (Aft.bind (RA := RRb _) q).weaker ?_⟩
  rintro x H1 ⟨ρ1, G1, M1, d, hr1, hg1, r1, k1, q1⟩
  refine ⟨Fr, ρ1, G1, σs, M1, r1, (Aft.bind (RA := RRb _) q1).weaker ?_⟩
  rintro y H2 ⟨ρ2, G2, M2, d2, hr2, hg2, r2, k2, q2⟩
  cases d2 with
  | int i => exact ⟨i, k2.int r2, Fr, ρ2, G2, σs, M2, σ, d, r2, k1.mono hr2 hg2, q2⟩
  | _ => exact q2.elim
theorem v_sl3 (c : Cok T Φ Γ nm n N sc none xa WW X) {e l h : Expr} {p2 pos : Pos} {ra rl rh : List SV → Mem → Rs KD} (he : PE X e (LK (wd X nm xa) WW ra)) (hl : PE X l (LK (wd X nm xa) WW rl)) (hh : PE X h (LK (wd X nm xa) WW rh)) :
    PE X (.Subscript e (.Slice (some l) (some h) none p2) pos) (LK (wd X nm xa) WW fun σ M => (ra σ M).bw.bind fun x M => (rl σ M).bw.bind fun y M => (match y with
      | .int i => (rh σ M).bw.bind fun z M => (match z with
        | .int j => slD x (some i) (some j) M
        | _ => .stk)
      | _ => .stk)) := by
  refine PE.weak (pe_slice (sl_all (W := wd X nm xa) (WW := WW) rfl) (pe_bw he) (po_some (pe_bw hl)) (po_some (pe_bw hh))) fun σ H Q ⟨Fr, ρ, G, σs, M, r, q⟩ => ?_
  refine ⟨Fr, ρ, G, σs, M, r, (Aft.bind (RA := RRb _) q).weaker ?_⟩
  rintro x H1 ⟨ρ1, G1, M1, d, hr1, hg1, r1, k1, q1⟩
  refine ⟨Fr, ρ1, G1, σs, M1, r1, (Aft.bind (RA := RRb _) q1).weaker ?_⟩
  rintro y H2 ⟨ρ2, G2, M2, d2, hr2, hg2, r2, k2, q2⟩
  cases d2 with
  | int i =>
    refine ⟨i, k2.int r2, Fr, ρ2, G2, σs, M2, r2, (Aft.bind (RA := RRb _) q2).weaker ?_⟩
    rintro z H3 ⟨ρ3, G3, M3, d3, hr3, hg3, r3, k3, q3⟩
    cases d3 with
    | int j => exact ⟨j, k3.int r3, Fr, ρ3, G3, σs, M3, σ, d, r3, k1.mono (hr2.trans hr3) (hg2.trans hg3), q3⟩
    | _ => exact q3.elim
  | _ => exact q2.elim
/-- xs[::-1] -/
theorem v_rvl (c : Cok T Φ Γ nm n N sc none xa WW X) {e : Expr} {a : E} {k : Nat} {p1 p2 p3 pos : Pos} (he : PE X e (LK (wd X nm xa) WW fun σ M => ev T (Φ none) none a σ M)) :
    PE X (.Subscript e (.Slice none none (some (.UnaryOp .USub (.Constant (.int 1) k p1) p2)) p3) pos) (LK (wd X nm xa) WW fun σ M => (evb T (Φ none) none (.cons a .nil) σ M).bind fun ds M => prim .rvl ds M) := by
  refine PE.weak (pe_revL (pe_bw he)) fun σ H Q ⟨Fr, ρ, G, σs, M, r, q⟩ => ?_
  simp only [evb, rs_bind, rs_ok, prim, ppRvl] at q
  refine ⟨Fr, ρ, G, σs, M, r, (Aft.bind (RA := RRb _) q).weaker ?_⟩
  rintro x H1 ⟨ρ1, G1, M1, d, hr1, hg1, r1, k1, q1⟩
  dsimp only at q1
  split at q1
  · rename_i xs e1
    obtain ⟨p, vs, ea, ha, la, fa⟩ := look_lst r1 k1 e1
    exact ⟨p, vs, ea, ha, fun l hl => q1.new r1 hl ⟨_, rfl, by rw [List.length_reverse]; exact la, fa.rev⟩⟩
  · exact q1.elim
/-! ### dicts -/
theorem putK_cons {k0 : L2.Key} {w : V} {r : List (L2.Key × V)} {k : L2.Key} {v : V} : putK ((k0, w) :: r) k v = if k0 = k then (k0, v) :: r.map (fun kv => if kv.1 = k then (kv.1, v) else kv) else (k0, w) :: putK r k v := by
  unfold putK
  by_cases e : k0 = k
  · subst e
    simp
  · by_cases h : (r.any fun kv => decide (kv.1 = k)) = true
    · simp [e, h]
    · simp [e, h]
theorem replK_map {k : Key} {v : V} : ∀ {ks : List Key} {vs : List V}, ks.length = vs.length → ((ks.map kx).zip vs).map (fun kv => if kv.1 = kx k then (kv.1, v) else kv) = (ks.map kx).zip ((ks.zip vs).map fun jw => if jw.1 = k then v else jw.2)
  | [], _, _ => rfl
  | j :: ks, [], h => by simp at h
  | j :: ks, w :: vs, h => by
    show (if kx j = kx k then (kx j, v) else (kx j, w)) :: (((ks.map kx).zip vs).map fun kv => if kv.1 = kx k then (kv.1, v) else kv) = (kx j, if j = k then v else w) :: _
    rw [replK_map (by simpa using h)]
    by_cases e : j = k
    · subst e
      rw [if_pos rfl, if_pos rfl]; rfl
    · rw [if_neg (fun z => e (kx_inj z)), if_neg e]; rfl
theorem replK_val {W : Wd} {ρ : List Addr} {G : Hp} {k : Key} {y : VM.D} {v : V} (hy : Fz W ρ G y v) : ∀ {ks : List Key} {ds : List VM.D} {vs : List V}, ks.length = vs.length → Fzs W ρ G ds vs → Fzs W ρ G (replK k y ks ds) ((ks.zip vs).map fun jw => if jw.1 = k then v else jw.2)
  | [], ds, vs, h, f => .nil
  | j :: ks, [], vs, h, f => by
    unfold Fzs at f
    subst f
    simp at h
  | j :: ks, d :: ds, _, h, f => by
    unfold Fzs at f
    obtain ⟨w, r, rfl, q, f⟩ := f
    unfold replK
    show Fzs W ρ G (_ :: _) ((if j = k then v else w) :: _)
    refine .cons ?_ (replK_val hy (by simpa using h) f)
    split
    · exact hy
    · exact q
theorem zip_len {ks : List Key} {vs : List V} {k : Key} {v : V} (h : ks.length = vs.length) : ks.length = ((ks.zip vs).map fun jw => if jw.1 = k then v else jw.2).length := by
  rw [List.length_map, List.length_zip, h, Nat.min_self]
theorem any_keys {k : Key} : ∀ {ks : List Key} {vs : List V}, ks.length = vs.length → (((ks.map kx).zip vs).any fun kv => decide (kv.1 = kx k)) = decide (k ∈ ks) := fun {ks vs} h => by
  rw [L2.valV_any, valV_keys h]
theorem putK_val {W : Wd} {ρ : List Addr} {G : Hp} {k : Key} {y : VM.D} {v : V} (hk : OkK k) (hy : Fz W ρ G y v) {ks : List Key} {ds : List VM.D} {vs : List V} (hl : KsOk ks vs) (f : Fzs W ρ G ds vs) :
    ∃ vs', putK ((ks.map kx).zip vs) (kx k) v = ((putK' k y ks ds).1.map kx).zip vs' ∧ KsOk (putK' k y ks ds).1 vs' ∧ Fzs W ρ G (putK' k y ks ds).2 vs' := by
  unfold putK putK'
  rw [any_keys hl.1]
  by_cases e : k ∈ ks
  · rw [if_pos (by simpa using e), if_pos e, replK_map hl.1]
    exact ⟨_, rfl, ⟨zip_len hl.1, hl.2⟩, replK_val hy hl.1 f⟩
  · rw [if_neg (by simpa using e), if_neg e]
    refine ⟨vs ++ [v], ?_, ⟨by simp [hl.1], fun j hj => ?_⟩, f.append (.one hy)⟩
    · rw [List.map_append, List.zip_append (by rw [List.length_map]; exact hl.1)]
      rfl
    · rcases List.mem_append.mp hj with h | h
      · exact hl.2 j h
      · rw [List.mem_singleton.mp h]; exact hk
theorem putK_len {k : Key} {y : VM.D} {ks : List Key} {ds : List VM.D} : (putK' k y ks ds).1.length ≤ ks.length + 1 := by
  unfold putK'
  split
  · exact Nat.le_succ _
  · simp
theorem mergeD_val {W : Wd} {ρ : List Addr} {G : Hp} : ∀ {r : List Key} {s : List VM.D} {us : List V} {ks : List Key} {ds : List VM.D} {vs : List V}, KsOk r us → Fzs W ρ G s us → KsOk ks vs → Fzs W ρ G ds vs →
    ∃ vs', mergeK ((ks.map kx).zip vs) ((r.map kx).zip us) = ((mergeD ks ds r s).1.map kx).zip vs' ∧ KsOk (mergeD ks ds r s).1 vs' ∧ Fzs W ρ G (mergeD ks ds r s).2 vs'
  | [], s, us, ks, ds, vs, h, g, hl, f => ⟨vs, rfl, hl, f⟩
  | k :: r, [], us, ks, ds, vs, h, g, hl, f => by
    unfold Fzs at g
    subst g
    exact absurd h.1 (by simp)
  | k :: r, y :: s, _, ks, ds, vs, h, g, hl, f => by
    unfold Fzs at g
    obtain ⟨v, us, rfl, q, g⟩ := g
    obtain ⟨vs1, e1, h1, f1⟩ := putK_val (k := k) (h.2 k List.mem_cons_self) q hl f
    obtain ⟨vs2, e2, h2, f2⟩ := mergeD_val (r := r) (s := s) (us := us) ⟨by simpa using h.1, fun j hj => h.2 j (List.mem_cons_of_mem _ hj)⟩ g h1 f1
    refine ⟨vs2, ?_, h2, f2⟩
    show (((kx k, v) :: ((r.map kx).zip us)).foldl (fun acc kv => putK acc kv.1 kv.2) ((ks.map kx).zip vs)) = _
    rw [List.foldl_cons]
    show ((r.map kx).zip us).foldl (fun acc kv => putK acc kv.1 kv.2) (putK ((ks.map kx).zip vs) (kx k) v) = _
    rw [e1]
    exact e2
theorem mergeD_len : ∀ {r : List Key} {s : List VM.D} {ks : List Key} {ds : List VM.D}, (mergeD ks ds r s).1.length ≤ ks.length + r.length
  | [], s, ks, ds => Nat.le_refl _
  | k :: r, [], ks, ds => Nat.le_add_right _ _
  | k :: r, y :: s, ks, ds => by
    have h := mergeD_len (r := r) (s := s) (ks := (putK' k y ks ds).1) (ds := (putK' k y ks ds).2)
    have := putK_len (k := k) (y := y) (ks := ks) (ds := ds)
    show (mergeD (putK' k y ks ds).1 (putK' k y ks ds).2 r s).1.length ≤ _
    simp only [List.length_cons]
    omega
theorem pairs_val {W : Wd} {K : PySem.W.Frag} {ρ : List Addr} {G H : Hp} (hK : W.K = K) (hg : Hle G H) : ∀ {xs : List VM.D} {vs : List V} {ks : List Key} {ds : List VM.D}, Fzs W ρ G xs vs → pairsOf xs = some (ks, ds) →
    ∃ (ps : List Addr) (us : List V), vs = ps.map V.ref ∧ Paired (fun p (kv : L2.Key × V) => SqT K H p [kV kv.1, kv.2]) ps ((ks.map kx).zip us) ∧ KsOk ks us ∧ Fzs W ρ G ds us
  | [], vs, ks, ds, f, e => by
    simp only [pairsOf, Option.some.injEq, Prod.mk.injEq] at e
    obtain ⟨rfl, rfl⟩ := e
    unfold Fzs at f
    exact ⟨[], [], f, .nil, ⟨rfl, by simp⟩, .nil⟩
  | x :: xs, vs, ks, ds, f, e => by
    unfold Fzs at f
    obtain ⟨v, r, rfl, q, f⟩ := f
    unfold pairsOf at e
    split at e
    · rename_i h; cases h
    · rename_i k0 v0 r0 h
      cases h
      split at e
      · rename_i k ks' vs' hk hp
        simp only [Option.some.injEq, Prod.mk.injEq] at e
        obtain ⟨rfl, rfl⟩ := e
        obtain ⟨ps, us, e1, e2, e3, e4⟩ := pairs_val hK hg f hp
        unfold Fz at q
        obtain ⟨a, ws, rfl, ht, _, fw⟩ := q
        unfold Fzs at fw
        obtain ⟨w1, r1, rfl, g1, fw⟩ := fw
        unfold Fzs at fw
        obtain ⟨w2, r2, rfl, g2, fw⟩ := fw
        unfold Fzs at fw
        subst fw
        obtain ⟨c1, c2, c3⟩ := keyOf_fz g1 hk
        subst c1
        exact ⟨a :: ps, w2 :: us, by rw [e1]; rfl, .cons (hK ▸ hg.sqt ht) e2, ⟨by simp [e3.1], fun j hj => (List.mem_cons.mp hj).elim (fun z => z ▸ c2) (e3.2 j)⟩, .cons g2 e4⟩
      · cases e
    · cases e
theorem c_dict (hK : W.K = X.K) (hc : X.calm = true) : CallR X (.type "dict") (rC W WW (prim .dct1)) := by
  intro pins s σ H xs us Q I rx ⟨Fr, ρ, G, σs, M, τ, ds, r, hx, q⟩
  change Aft W WW Fr (RRk W Fr) ρ G σs τ (ppDct ds M) Q at q
  unfold ppDct at q
  split at q
  · rename_i a
    obtain ⟨x, ex, bx⟩ := hx.one
    cases h1 : lstOf a M with
    | none => rw [h1] at q; exact q.elim
    | some ys =>
      rw [h1] at q
      simp only [Option.bind] at q
      cases h2 : pairsOf ys with
      | none => rw [h2] at q; exact q.elim
      | some kv =>
        obtain ⟨ks, vs⟩ := kv
        rw [h2] at q
        obtain ⟨p, ws, ea, ha, la, fa⟩ := look_lst r bx h1
        obtain ⟨ps, vs2, e1, e2, e3, e4⟩ := pairs_val (K := X.K) hK r.gh fa h2
        refine call_dictP hc pins s σ H xs us Q I rx ⟨p, ps, _, by rw [ex, ea], by rw [← e1]; exact hK ▸ ha, e2, fun l hl => ?_⟩
        obtain ⟨ws2, f1, f2, f3⟩ := mergeD_val (W := W) (ρ := ρ) (G := G) (ks := []) (ds := []) (vs := []) e3 e4 ⟨rfl, by simp⟩ .nil
        have f1 : mergeK [] ((ks.map kx).zip vs2) = ((mergeD [] [] ks vs).1.map kx).zip ws2 := f1
        rw [f1]
        exact q.new r hl ⟨_, rfl, f2, f3⟩
  · exact q.elim
/-! ### methods -/
theorem idxL_ok {y : VM.D} : ∀ {xs : List VM.D} {j : Nat}, idxL y xs = some j → ∃ x, xs[j]? = some x ∧ x.eq y = true ∧ ∀ m z, m < j → xs[m]? = some z → z.eq y = false
  | [], j, h => by simp [idxL] at h
  | x :: xs, j, h => by
    unfold idxL at h
    split at h
    · rename_i e
      cases h
      exact ⟨x, rfl, e, fun m z hm => by omega⟩
    · rename_i e
      obtain ⟨i, h1, h2⟩ := Option.map_eq_some_iff.mp h
      obtain ⟨z, a1, a2, a3⟩ := idxL_ok h1
      subst h2
      refine ⟨z, by simpa using a1, a2, fun m w hm hw => ?_⟩
      cases m with
      | zero =>
        simp at hw
        subst hw
        simpa using e
      | succ m => exact a3 m w (by omega) (by simpa using hw)
theorem cnt_ok {W : Wd} {ρ : List Addr} {G : Hp} {y : VM.D} {v : V} (hy : Fz W ρ G y v) (fy : y.flat = true) : ∀ {xs : List VM.D} {vs : List V} {us : List Value}, Fzs W ρ G xs vs → xs.all VM.D.flat = true → Vals vs us → us.countP (eqU v) = xs.countP fun x => x.eq y
  | [], vs, us, f, a, r => by
    unfold Fzs at f
    subst f
    cases r
    rfl
  | x :: xs, vs, us, f, a, r => by
    unfold Fzs at f
    obtain ⟨w, ws, rfl, q, f⟩ := f
    cases r with
    | cons r1 r2 =>
      simp only [List.all_cons, Bool.and_eq_true] at a
      have ih := cnt_ok hy fy f a.2 r2
      have e : eqU v _ = x.eq y := (eqU_of r1 (Lk.flat (H := G) q a.1)).trans (eqV_eq q hy a.1 fy)
      rw [List.countP_cons, List.countP_cons, ih, e]
def rCntV (K : PySem.W.Frag) : V → List V → Hp → VK → Prop := fun x xs H Q => ∃ (p : Addr) (ys : List V) (y : V), x = .ref p ∧ xs = [y] ∧ SqL K H p ys ∧ flatV y = true ∧ ys.all flatV = true ∧ ∀ n : Nat, (∀ us, Vals ys us → us.countP (eqU y) = n) → Q (.int (n : Nat)) H
theorem mt_lcountV : MtR X "list.count" (rCntV X.K) := by
  intro pins s σ H x xs v us Q I rx rxs h
  obtain ⟨p, ys, y, rfl, rfl, hs, fy, fys, q⟩ := h
  cases rx
  obtain ⟨u, rfl, ru⟩ := rxs.one
  obtain ⟨its, rv, ⟨⟨cls, dd, data, sl⟩, n, ho, hc, hdn, hd⟩, hlen⟩ := I.list hs
  simp only at hc hd
  subst hc hd
  refine call_meets PySem.F.slot_list_count ⟨_, ho, rfl⟩ PySem.F.entry_list_count (PySem.F.args_list_count_2 _ _)
    (SeqAt.list_countAt p its.toArray n dd sl u (eqU y)) ⟨ho, fun u' hu' => mem_eqAt ru fy rv fys u' (by simpa using hu'), ?_⟩
  have uni : ∀ us', Vals ys us' → us'.countP (eqU y) = its.countP (eqU y) := by
    clear q ho hlen
    have : ∀ {ys : List V} {a b : List Value}, ys.all flatV = true → Vals ys a → Vals ys b → b.countP (eqU y) = a.countP (eqU y) := by
      intro ys a b f ha
      induction ha generalizing b with
      | nil => intro hb; cases hb; rfl
      | cons h t ih =>
        intro hb
        cases hb with
        | cons h2 t2 =>
          simp only [List.all_cons, Bool.and_eq_true] at f
          rw [List.countP_cons, List.countP_cons, ih f.2 t2, eqU_of h f.1, eqU_of h2 f.1]
    exact fun us' h => this fys rv h
  refine ⟨.int (its.countP (eqU y) : Nat), H, I.tok _, ⟨s.toks, ?_⟩, q _ uni⟩
  show Value.int ((its.toArray.toList.countP (eqU y) : Nat) : Int) s.toks = _
  rfl
def pmS : Pm → Str
  | .get => "get" | .lidx => "index" | .lcnt => "count" | .pop => "pop"
  | .tm .join => "join" | .tm .split => "split" | .tm .part => "partition" | .tm .sw => "startswith" | .tm .rst => "rstrip" | .tm .lj => "ljust" | .tm .rj => "rjust" | .tm .zf => "zfill"
section
variable {o : Expr} {es : List Expr} {ap cp : Pos} {ro : List SV → Mem → Rs KD} {ras : List SV → Mem → Rs (List VM.D)}
/-- a list's method -/
theorem pm_list {p : Pm} {id : String} {name : Str} {rv : V → List V → Hp → VK → Prop} (slot : Slot "list" name id) (hty : typeOf (.builtin id) = pure (.type "method_descriptor")) (hm : MtR X id rv) (hp : ∀ d, pmOk p d = isLst d)
    (hr : ∀ (σ : L2.St) (H : Hp) (Q : VK) (x : V) (vs : List V) (Fr : Hp) (ρ : List Addr) (G : Hp) (σs : List SV) (M : Mem) (d : VM.D) (ds : List VM.D), Rel (wd X nm xa) Fr ρ G σs M σ H → Bz (wd X nm xa) ρ G σs σ d x → Bzs (wd X nm xa) ρ G σs σ ds vs → Aft (wd X nm xa) WW Fr (RRk (wd X nm xa) Fr) ρ G σs σ (pm p d ds M) Q → rv x vs H Q)
    (ho : PE X o (LK (wd X nm xa) WW ro)) {e : Expr} (ha : PA X (e :: es) (LAb (wd X nm xa) WW ras)) (hc : noCall o = true) (hl : (ap.endLine == cp.line) = true) (hs : (e :: es).all noStar = true) (hn : (e :: es).length < 20) :
    PE X (.Call (.Attribute o name ap) (e :: es) [] cp) (LK (wd X nm xa) WW fun σ M => (ro σ M).bw.bind fun x M => if pmOk p (deref M x) then (ras σ M).bind fun ds M => pm p x ds M else .stk) := by
  have hs' := hs
  simp only [List.all_cons, Bool.and_eq_true] at hs'
  refine PE.weak (pe_bm PySem.F.plainAttrs_list slot hty hm (pe_bw ho) ha (base_ok hc) ?_ hl (star_cons hs'.1) (star_any hs'.2)) fun σ H Q ⟨Fr, ρ, G, σs, M, r, q⟩ => ?_
  · rw [star_all hs]
    show (true && true && decide ((e :: es).length + 0 + (if ([] : List Keyword).isEmpty then 0 else 1) < 30)) = true
    simp only [List.length_cons] at hn ⊢
    simp
    omega
  · refine ⟨Fr, ρ, G, σs, M, r, (Aft.bind (RA := RRb _) q).weaker ?_⟩
    rintro x H1 ⟨ρ1, G1, M1, d, hr1, hg1, r1, k1, q1⟩
    dsimp only at q1
    split at q1
    · rename_i hd
      rw [hp] at hd
      have hty : ∃ xs, lstOf d M1 = some xs := by
        unfold lstOf
        cases e1 : deref M1 d with
        | lst xs => exact ⟨xs, rfl⟩
        | scr xs => exact ⟨xs, rfl⟩
        | _ => rw [e1] at hd; cases hd
      obtain ⟨xs, e1⟩ := hty
      obtain ⟨a, vs, ea, ha', la, fa⟩ := look_lst r1 k1 e1
      subst ea
      refine ⟨.inl ⟨rfl, vs, ha'⟩, Fr, ρ1, G1, σs, M1, r1, (Aft.bind (RA := RRbs _) q1).weaker ?_⟩
      rintro ws H2 ⟨ρ2, G2, M2, ds, hr2, hg2, r2, k2, q2⟩
      exact hr σ H2 Q _ ws Fr ρ2 G2 σs M2 d ds r2 (k1.mono hr2 hg2) k2 q2
    · exact q1.elim
theorem flat_fz {W : Wd} {Fr : Hp} {ρ : List Addr} {G : Hp} {σs : List SV} {M : Mem} {σ : L2.St} {H : Hp} {d : VM.D} {v : V} (r : Rel W Fr ρ G σs M σ H) (h : Bz W ρ G σs σ d v) (f : d.flat = true) : Fz W ρ G d v := by
  cases d with
  | non => exact h.nob r (fun _ z => z)
  | bl b => exact h.bl r
  | int i => exact h.int r
  | str s => exact h.nob r (fun _ z => z)
  | _ => cases f
theorem v_lidx (ho : PE X o (LK (wd X nm xa) WW ro)) {e : Expr} (ha : PA X (e :: es) (LAb (wd X nm xa) WW ras)) (hc : noCall o = true) (hl : (ap.endLine == cp.line) = true) (hs : (e :: es).all noStar = true) (hn : (e :: es).length < 20) :
    PE X (.Call (.Attribute o "index" ap) (e :: es) [] cp) (LK (wd X nm xa) WW fun σ M => (ro σ M).bw.bind fun x M => if pmOk .lidx (deref M x) then (ras σ M).bind fun ds M => pm .lidx x ds M else .stk) := by
  refine pm_list PySem.F.slot_list_index PySem.F.type_list_index mt_index (fun _ => rfl) ?_ ho ha hc hl hs hn
  intro σ H Q x vs Fr ρ G σs M d ds r k1 k2 q
  have q : Aft (wd X nm xa) WW Fr (RRk (wd X nm xa) Fr) ρ G σs σ (pmIdx d ds M) Q := q
  unfold pmIdx at q
  split at q
  · rename_i y
    obtain ⟨v, rfl, kv⟩ := k2.one
    split at q
    · rename_i xs e1
      split at q
      · rename_i hf
        simp only [Bool.and_eq_true] at hf
        obtain ⟨a, vs, ea, ha', la, fa⟩ := look_lst r k1 e1
        obtain ⟨i, hi, q⟩ := q.okI r
        obtain ⟨j, hj, rfl⟩ := Option.map_eq_some_iff.mp hi
        obtain ⟨z, h1, h2, h3⟩ := idxL_ok hj
        obtain ⟨u, h4, h5⟩ := fa.get h1
        have fy := flat_fz r kv hf.1
        have all := List.all_eq_true.mp hf.2
        refine ⟨a, vs, v, j, u, ea, rfl, ha', Lk.flat (H := H) fy hf.1, fa.flat hf.2, h4, ?_, fun m z' hm hz => ?_, q⟩
        · rw [eqV_eq h5 fy (all z (List.mem_of_getElem? h1)) hf.1]; exact h2
        · have hl : m < xs.length := by rw [fa.length]; exact (List.getElem?_eq_some_iff.mp hz).1
          obtain ⟨w, h6, h7⟩ := fa.get (List.getElem?_eq_getElem hl)
          rw [hz] at h6
          cases h6
          rw [eqV_eq h7 fy (all _ (List.getElem_mem hl)) hf.1]
          exact h3 m _ hm (List.getElem?_eq_getElem hl)
      · exact q.elim
    · exact q.elim
  · exact q.elim
theorem v_lcnt (ho : PE X o (LK (wd X nm xa) WW ro)) {e : Expr} (ha : PA X (e :: es) (LAb (wd X nm xa) WW ras)) (hc : noCall o = true) (hl : (ap.endLine == cp.line) = true) (hs : (e :: es).all noStar = true) (hn : (e :: es).length < 20) :
    PE X (.Call (.Attribute o "count" ap) (e :: es) [] cp) (LK (wd X nm xa) WW fun σ M => (ro σ M).bw.bind fun x M => if pmOk .lcnt (deref M x) then (ras σ M).bind fun ds M => pm .lcnt x ds M else .stk) := by
  refine pm_list PySem.F.slot_list_count PySem.F.type_list_count mt_lcountV (fun _ => rfl) ?_ ho ha hc hl hs hn
  intro σ H Q x vs Fr ρ G σs M d ds r k1 k2 q
  have q : Aft (wd X nm xa) WW Fr (RRk (wd X nm xa) Fr) ρ G σs σ (pmCnt d ds M) Q := q
  unfold pmCnt at q
  split at q
  · rename_i y' qo
    obtain ⟨v, rfl, kv⟩ := k2.one
    split at q
    · rename_i xs e1
      split at q
      · rename_i hf
        simp only [Bool.and_eq_true] at hf
        obtain ⟨a, vs, ea, ha', la, fa⟩ := look_lst r k1 e1
        have fy := flat_fz r kv hf.1
        refine ⟨a, vs, v, ea, rfl, ha', Lk.flat (H := H) fy hf.1, fa.flat hf.2, fun n hn => ?_⟩
        have : n = xs.countP fun x => x.eq y' := by
          have mk : ∀ ys : List V, ys.all flatV = true → ∃ us, Vals ys us := by
            intro ys
            induction ys with
            | nil => exact fun _ => ⟨[], .nil⟩
            | cons y ys ih =>
              intro f
              simp only [List.all_cons, Bool.and_eq_true] at f
              obtain ⟨us, h⟩ := ih f.2
              cases y with
              | non => exact ⟨_, .cons (show RelV .non .none from rfl) h⟩
              | bl b => exact ⟨_, .cons (show RelV (.bl b) (.bool b) from rfl) h⟩
              | int i => exact ⟨_, .cons (show RelV (.int i) (.int i 0) from ⟨_, rfl⟩) h⟩
              | str z => exact ⟨_, .cons (show RelV (.str z) (.str z 0) from ⟨_, rfl⟩) h⟩
              | _ => cases f.1
          obtain ⟨us, hus⟩ := mk vs (fa.flat hf.2)
          rw [← hn us hus]
          exact cnt_ok fy hf.1 fa hf.2 hus
        subst this
        exact q.one r rfl
      · exact q.elim
    · exact q.elim
  · exact q.elim
theorem isD_of {W : Wd} {Fr : Hp} {ρ : List Addr} {G H : Hp} {σs : List SV} {M : Mem} {σ : L2.St} {d : VM.D} {v : V} (r : Rel W Fr ρ G σs M σ H) (b : Bz W ρ G σs σ d v) (h : isDct (deref M d) = true) : ∃ a, v = .ref a ∧ IsD H a := by
  have : ∃ kv, dctOf d M = some kv := by
    unfold dctOf
    cases e1 : deref M d with
    | dct ks vs => exact ⟨_, rfl⟩
    | dlk ks vs => exact ⟨_, rfl⟩
    | _ => rw [e1] at h; cases h
  obtain ⟨⟨ks, vs⟩, e⟩ := this
  obtain ⟨a, us, h1, h2, _⟩ := look_dct r b e
  exact ⟨a, h1, .inl ⟨_, h2⟩⟩
theorem getK_look {Fr : Hp} {ρ : List Addr} {G H : Hp} {σs : List SV} {M : Mem} {σ : L2.St} {d k : VM.D} {a : Addr} {y z : V} {zd : VM.D} {ks : List Key} {vs : List VM.D} {kk : Key} {Q : VK} (r : Rel W Fr ρ G σs M σ H) (b : Bz W ρ G σs σ d (.ref a)) (kb : Bz W ρ G σs σ k y) (fz : Fz W ρ G zd z) (h : dctOf d M = some (ks, vs)) (hk : keyOf k = some kk)
    (q : Aft W WW Fr (RRk W Fr) ρ G σs σ (ok1 ((getK kk ks vs).getD zd) M) Q) : ∃ o, DGet H a y o ∧ Q (o.getD z) H := by
  obtain ⟨a', us, h1, h2, h3, h4⟩ := look_dct r b h
  cases h1
  obtain ⟨e1, e2⟩ := keyOf_val r kb hk
  subst e1
  refine ⟨_, .inl ⟨_, kx kk, h2, rfl, rfl⟩, ?_⟩
  rcases getK_val (k := kk) h3.1 h4 with ⟨d', v', g1, g2, g3⟩ | ⟨g1, g2⟩
  · rw [g2]
    rw [g1] at q
    exact q.one r g3
  · rw [g2]
    rw [g1] at q
    exact q.one r fz
theorem v_pop (ho : PE X o (LK (wd X nm xa) WW ro)) {e : Expr} (ha : PA X (e :: es) (LAb (wd X nm xa) WW ras)) (hc : noCall o = true) (hl : (ap.endLine == cp.line) = true) (hs : (e :: es).all noStar = true) (hn : (e :: es).length < 20) :
    PE X (.Call (.Attribute o "pop" ap) (e :: es) [] cp) (LK (wd X nm xa) WW fun σ M => (ro σ M).bw.bind fun x M => if pmOk .pop (deref M x) then (ras σ M).bind fun ds M => pm .pop x ds M else .stk) := by
  refine pm_list PySem.F.slot_list_pop PySem.F.type_list_pop mt_popAt (fun _ => rfl) ?_ ho ha hc hl hs hn
  intro σ H Q x vs Fr ρ G σs M d ds r k1 k2 q
  have q : Aft (wd X nm xa) WW Fr (RRk (wd X nm xa) Fr) ρ G σs σ (pmPop d ds M) Q := q
  unfold pmPop at q
  split at q
  · rename_i j i _
    obtain ⟨v, rfl, kv⟩ := k2.one
    have kv : v = .int i := kv.int r
    subst kv
    have k1 : Fz (wd X nm xa) ρ G (.cell j) x := k1.nob r (fun _ z => z)
    unfold Fz at k1
    obtain ⟨a, rfl, ej⟩ := k1
    split at q
    · rename_i xs e2
      have hj : j < M.length := by rw [r.len]; exact (List.getElem?_eq_some_iff.mp ej).1
      have e3 : M[j]? = some (.lst xs) := by
        rw [List.getElem?_eq_getElem hj]
        simp only [List.getD, List.getElem?_eq_getElem hj, Option.getD_some] at e2
        rw [e2]
      obtain ⟨ho, b1, c, _⟩ := r.mem j a _ ej e3
      obtain ⟨vs, rfl, l, f⟩ := c
      split at q
      · rename_i hi
        split at q
        · rename_i k e1
          split at q
          · rename_i d' e4
            obtain ⟨v', e5, fz⟩ := f.get e4
            refine ⟨a, vs, i, k, v', rfl, rfl, b1, by omega, by omega, ?_, e5, q ρ G v' _ (Rle.refl _) (Hle.refl _) (r.cell_w ej (nlk e2 rfl) ⟨vs.eraseIdx k, rfl, ?_, f.erase' k⟩) fz⟩
            · rw [place_seq, ← f.length]; exact e1
            · have := List.length_eraseIdx_le xs k
              omega
          · exact q.elim
        · exact q.elim
      · exact q.elim
    · exact q.elim
  · exact q.elim
theorem v_get1 (hu : X.A.units + 64 < cLine) {e : Expr} {re : List SV → Mem → Rs KD} (ho : PE X o (LK (wd X nm xa) WW ro)) (he : PE X e (LK (wd X nm xa) WW re)) (hc : noCall o = true) (hl : (ap.endLine == cp.line) = true) (hs : noStar e = true) :
    PE X (.Call (.Attribute o "get" ap) [e] [] cp) (LK (wd X nm xa) WW fun σ M => (ro σ M).bw.bind fun x M => if pmOk .get (deref M x) then (re σ M).bw.bind fun k M => pm .get x [k] M else .stk) := by
  refine PE.weak (pe_dget1 (by omega) (pe_bw ho) (pe_bw he) ⟨base_ok hc, by rw [star_cons hs]; rfl, hl, by rw [star_cons hs]; rfl⟩) fun σ H Q ⟨Fr, ρ, G, σs, M, r, q⟩ => ?_
  refine ⟨Fr, ρ, G, σs, M, r, (Aft.bind (RA := RRb _) q).weaker ?_⟩
  rintro x H1 ⟨ρ1, G1, M1, d, hr1, hg1, r1, k1, q1⟩
  dsimp only at q1
  split at q1
  · rename_i hd
    obtain ⟨a, rfl, hi⟩ := isD_of r1 k1 hd
    refine ⟨a, rfl, hi, Fr, ρ1, G1, σs, M1, r1, (Aft.bind (RA := RRb _) q1).weaker ?_⟩
    rintro y H2 ⟨ρ2, G2, M2, k, hr2, hg2, r2, k2, q2⟩
    simp only [pm, pmGet] at q2
    split at q2
    · rename_i ks vs kk e1 e2
      exact getK_look r2 (k1.mono hr2 hg2) k2 (show Fz _ _ _ .non .non from rfl) e1 e2 q2
    · exact q2.elim
  · exact q1.elim
theorem v_get2 (hu : X.A.units + 64 < cLine) {e f : Expr} {re rf : List SV → Mem → Rs KD} (ho : PE X o (LK (wd X nm xa) WW ro)) (he : PE X e (LK (wd X nm xa) WW re)) (hf : PE X f (LK (wd X nm xa) WW rf)) (hc : noCall o = true) (hl : (ap.endLine == cp.line) = true) (hs : noStar e = true) (hs2 : noStar f = true) :
    PE X (.Call (.Attribute o "get" ap) [e, f] [] cp) (LK (wd X nm xa) WW fun σ M => (ro σ M).bw.bind fun x M => if pmOk .get (deref M x) then (re σ M).bw.bind fun k M => (rf σ M).bw.bind fun z M => pm .get x [k, z] M else .stk) := by
  refine PE.weak (pe_dget2 (by omega) (pe_bw ho) (pe_bw he) (pe_bw hf) ⟨base_ok hc, by rw [star_cons hs, star_cons hs2]; rfl, hl, by rw [star_cons hs, star_cons hs2]; rfl⟩) fun σ H Q ⟨Fr, ρ, G, σs, M, r, q⟩ => ?_
  refine ⟨Fr, ρ, G, σs, M, r, (Aft.bind (RA := RRb _) q).weaker ?_⟩
  rintro x H1 ⟨ρ1, G1, M1, d, hr1, hg1, r1, k1, q1⟩
  dsimp only at q1
  split at q1
  · rename_i hd
    obtain ⟨a, rfl, hi⟩ := isD_of r1 k1 hd
    refine ⟨a, rfl, hi, Fr, ρ1, G1, σs, M1, r1, (Aft.bind (RA := RRb _) q1).weaker ?_⟩
    rintro y H2 ⟨ρ2, G2, M2, k, hr2, hg2, r2, k2, q2⟩
    refine ⟨Fr, ρ2, G2, σs, M2, r2, (Aft.bind (RA := RRb _) q2).weaker ?_⟩
    rintro z H3 ⟨ρ3, G3, M3, zd, hr3, hg3, r3, k3, q3⟩
    simp only [pm, pmGet] at q3
    split at q3
    · rename_i hfl
      split at q3
      · rename_i ks vs kk e1 e2
        exact getK_look r3 (k1.mono (hr2.trans hr3) (hg2.trans hg3)) (k2.mono hr3 hg3) (flat_fz r3 k3 hfl) e1 e2 q3
      · exact q3.elim
    · exact q3.elim
  · exact q1.elim
end
end
end VM
/-! VMW: more statements. -/
namespace VM
open PySem L2 PySem.Spec PyProof.Rows
/-- no comprehension that stands alone -/
def noComp : Expr → Bool
  | .ListComp _ _ _ _ => false
  | .SetComp _ _ _ _ => false
  | .DictComp _ _ _ _ _ => false
  | _ => true
theorem noSwap {e : Expr} (h : noComp e = true) (t : Option Expr) (l : Nat) (env : Env) : swapsWith e t l env = pure false := by cases e <;> first | rfl | cases h
def noTup : Expr → Bool
  | .Tuple _ _ _ => false
  | _ => true
theorem noStores {e : Expr} (h : noTup e = true) (t : List Expr) (env : Env) : swappedStores t e env = pure none := by
  unfold swappedStores
  cases e <;> first | (cases h; done) | skip
  all_goals first | rfl | (cases t with
    | nil => rfl
    | cons a r => cases r <;> (cases a <;> rfl))
section
variable {W : Wd} {Fr : Hp} {ρ : List Addr} {G : Hp} {σs : List SV} {M : Mem} {σ : L2.St} {H : Hp} {d d' : VM.D} {p : Addr} {ho' : HO} {i : Nat}
/-- an own object becomes a value -/
theorem Rel.freeze (r : Rel W Fr ρ G σs M σ H) (e : σs[i]? = some (.o d)) : ∃ G', Hle G G' ∧ Rel W Fr ρ G' (σs.set i (.v d)) M σ H := by
  obtain ⟨p, e2, n⟩ := r.own i d e
  obtain ⟨ho, e3, c⟩ := n.at_
  have hi : i < σs.length := (List.getElem?_eq_some_iff.mp e).1
  have lu : Hle G (upd G p ho) := upd_le n.g
  have ow : ∀ {j q}, Own (σs.set i (.v d)) σ j q → j ≠ i ∧ Own σs σ j q := fun {j q} ⟨x, h1, h2⟩ => by
    by_cases h : i = j
    · subst h; rw [List.getElem?_set_self hi] at h1; cases h1
    · rw [List.getElem?_set_ne h] at h1; exact ⟨fun z => h z.symm, x, h1, h2⟩
  refine ⟨upd G p ho, lu, ⟨r.toMRel.keep e3 n.g n.f n.r, by rw [List.length_set]; exact r.sl, fun j x h => ?_, fun j x h => ?_, fun j k q h1 h2 => r.uniq j k q (ow h1).2 (ow h2).2⟩⟩
  · by_cases hj : i = j
    · subst hj
      rw [List.getElem?_set_self hi] at h
      cases h
      exact ⟨_, e2, (c.mono (Rle.refl _) lu).fz upd_same⟩
    · rw [List.getElem?_set_ne hj] at h
      obtain ⟨v, h1, h2⟩ := r.val j x h
      exact ⟨v, h1, h2.mono (Rle.refl _) lu⟩
  · by_cases hj : i = j
    · subst hj; rw [List.getElem?_set_self hi] at h; cases h
    · rw [List.getElem?_set_ne hj] at h
      obtain ⟨q, h1, h2⟩ := r.own j x h
      have ne : q ≠ p := fun z => hj (r.uniq i j p ⟨d, e, e2⟩ ⟨x, h, z ▸ h1⟩)
      obtain ⟨ho2, a1, a2⟩ := h2.at_
      exact ⟨q, h1, ⟨ho2, a1, a2.mono (Rle.refl _) lu⟩, by rw [upd_ne ne]; exact h2.g, h2.f, h2.r, h2.l⟩
end
section
variable {T : Tab} {Φ : Hot → Nat → List VM.D → Mem → Rs KD} {Γ : Tx} {nm : Nm} {n : Nat} {N : List Str} {sc : Scope} {hot : Hot} {xa : Option Addr} {WW : WX} {X : Cx} {W : Wd}
theorem s_frz {i : Nat} {ss : List Stmt} {r0 : List SV → Mem → Sx} (h : PSs X ss (LS W WW r0)) : PSs X ss (LS W WW fun σ M => (match σ[i]? with
    | some (.o d) => Sx.nx (σ.set i (.v d)) M
    | some (.v d) => .nx (σ.set i (.v d)) M
    | _ => .stk).next r0) := by
  refine PSs.weak h fun D σ H ⟨Fr, ρ, G, σs, M, r, q⟩ => ?_
  dsimp only at q
  split at q
  · rename_i d e
    obtain ⟨G', hg, r'⟩ := r.freeze e
    exact ⟨Fr, ρ, G', _, M, r', AftS.from (Rle.refl _) hg q⟩
  · rename_i d e
    have : σs.set i (.v d) = σs := by
      refine List.ext_getElem? fun j => ?_
      by_cases hj : i = j
      · subst hj
        rw [List.getElem?_set_self (List.getElem?_eq_some_iff.mp e).1]; exact e.symm
      · rw [List.getElem?_set_ne hj]
    rw [this] at q
    exact ⟨Fr, ρ, G, σs, M, r, q⟩
  · exact q.elim
/-- x += e -/
theorem s_aug {i : Nat} {x : Str} {e : Expr} {p pos : Pos} {re : List SV → Mem → Rs KD} (hN : X.N.Nodup) (hi : X.N[i]? = some x) (hx : Loc X.env.scope x) (hf : X.fn x = true ∨ X.env.scope.names.lookup x = some .local) (he : PE X e (LK W WW re)) :
    PS X (.AugAssign (.Name x p) .Add e pos) (LS W WW fun σ M => (match σ[i]? with
      | some (.v (.int a)) => (re σ M).bw.on σ fun y M => (match y with
        | .int b => .nx (σ.set i (.v (.int (a + b)))) M
        | _ => .stk)
      | _ => .stk)) := by
  refine PS.weak (ps_aug hN hi hx (pe_bw he) ip_add hf) fun D σ H ⟨Fr, ρ, G, σs, M, r, q⟩ => ?_
  dsimp only at q
  split at q
  · rename_i a e1
    obtain ⟨v, e2, f⟩ := r.val i _ e1
    refine ⟨v, e2, Fr, ρ, G, σs, M, r, (AftS.on (RA := RRb W) q).weaker ?_⟩
    rintro y H1 ⟨ρ1, G1, M1, d, hr, hg, r1, k1, q1⟩
    cases d with
    | int b => exact ⟨a, b, f, k1.int r1, q1 ρ1 G1 _ H1 (Rle.refl _) (Hle.refl _) (r1.setv (show Fz W ρ1 G1 (.int (a + b)) (.int (a + b)) from rfl))⟩
    | _ => exact q1.elim
  · exact q.elim
theorem PSet.or {t u : TSet} (h1 : PSet X t) (h2 : PSet X u) : PSet X fun o i v H Q => t o i v H Q ∨ u o i v H Q := fun pins s σ H o i v ov iv uu Q I ro ri rv h =>
  h.elim (h1 pins s σ H o i v ov iv uu Q I ro ri rv) (h2 pins s σ H o i v ov iv uu Q I ro ri rv)
def rSetA : TSet := fun o i v H Q => rSetL o i v H Q ∨ rSetD o i v H Q
theorem set_all (hu : X.A.units + 64 < cLine) : PSet X rSetA := PSet.or set_list (set_dict (by omega))
theorem ixN_place {n : Nat} {i : Int} {j : Nat} (h : place n i = some j) : ixN n i = some j := h
theorem Fzs.set {ρ : List Addr} {G : Hp} {y : VM.D} {v : V} (hy : Fz W ρ G y v) : ∀ {ds : List VM.D} {vs : List V} {j : Nat}, Fzs W ρ G ds vs → Fzs W ρ G (ds.set j y) (vs.set j v)
  | [], _, j, h => by unfold Fzs at h; subst h; exact .nil
  | d :: ds, _, j, h => by
    unfold Fzs at h
    obtain ⟨w, r, rfl, q, k⟩ := h
    cases j with
    | zero => exact .cons hy k
    | succ j => exact .cons q (Fzs.set hy k)
/-- what is set in place -/
theorem setAt_ok {ρ : List Addr} {G H : Hp} {o o' i y : VM.D} {p : Addr} {ho : HO} {iv v : V} {Q : Hp → Prop} (hp : H p = some ho) (c : Co W ρ G o ho) (hi : Fz W ρ G i iv) (hy : Fz W ρ G y v) (e : setAt o i y = some o') (q : ∀ ho', Co W ρ G o' ho' → Q (upd H p ho')) : rSetA (.ref p) iv v H Q := by
  unfold setAt at e
  split at e
  · rename_i xs k
    obtain ⟨vs, rfl, l, f⟩ := c
    obtain ⟨j, e1, e2⟩ := Option.map_eq_some_iff.mp e
    subst e2
    exact .inl ⟨p, vs, k, j, rfl, hi, hp, ixN_place (by rw [← f.length]; exact e1), q _ ⟨_, rfl, by rw [List.length_set]; exact l, f.set hy⟩⟩
  · rename_i ks vs
    obtain ⟨us, rfl, l, f⟩ := c
    cases hk : keyOf i with
    | none => rw [hk] at e; cases e
    | some k =>
      rw [hk] at e
      simp only [Option.bind] at e
      split at e
      · rename_i hl
        cases e
        obtain ⟨rfl, hk2, _⟩ := keyOf_fz hi hk
        obtain ⟨vs', a1, a2, a3⟩ := putK_val (k := k) hk2 hy l f
        refine .inr ⟨p, _, rfl, DPut.k hp ?_, ?_⟩
        · rw [List.length_zip, List.length_map, l.1, Nat.min_self, line_eq, ← l.1]; exact hl
        · rw [a1]
          exact q _ ⟨_, rfl, a2, a3⟩
      · cases e
  · cases e
theorem asg_sub {o ix : Expr} {p : Pos} {env : Env} (h : noSlice ix = true) : ∀ v, assign (.Subscript o ix p) env v = (do
      let ov ← holding [v] (eval o env)
      let iv ← holding [v, ov] (eval ix env)
      standAt p
      holding [v, ov, iv] (setItem ov iv v)
      release [v, ov, iv] []) := fun v => by cases ix <;> first | rfl | cases h
theorem setAt_nl {o i y o' : VM.D} (h : setAt o i y = some o') : o.isDlk = false ∧ o'.isDlk = false := by
  unfold setAt at h
  split at h
  · obtain ⟨j, _, e⟩ := Option.map_eq_some_iff.mp h
    subst e
    exact ⟨rfl, rfl⟩
  · obtain ⟨k, _, e⟩ := Option.bind_eq_some_iff.mp h
    split at e
    · cases e; exact ⟨rfl, rfl⟩
    · cases e
  · cases h
/-- x[i] = e, of an own list or dict -/
theorem s_setO (hu : X.A.units + 64 < cLine) {i : Nat} {o ix e : Expr} {p pos : Pos} {re ri : List SV → Mem → Rs KD} (ho : PE X o (tVar i)) (hix : PE X ix (LK W WW ri)) (he : PE X e (LK W WW re)) (h1 : noComp e = true) (h2 : noTup e = true) (h3 : noSlice ix = true) :
    PS X (.Assign [.Subscript o ix p] e pos) (LS W WW fun σ M => (re σ M).fz.on σ fun y M => (match σ[i]? with
      | some (.o o) => (ri σ M).fz.on σ fun k M => (match setAt o k y with
        | some o' => .nx (σ.set i (.o o')) M
        | none => .stk)
      | _ => .stk)) := by
  refine PS.weak (ps_asg (pe_fz he) (pg_sub ho (pe_fz hix) (set_all hu) (asg_sub h3)) (show swapsWith e (some (.Subscript o ix p)) pos.line X.env = pure false from noSwap h1 _ _ _) (noStores h2 _ _)) fun D σ H ⟨Fr, ρ, G, σs, M, r, q⟩ => ⟨Fr, ρ, G, σs, M, r, (AftS.on (RA := RRf W) q).weaker ?_⟩
  rintro y H1 ⟨ρ1, G1, M1, d, hr1, hg1, r1, k1, q1⟩
  split at q1
  · rename_i od e1
    obtain ⟨v, e2, nw⟩ := r1.own i _ e1
    refine ⟨_, e2, Fr, ρ1, G1, σs, M1, r1, (AftS.on (RA := RRf W) q1).weaker ?_⟩
    rintro z H2 ⟨ρ2, G2, M2, kd, hr2, hg2, r2, k2, q2⟩
    obtain ⟨v2, e3, nw2⟩ := r2.own i _ e1
    rw [e2] at e3
    cases e3
    obtain ⟨ho, a1, a2⟩ := nw2.at_
    cases e4 : setAt od kd d with
    | none => rw [e4] at q2; exact q2.elim
    | some o' =>
      rw [e4] at q2
      exact setAt_ok a1 a2 k2 (k1.mono hr2 hg2) e4 fun ho' c' => q2 ρ2 G2 σ _ (Rle.refl _) (Hle.refl _) (r2.own_w e1 e2 c' (setAt_nl e4).2)
  · exact q1.elim
theorem Rel.cell_at {Fr : Hp} {ρ : List Addr} {G : Hp} {σs : List SV} {M : Mem} {σ : L2.St} {H : Hp} (r : Rel W Fr ρ G σs M σ H) {j : Nat} {a : Addr} (e : ρ[j]? = some a) : ∃ ho, H a = some ho ∧ Co W ρ G (M.getD j .non) ho := by
  have hj : j < M.length := by rw [r.len]; exact (List.getElem?_eq_some_iff.mp e).1
  obtain ⟨ho, h1, h2, _⟩ := r.mem j a M[j] e (List.getElem?_eq_getElem hj)
  refine ⟨ho, h1, ?_⟩
  simp only [List.getD, List.getElem?_eq_getElem hj, Option.getD_some]
  exact h2
/-- a[i] = e, of a shared list or dict -/
theorem s_setC (hu : X.A.units + 64 < cLine) {o ix e : Expr} {p pos : Pos} {ra re ri : List SV → Mem → Rs KD} (ho : PE X o (LK W WW ra)) (hix : PE X ix (LK W WW ri)) (he : PE X e (LK W WW re)) (h1 : noComp e = true) (h2 : noTup e = true) (h3 : noSlice ix = true) :
    PS X (.Assign [.Subscript o ix p] e pos) (LS W WW fun σ M => (re σ M).fz.on σ fun y M => (ra σ M).fz.on σ fun o M => (match o with
      | .cell j => (ri σ M).fz.on σ fun k M => (match setAt (M.getD j .non) k y with
        | some o' => .nx σ (M.set j o')
        | none => .stk)
      | _ => .stk)) := by
  refine PS.weak (ps_asg (pe_fz he) (pg_sub (pe_fz ho) (pe_fz hix) (set_all hu) (asg_sub h3)) (show swapsWith e (some (.Subscript o ix p)) pos.line X.env = pure false from noSwap h1 _ _ _) (noStores h2 _ _)) fun D σ H ⟨Fr, ρ, G, σs, M, r, q⟩ => ⟨Fr, ρ, G, σs, M, r, (AftS.on (RA := RRf W) q).weaker ?_⟩
  rintro y H1 ⟨ρ1, G1, M1, d, hr1, hg1, r1, k1, q1⟩
  refine ⟨Fr, ρ1, G1, σs, M1, r1, (AftS.on (RA := RRf W) q1).weaker ?_⟩
  rintro x H2 ⟨ρ2, G2, M2, od, hr2, hg2, r2, k2, q2⟩
  split at q2
  · rename_i j
    unfold Fz at k2
    obtain ⟨a, rfl, ej⟩ := k2
    refine ⟨Fr, ρ2, G2, σs, M2, r2, (AftS.on (RA := RRf W) q2).weaker ?_⟩
    rintro z H3 ⟨ρ3, G3, M3, kd, hr3, hg3, r3, k3, q3⟩
    have ej3 := hr3 _ _ ej
    obtain ⟨ho, a1, a2⟩ := r3.cell_at ej3
    cases e4 : setAt (M3.getD j .non) kd d with
    | none => rw [e4] at q3; exact q3.elim
    | some o' =>
      rw [e4] at q3
      exact setAt_ok a1 a2 k3 (k1.mono (hr2.trans hr3) (hg2.trans hg3)) e4 fun ho' c' => q3 ρ3 G3 σ _ (Rle.refl _) (Hle.refl _) (r3.cell_w ej3 (nlk rfl (setAt_nl e4).1) c')
  · exact q2.elim
/-- a.f = e -/
theorem s_setA (c : Cok T Φ Γ nm n N sc hot xa WW X) {m : Md} {f : Nat} {x : Str} {o e : Expr} {p pos : Pos} {ra re : List SV → Mem → Rs KD} (hf : Γ.fd[f]? = some x) (hx : x ≠ "") (ho : PE X o (LK (wd X nm xa) WW ra)) (he : PE X e (LK (wd X nm xa) WW re)) (h1 : noComp e = true) :
    PS X (.Assign [.Attribute o x p] e pos) (LS (wd X nm xa) WW fun σ M => (re σ M).on σ fun r M => (match fld m r M with
      | some (y, M) => (ra σ M).fz.on σ fun o M => (match o with
        | .cell j => (match M.getD j .non with
          | .ins C fs vs => if fs.length < 900 then .nx σ (M.set j (.ins C (putF' f y fs vs).1 (putF' f y fs vs).2)) else .stk
          | _ => .stk)
        | _ => .stk)
      | none => .stk)) := by
  refine PS.weak (ps_fld (pe_fz ho) he (noSwap h1 _ _ _)) fun D σ H ⟨Fr, ρ, G, σs, M, r, q⟩ => ⟨Fr, ρ, G, σs, M, r, (AftS.on (RA := RRk (wd X nm xa) Fr) q).weaker ?_⟩
  rintro y H1 ⟨ρ1, G1, M1, kd, hr1, hg1, r1, k1, q1⟩
  -- what is set: a value, or what is shared now
  have key : ∃ (y' : VM.D) (M1' : Mem) (ρ' : List Addr) (G' : Hp), fld m kd M1 = some (y', M1') ∧ Rle ρ1 ρ' ∧ Hle G1 G' ∧ Rel (wd X nm xa) Fr ρ' G' σs M1' σ H1 ∧ Fz (wd X nm xa) ρ' G' y' y := by
    obtain ⟨k, d⟩ := kd
    cases k with
    | f => exact ⟨d, M1, ρ1, G1, by cases m <;> rfl, Rle.refl _, Hle.refl _, r1, k1⟩
    | n =>
      obtain ⟨p, rfl, nw, no⟩ := k1
      have val : fld m ⟨.n, d⟩ M1 = some (d, M1) → ∃ (y' : VM.D) (M1' : Mem) (ρ' : List Addr) (G' : Hp), fld m ⟨.n, d⟩ M1 = some (y', M1') ∧ Rle ρ1 ρ' ∧ Hle G1 G' ∧ Rel (wd X nm xa) Fr ρ' G' σs M1' σ H1 ∧ Fz (wd X nm xa) ρ' G' y' (.ref p) := fun e => by
        obtain ⟨ho, e3, cc⟩ := nw.at_
        have lu : Hle G1 (upd G1 p ho) := upd_le nw.g
        exact ⟨d, M1, ρ1, upd G1 p ho, e, Rle.refl _, lu, r1.keep e3 nw.g nw.f nw.r no, (cc.mono (Rle.refl _) lu).fz upd_same⟩
      cases m with
      | f => exact val rfl
      | o => exact val rfl
      | c =>
        refine ⟨.cell M1.length, M1 ++ [d], ρ1 ++ [p], G1, rfl, Rle.push _ _, Hle.refl _, r1.share nw no, ?_⟩
        unfold Fz
        exact ⟨p, rfl, by rw [r1.len, List.getElem?_concat_length]⟩
    | b =>
      exfalso
      cases m <;> exact q1.elim
  obtain ⟨y', M1', ρ', G', ef, hr', hg', r1', k1'⟩ := key
  rw [ef] at q1
  dsimp only at q1
  have q1 := AftS.from hr' hg' q1
  refine ⟨Fr, ρ', G', σs, M1', r1', (AftS.on (RA := RRf (wd X nm xa)) q1).weaker ?_⟩
  rintro v H2 ⟨ρ2, G2, M2, od, hr2, hg2, r2, k2, q2⟩
  split at q2
  · rename_i j
    unfold Fz at k2
    obtain ⟨a, rfl, ej⟩ := k2
    obtain ⟨ho, a1, a2⟩ := r2.cell_at ej
    split at q2
    · rename_i C fs vs e5
      split at q2
      · rename_i h9
        rw [e5] at a2
        obtain ⟨dx, us, rfl, ⟨hl, hk⟩, fz⟩ := a2
        obtain ⟨h4, h5⟩ := c.sk.kf C f x hk hf hx
        obtain ⟨vs', b1, b2, b3⟩ := putF_val (W := wd X nm xa) (f := f) (k1'.mono hr2 hg2) hl fz
        have b1 : putF (nm.fn f) y ((fs.map nm.fn).zip us) = ((putF' f y' fs vs).1.map nm.fn).zip vs' := b1
        refine ⟨a, _, dx, _, rfl, a1, (c.sk.kc C hk).1, h4, ?_, ?_⟩
        · rw [List.length_zip, List.length_map]
          omega
        · rw [h5] at b1
          have q2' := q2 ρ2 G2 σ (upd H2 a (.ins (nm.ka C) dx (((putF' f y' fs vs).1.map nm.fn).zip vs'))) (Rle.refl _) (Hle.refl _) (r2.cell_w ej (nlk e5 rfl) ⟨dx, vs', rfl, ⟨b2, hk⟩, b3⟩)
          rw [← b1] at q2'
          exact q2'
      · exact q2.elim
    · exact q2.elim
  · exact q2.elim
/-- while -/
theorem s_whl (fl : FnL WW X) {m : Nat} {e : Expr} {body : List Stmt} {pos : Pos} {rt : List SV → Mem → Rs Bool} {rb : List SV → Mem → Sx} (ht : PT X e (LT W WW rt)) (hb : PSs X body (LS W WW rb)) :
    PS X (.While e body [] pos) (LS W WW fun σ M => whL rt rb m σ M) := by
  refine PS.weak (ps_while fl.po ht hb) fun D σ H ⟨Fr, ρ, G, σs, M, r, q⟩ => ?_
  refine ⟨fun k σ H => ∃ (ρ1 : List Addr) (G1 : Hp) (σs1 : List SV) (M1 : Mem), Rle ρ ρ1 ∧ Hle G G1 ∧ Rel W Fr ρ1 G1 σs1 M1 σ H ∧ AftS W WW Fr ρ1 G1 (whL rt rb k σs1 M1) D, ⟨m, ρ, G, σs, M, Rle.refl _, Hle.refl _, r, q⟩, ?_⟩
  rintro k σ1 H1 ⟨ρ1, G1, σs1, M1, hr, hg, r1, q1⟩
  cases k with
  | zero => exact q1.elim
  | succ k =>
    refine ⟨Fr, ρ1, G1, σs1, M1, r1, (AftS.on (RA := RRt) q1).weaker ?_⟩
    rintro b H2 ⟨ρ2, G2, M2, d, hr2, hg2, r2, k2, q2⟩
    subst k2
    cases b with
    | false => exact q2 ρ2 G2 σ1 H2 (Rle.refl _) (Hle.refl _) r2
    | true =>
      refine ⟨fun σ3 H3 => ∃ (ρ3 : List Addr) (G3 : Hp) (σs3 : List SV) (M3 : Mem), Rle ρ ρ3 ∧ Hle G G3 ∧ Rel W Fr ρ3 G3 σs3 M3 σ3 H3 ∧ AftS W WW Fr ρ3 G3 (whL rt rb k σs3 M3) D, fun σ3 H3 h => ⟨k, Nat.lt_succ_self _, h⟩, Fr, ρ2, G2, σs1, M2, r2, ?_⟩
      have q2 : AftS W WW Fr ρ2 G2 ((rb σs1 M2).next fun σ M => whL rt rb k σ M) D := q2
      cases e2 : rb σs1 M2 with
      | nx s3 M3 =>
        rw [e2] at q2
        exact fun ρ3 G3 σ3 H3 h1 h2 h3 => ⟨ρ3, G3, s3, M3, (hr.trans hr2).trans h1, (hg.trans hg2).trans h2, h3, AftS.from h1 h2 q2⟩
      | rt kd M3 => rw [e2] at q2; exact q2
      | ex C s3 M3 => rw [e2] at q2; exact q2
      | stk => rw [e2] at q2; exact q2.elim
def rGetL : V → V → Hp → VK → Prop := fun o i H Q => ∃ p xs k z, o = .ref p ∧ i = .int k ∧ H p = some (.lst xs) ∧ atI xs k = some z ∧ Q z H
theorem get_lst : PGet X rGetL := by
  intro pins s σ H o i ov iv Q I ro ri ⟨p, xs, k, z, eo, ei, hp, he, q⟩
  subst eo ei
  cases ro
  obtain ⟨t, rfl⟩ := ri
  obtain ⟨its, r, pl, hz⟩ := I.list (.of hp)
  obtain ⟨j, h1, h2, h3, h4, h5⟩ := atI_get he
  obtain ⟨w, ew, rw'⟩ := r.get h2
  have hl := r.length
  have hn := line63
  have fin : EP X pins σ Q w s := ⟨z, H, I, rw', q⟩
  by_cases h0 : 0 ≤ k
  · have hj : k.toNat = j := by
      rw [seqIndex_of h0 h5] at h1
      exact Option.some.inj h1
    exact wpAny_getItem_list pl.isList h0 (by omega) (by rw [hj]; simpa using ew) fin
  · have hj : (k + (its.toArray.size : Int)).toNat = j := by
      rw [seqIndex_neg (by omega) h4] at h1
      rw [List.size_toArray, ← hl]
      exact Option.some.inj h1
    exact wpAny_getItem_list_neg pl.isList (by omega) (by rw [List.size_toArray] <;> omega) (by omega) (by rw [hj]; simpa using ew) fin
theorem aug_store {i : Expr} (h : noSlice i = true) : ∀ ov iv new, augStore i ov iv new = (do holding [new, ov, iv] (setItem ov iv new); release [new, ov, iv] []; pure .next) := fun ov iv new => by cases i <;> first | rfl | cases h
/-- x[i] += e, of an own list -/
theorem s_augO {i : Nat} {o ix e : Expr} {p pos : Pos} {re ri : List SV → Mem → Rs KD} (hu : X.A.units + 64 < cLine) (ho : PE X o (tVar i)) (hix : PE X ix (LK W WW ri)) (he : PE X e (LK W WW re)) (h3 : noSlice ix = true) :
    PS X (.AugAssign (.Subscript o ix p) .Add e pos) (LS W WW fun σ M => (match σ[i]? with
      | some (.o o) => (ri σ M).fz.on σ fun k M => (match intAt o k with
        | some a => (re σ M).fz.on σ fun y M => (match y with
          | .int b => (match setAt o k (.int (a + b)) with
            | some o' => .nx (σ.set i (.o o')) M
            | none => .stk)
          | _ => .stk)
        | none => .stk)
      | _ => .stk)) := by
  refine PS.weak (ps_augS ho (pe_fz hix) get_lst (pe_fz he) ip_add (set_all hu) (aug_store h3)) fun D σ H ⟨Fr, ρ, G, σs, M, r, q⟩ => ?_
  dsimp only at q
  split at q
  · rename_i od e1
    obtain ⟨pp, e2, nw⟩ := r.own i _ e1
    refine ⟨_, e2, Fr, ρ, G, σs, M, r, (AftS.on (RA := RRf W) q).weaker ?_⟩
    rintro kv H1 ⟨ρ1, G1, M1, kd, hr1, hg1, r1, k1, q1⟩
    obtain ⟨p1, e3, nw1⟩ := r1.own i _ e1
    rw [e2] at e3
    cases e3
    obtain ⟨ho1, a1, a2⟩ := nw1.at_
    cases e4 : intAt od kd with
    | none => rw [e4] at q1; exact q1.elim
    | some a =>
      rw [e4] at q1
      have ea := e4
      unfold intAt at ea
      split at ea
      · rename_i xs j
        obtain ⟨vs, rfl, la, fa⟩ := a2
        split at ea
        · rename_i nn hat
          cases ea
          obtain ⟨z, h2, h3⟩ := fa.at hat
          have h3 : z = .int a := h3
          subst h3
          have k1' : kv = .int j := k1
          subst k1'
          refine ⟨_, vs, j, _, rfl, rfl, a1, h2, Fr, ρ1, G1, σs, M1, r1, (AftS.on (RA := RRf W) q1).weaker ?_⟩
          rintro y H2 ⟨ρ2, G2, M2, d, hr2, hg2, r2, k2, q2⟩
          cases d with
          | int b =>
            obtain ⟨p2, e5, nw2⟩ := r2.own i _ e1
            rw [e2] at e5
            cases e5
            obtain ⟨ho2, b1, b2⟩ := nw2.at_
            have q2 : AftS W WW Fr ρ2 G2 (match setAt (.lst xs) (.int j) (.int (a + b)) with
              | some o' => Sx.nx (σs.set i (.o o')) M2
              | none => .stk) D := q2
            cases e6 : setAt (.lst xs) (.int j) (.int (a + b)) with
            | none => rw [e6] at q2; exact q2.elim
            | some o' =>
              rw [e6] at q2
              refine ⟨a, b, rfl, k2, setAt_ok b1 b2 (show Fz W ρ2 G2 (.int j) (.int j) from rfl) (show Fz W ρ2 G2 (.int (a + b)) (.int (a + b)) from rfl) e6 fun ho' c' => q2 ρ2 G2 σ _ (Rle.refl _) (Hle.refl _) (r2.own_w e1 e2 c' (setAt_nl e6).2)⟩
          | _ => exact q2.elim
        · cases ea
      · cases ea
  · exact q.elim
end
end VM
/-! VMI: zip, enumerate, reversed, the signs of a text. -/
namespace VM
open PySem L2 PySem.Spec PyProof.Rows
def notSet : Expr → Bool
  | .Set _ _ _ => false
  | _ => true
theorem folded_ok {e : Expr} (h : notSet e = true) (env : Env) (x : Value) : foldedSetIterable e env x = pure x := by cases e <;> first | rfl | cases h
def isTup : VM.D → Bool
  | .tup _ => true
  | _ => false
/-- the iterator over such things -/
def SJ (K : PySem.W.Frag) (k : Ik) (vs : List V) (H : Hp) (J : L2.It) : Prop :=
  match k with
  | .zip => ∃ a b xs ys, vs = [.ref a, .ref b] ∧ ((SqL K H a xs ∧ SqL K H b ys ∧ J = Itz K a b) ∨ (SqT K H a xs ∧ SqT K H b ys ∧ J = RZ.ItzT K a b))
  | .enu => ∃ a xs, vs = [.ref a] ∧ SqL K H a xs ∧ J = Ite K a
  | .rev => ∃ a xs, vs = [.ref a] ∧ ((SqL K H a xs ∧ J = Itv K a xs.length) ∨ (SqT K H a xs ∧ J = RT.ItvT K a xs.length))
  | .sgn => ∃ x, vs = [.str x] ∧ J = Its x
def iK (K : PySem.W.Frag) (k : Ik) (ta : TA) : TI := fun σ H R => ta σ H fun vs H1 => ∃ J, SJ K k vs H1 J ∧ R J H1
/-- the text of such a walk -/
inductive IkA (sc : Scope) : Ik → Expr → Expr → List Expr → Prop
  | zip {a b : Expr} {es : List Expr} {k : Nat} {p p1 p2 : Pos} (g : gloC sc "zip" = true) (h1 : noStar a = true) (h2 : noStar b = true) : IkA sc .zip (.Tuple es k p) (.Call (.Name "zip" p1) [a, b] [] p2) [a, b]
  | enu {a : Expr} {es : List Expr} {k : Nat} {p p1 p2 : Pos} (g : gloC sc "enumerate" = true) (h1 : noStar a = true) : IkA sc .enu (.Tuple es k p) (.Call (.Name "enumerate" p1) [a] [] p2) [a]
  | rev {a tg : Expr} {p1 p2 : Pos} (g : gloC sc "reversed" = true) (h1 : noStar a = true) : IkA sc .rev tg (.Call (.Name "reversed" p1) [a] [] p2) [a]
  | sgn {a tg : Expr} (h : notSet a = true) : IkA sc .sgn tg a [a]
section
variable {T : Tab} {Φ : Hot → Nat → List VM.D → Mem → Rs KD} {Γ : Tx} {nm : Nm} {n : Nat} {N : List Str} {sc : Scope} {hot : Hot} {xa : Option Addr} {WW : WX} {X : Cx} {W : Wd}
theorem PI.wk {tg it : Expr} {w w' : TI} (p : PI X tg it w) (k : ∀ σ H R, w' σ H R → w σ H R) : PI X tg it w' := ⟨fun pins s σ H R I h => p.run pins s σ H R I (k σ H R h)⟩
theorem gl_of' (c : Cok T Φ Γ nm n N sc hot xa WW X) {x : Str} (h : gloC sc x = true) : Gl X x := by unfold Gl Env.kindOf; rw [c.sc]; exact gloC_ok h
theorem pi_K (c : Cok T Φ Γ nm n N sc none xa WW X) {k : Ik} {tg iter : Expr} {es : List Expr} {ta : TA} (h : IkA sc k tg iter es) (hp : PA X es ta) (h1 : ∀ e, es = [e] → ∃ te, PE X e te ∧ ∀ σ H (Q : List V → Hp → Prop) (Q' : VK), (∀ x H1, Q [x] H1 → Q' x H1) → ta σ H Q → te σ H Q') (mono : ∀ σ H (P P' : List V → Hp → Prop), (∀ x H, P x H → P' x H) → ta σ H P → ta σ H P') : PIQ X tg iter (iK X.K k ta) := by
  refine PIQ.calm c.mode.2.1 ?_
  cases h with
  | zip g a b =>
    refine PI.wk (RZ.pi_zipA (gl_of' c g) (c.sk.free _ (by decide +kernel)) hp (star_cons a) (by rw [star_cons b]; rfl)) fun σ H R q => mono _ _ _ _ ?_ q
    rintro vs H1 ⟨J, ⟨a, b, xs, ys, e, hj⟩, hR⟩
    refine ⟨a, b, xs, ys, e, ?_⟩
    rcases hj with ⟨k1, k2, k3⟩ | ⟨k1, k2, k3⟩
    · subst k3; exact .inl ⟨k1, k2, hR⟩
    · subst k3; exact .inr ⟨k1, k2, hR⟩
  | enu g a =>
    refine PI.wk (pi_enum (gl_of' c g) (c.sk.free _ (by decide +kernel)) hp (star_cons a)) fun σ H R q => mono _ _ _ _ ?_ q
    rintro vs H1 ⟨J, ⟨a, xs, e, k1, k2⟩, hR⟩
    subst k2
    exact ⟨a, xs, e, k1, hR⟩
  | rev g a =>
    obtain ⟨te, he, hq⟩ := h1 _ rfl
    refine PI.wk (RT.pi_revA (gl_of' c g) (c.sk.free _ (by decide +kernel)) he (star_cons a)) fun σ H R q => hq _ _ _ _ ?_ q
    rintro x H1 ⟨J, ⟨a, xs, e, hj⟩, hR⟩
    cases e
    refine ⟨a, xs, rfl, ?_⟩
    rcases hj with ⟨k1, k2⟩ | ⟨k1, k2⟩
    · subst k2; exact .inl ⟨k1, hR⟩
    · subst k2; exact .inr ⟨k1, hR⟩
  | sgn a =>
    obtain ⟨te, he, hq⟩ := h1 _ rfl
    refine PI.wk (pi_str he) fun σ H R q => hq _ _ _ _ ?_ q
    rintro x H1 ⟨J, ⟨a, e, hj⟩, hR⟩
    cases e
    subst hj
    exact ⟨a, rfl, hR⟩
end
section
variable {W : Wd} {Fr : Hp} {ρ : List Addr} {G : Hp} {σs : List SV} {M : Mem} {σ : L2.St} {H : Hp} {K : PySem.W.Frag}
theorem zipD_len : ∀ {xs ys : List VM.D}, (zipD xs ys).length = min xs.length ys.length
  | [], _ => by simp [zipD]
  | x :: xs, [] => by simp [zipD]
  | x :: xs, y :: ys => by
    have := zipD_len (xs := xs) (ys := ys)
    simp only [zipD, List.length_cons, this]
    omega
theorem zipD_get : ∀ {xs ys : List VM.D} {i : Nat} (h : i < (zipD xs ys).length), ∃ x y, xs[i]? = some x ∧ ys[i]? = some y ∧ (zipD xs ys)[i] = .tup [x, y]
  | [], _, i, h => by simp [zipD] at h
  | x :: xs, [], i, h => by simp [zipD] at h
  | x :: xs, y :: ys, 0, h => ⟨x, y, rfl, rfl, rfl⟩
  | x :: xs, y :: ys, i + 1, h => by
    obtain ⟨a, b, h1, h2, h3⟩ := zipD_get (xs := xs) (ys := ys) (i := i) (by simpa [zipD] using h)
    exact ⟨a, b, by simpa using h1, by simpa using h2, h3⟩
theorem enuD_len : ∀ {xs : List VM.D} {n : Nat}, (enuD n xs).length = xs.length
  | [], _ => rfl
  | x :: xs, n => by simp [enuD, enuD_len (xs := xs) (n := n + 1)]
theorem enuD_get : ∀ {xs : List VM.D} {n i : Nat} (h : i < (enuD n xs).length), ∃ x, xs[i]? = some x ∧ (enuD n xs)[i] = .tup [.int (n + i : Nat), x]
  | [], _, i, h => by simp [enuD] at h
  | x :: xs, n, 0, h => ⟨x, rfl, rfl⟩
  | x :: xs, n, i + 1, h => by
    obtain ⟨a, h1, h2⟩ := enuD_get (xs := xs) (n := n + 1) (i := i) (by simpa [enuD] using h)
    refine ⟨a, by simpa using h1, ?_⟩
    have e : n + (i + 1) = n + 1 + i := by omega
    rw [e]
    exact h2
theorem wkat_zip (r : Rel W Fr ρ G σs M σ H) {a b : Addr} {xs ys : List VM.D} {vs us : List V} (ha : SqL K H a vs) (hb : SqL K H b us) (fa : Fzs W ρ G xs vs) (fb : Fzs W ρ G ys us) : WkAt W Fr ρ G σs M σ H (Itz K a b) (zipD xs ys) where
  go := fun i hi => by
    obtain ⟨x, y, h1, h2, h3⟩ := zipD_get hi
    obtain ⟨u, g1, g2⟩ := fa.get h1
    obtain ⟨w, g3, g4⟩ := fb.get h2
    refine ⟨⟨vs, us, u, w, ha, hb, g1, g3⟩, ?_⟩
    rintro v H' ⟨Tt, x', y', rfl, hT, rfl, k1, k2⟩
    have e1 := k1 vs ha
    have e2 := k2 us hb
    rw [g1] at e1
    rw [g3] at e2
    cases e1
    cases e2
    rw [h3]
    exact .pair r hT g2 g4
  stop := ⟨vs, us, ha, hb, by rw [zipD_len, fa.length, fb.length]; omega⟩
theorem wkat_zipT (r : Rel W Fr ρ G σs M σ H) {a b : Addr} {xs ys : List VM.D} {vs us : List V} (ha : SqT K H a vs) (hb : SqT K H b us) (fa : Fzs W ρ G xs vs) (fb : Fzs W ρ G ys us) : WkAt W Fr ρ G σs M σ H (RZ.ItzT K a b) (zipD xs ys) where
  go := fun i hi => by
    obtain ⟨x, y, h1, h2, h3⟩ := zipD_get hi
    obtain ⟨u, g1, g2⟩ := fa.get h1
    obtain ⟨w, g3, g4⟩ := fb.get h2
    refine ⟨⟨vs, us, u, w, ha, hb, g1, g3⟩, ?_⟩
    rintro v H' ⟨Tt, x', y', rfl, hT, rfl, k1, k2⟩
    have e1 := k1 vs ha
    have e2 := k2 us hb
    rw [g1] at e1
    rw [g3] at e2
    cases e1
    cases e2
    rw [h3]
    exact .pair r hT g2 g4
  stop := ⟨vs, us, ha, hb, by rw [zipD_len, fa.length, fb.length]; omega⟩
theorem wkat_enu (r : Rel W Fr ρ G σs M σ H) {a : Addr} {xs : List VM.D} {vs : List V} (ha : SqL K H a vs) (fa : Fzs W ρ G xs vs) : WkAt W Fr ρ G σs M σ H (Ite K a) (enuD 0 xs) where
  go := fun i hi => by
    obtain ⟨x, h1, h3⟩ := enuD_get hi
    obtain ⟨u, g1, g2⟩ := fa.get h1
    refine ⟨⟨vs, u, ha, g1⟩, ?_⟩
    rintro v H' ⟨Tt, x', rfl, hT, rfl, k1⟩
    have e1 := k1 vs ha
    rw [g1] at e1
    cases e1
    rw [h3, Nat.zero_add]
    exact .pair r hT (show Fz W ρ G (.int (i : Nat)) (.int (i : Nat)) from rfl) g2
  stop := ⟨vs, ha, by rw [enuD_len, fa.length]; exact Nat.le_refl _⟩
theorem rev_get {xs : List VM.D} {i : Nat} (hi : i < xs.reverse.length) : xs[xs.length - 1 - i]? = some xs.reverse[i] := by
  rw [List.length_reverse] at hi
  rw [List.getElem_reverse, List.getElem?_eq_getElem]
theorem wkat_rev (r : Rel W Fr ρ G σs M σ H) {a : Addr} {xs : List VM.D} {vs : List V} {m : Nat} (hm : m = xs.length) (ha : SqL K H a vs) (fa : Fzs W ρ G xs vs) : WkAt W Fr ρ G σs M σ H (Itv K a m) xs.reverse where
  go := fun i hi => by
    have h1 := rev_get hi
    obtain ⟨u, g1, g2⟩ := fa.get h1
    subst hm
    refine ⟨⟨by rw [List.length_reverse] at hi; exact hi, vs, u, ha, g1⟩, ?_⟩
    rintro v H' ⟨rfl, k1⟩
    have e1 := k1 vs ha
    rw [g1] at e1
    cases e1
    exact .same r g2
  stop := by
    show m ≤ _
    rw [List.length_reverse, hm]
    exact Nat.le_refl _
theorem wkat_revT (r : Rel W Fr ρ G σs M σ H) {a : Addr} {xs : List VM.D} {vs : List V} {m : Nat} (hm : m = xs.length) (ha : SqT K H a vs) (fa : Fzs W ρ G xs vs) : WkAt W Fr ρ G σs M σ H (RT.ItvT K a m) xs.reverse where
  go := fun i hi => by
    have h1 := rev_get hi
    obtain ⟨u, g1, g2⟩ := fa.get h1
    subst hm
    refine ⟨⟨by rw [List.length_reverse] at hi; exact hi, vs, u, ha, g1⟩, ?_⟩
    rintro v H' ⟨rfl, k1⟩
    have e1 := k1 vs ha
    rw [g1] at e1
    cases e1
    exact .same r g2
  stop := by
    show m ≤ _
    rw [List.length_reverse, hm]
    exact Nat.le_refl _
theorem wkat_sgn (r : Rel W Fr ρ G σs M σ H) {s : List Nat} (hs : OkS s) : WkAt W Fr ρ G σs M σ H (Its (tx s)) (s.map fun c => .str [c]) where
  go := fun i hi => by
    rw [List.length_map] at hi
    have hz : (tx s).cps[i]? = some s[i] := by simp [tx, hi]
    refine ⟨by show i < (tx s).cps.size; simpa [tx] using hi, ?_⟩
    rintro v H' ⟨rfl, c, k1, rfl⟩
    rw [hz] at k1
    cases k1
    rw [List.getElem_map]
    refine .same r ?_
    exact Fz.mkS (s := [s[i]]) ⟨by show 1 < line; decide, fun c hc => by rw [List.mem_singleton.mp hc]; exact hs.2 _ (List.getElem_mem hi)⟩
  stop := by
    show (tx s).cps.size ≤ _
    simp [tx]
theorem inv_zip {ds xs : List VM.D} (h : itemsK .zip ds M = some xs) : (∃ xa xb, ds = [.tup xa, .tup xb] ∧ xs = zipD xa xb) ∨ ∃ a b xa xb, ds = [a, b] ∧ lstOf a M = some xa ∧ lstOf b M = some xb ∧ xs = zipD xa xb := by
  unfold itemsK at h
  split at h
  · exact .inl ⟨_, _, rfl, (Option.some.inj h).symm⟩
  · split at h
    · rename_i e1 e2
      exact .inr ⟨_, _, _, _, rfl, e1, e2, (Option.some.inj h).symm⟩
    · cases h
  all_goals first | (cases h; done) | (rename_i z; cases z; done) | (rename_i z _; cases z; done) | skip
theorem inv_enu {ds xs : List VM.D} (h : itemsK .enu ds M = some xs) : ∃ a xa, ds = [a] ∧ lstOf a M = some xa ∧ xs = enuD 0 xa := by
  unfold itemsK at h
  split at h
  all_goals first | (cases h; done) | (rename_i z; cases z; done) | (rename_i z _; cases z; done) | skip
  obtain ⟨xa, h1, h2⟩ := Option.map_eq_some_iff.mp h
  exact ⟨_, xa, rfl, h1, h2.symm⟩
theorem inv_rev {ds xs : List VM.D} (h : itemsK .rev ds M = some xs) : (∃ xa, ds = [.tup xa] ∧ xs = xa.reverse) ∨ ∃ a xa, ds = [a] ∧ lstOf a M = some xa ∧ xs = xa.reverse := by
  unfold itemsK at h
  split at h
  all_goals first | (cases h; done) | (rename_i z; cases z; done) | (rename_i z _; cases z; done) | skip
  · exact .inl ⟨_, rfl, (Option.some.inj h).symm⟩
  · obtain ⟨xa, h1, h2⟩ := Option.map_eq_some_iff.mp h
    exact .inr ⟨_, xa, rfl, h1, h2.symm⟩
theorem inv_sgn {ds xs : List VM.D} (h : itemsK .sgn ds M = some xs) : ∃ s, ds = [.str s] ∧ xs = s.map fun c => .str [c] := by
  unfold itemsK at h
  split at h
  all_goals first | (cases h; done) | (rename_i z; cases z; done) | (rename_i z _; cases z; done) | skip
  exact ⟨_, rfl, (Option.some.inj h).symm⟩
theorem lst_tup {xs : List VM.D} : lstOf (.tup xs) M = none := rfl
/-- what is walked stands there, and is walked so ever after -/
theorem sj_of (hK : W.K = K) {k : Ik} {ds : List VM.D} {vs : List V} {xs : List VM.D} (r : Rel W Fr ρ G σs M σ H) (b : Bzs W ρ G σs σ ds vs) (h : itemsK k ds M = some xs) :
    ∃ J, SJ K k vs H J ∧ ∀ {ρ' : List Addr} {G' : Hp} {τs : List SV} {M' : Mem} {τ : L2.St} {H' : Hp}, Rel W Fr ρ' G' τs M' τ H' → Bzs W ρ' G' τs τ ds vs → itemsK k ds M' = some xs → WkAt W Fr ρ' G' τs M' τ H' J xs := by
  cases k with
  | zip =>
    rcases inv_zip h with ⟨xa, xb, rfl, e⟩ | ⟨a, a', xa, xb, rfl, e1, e2, e⟩
    · obtain ⟨x, y, rfl, b1, b2⟩ := b.two
      obtain ⟨p, va, rfl, ha, la, fa⟩ := look_tup r b1 rfl
      obtain ⟨p', vb, rfl, hb, lb, fb⟩ := look_tup r b2 rfl
      refine ⟨RZ.ItzT K p p', ⟨p, p', va, vb, rfl, .inr ⟨hK ▸ r.gh.sqt ha, hK ▸ r.gh.sqt hb, rfl⟩⟩, fun {ρ' G' τs M' τ H'} r' b' _ => ?_⟩
      obtain ⟨x', y', e', b1, b2⟩ := b'.two
      cases e'
      obtain ⟨q, va, e1, ha, la, fa⟩ := look_tup r' b1 rfl
      obtain ⟨q', vb, e2, hb, lb, fb⟩ := look_tup r' b2 rfl
      cases e1
      cases e2
      rw [e]
      exact wkat_zipT r' (hK ▸ r'.gh.sqt ha) (hK ▸ r'.gh.sqt hb) fa fb
    · obtain ⟨x, y, rfl, b1, b2⟩ := b.two
      obtain ⟨p, va, rfl, ha, la, fa⟩ := look_lst r b1 e1
      obtain ⟨p', vb, rfl, hb, lb, fb⟩ := look_lst r b2 e2
      refine ⟨Itz K p p', ⟨p, p', va, vb, rfl, .inl ⟨hK ▸ ha, hK ▸ hb, rfl⟩⟩, fun {ρ' G' τs M' τ H'} r' b' h' => ?_⟩
      obtain ⟨x', y', e', b1, b2⟩ := b'.two
      cases e'
      rcases inv_zip h' with ⟨ya, yb, e3, e4⟩ | ⟨c, c', ya, yb, e3, e4, e5, e6⟩
      · cases e3
        cases e1
      · cases e3
        obtain ⟨q, va, ee1, ha, la, fa⟩ := look_lst r' b1 e4
        obtain ⟨q', vb, ee2, hb, lb, fb⟩ := look_lst r' b2 e5
        cases ee1
        cases ee2
        rw [e6]
        exact wkat_zip r' (hK ▸ ha) (hK ▸ hb) fa fb
  | enu =>
    obtain ⟨a, xa, rfl, e1, e⟩ := inv_enu h
    obtain ⟨x, rfl, b1⟩ := b.one
    obtain ⟨p, va, rfl, ha, la, fa⟩ := look_lst r b1 e1
    refine ⟨Ite K p, ⟨p, va, rfl, hK ▸ ha, rfl⟩, fun {ρ' G' τs M' τ H'} r' b' h' => ?_⟩
    obtain ⟨x', e', b1⟩ := b'.one
    cases e'
    obtain ⟨c, ya, e3, e4, e5⟩ := inv_enu h'
    cases e3
    obtain ⟨q, va, ee1, ha, la, fa⟩ := look_lst r' b1 e4
    cases ee1
    rw [e5]
    exact wkat_enu r' (hK ▸ ha) fa
  | rev =>
    rcases inv_rev h with ⟨xa, rfl, e⟩ | ⟨a, xa, rfl, e1, e⟩
    · obtain ⟨x, rfl, b1⟩ := b.one
      obtain ⟨p, va, rfl, ha, la, fa⟩ := look_tup r b1 rfl
      refine ⟨RT.ItvT K p va.length, ⟨p, va, rfl, .inr ⟨hK ▸ r.gh.sqt ha, rfl⟩⟩, fun {ρ' G' τs M' τ H'} r' b' _ => ?_⟩
      obtain ⟨x', e', b1⟩ := b'.one
      cases e'
      have hl := fa.length
      obtain ⟨q, va, e1, ha, la, fa⟩ := look_tup r' b1 rfl
      cases e1
      rw [e]
      exact wkat_revT r' hl.symm (hK ▸ r'.gh.sqt ha) fa
    · obtain ⟨x, rfl, b1⟩ := b.one
      obtain ⟨p, va, rfl, ha, la, fa⟩ := look_lst r b1 e1
      refine ⟨Itv K p va.length, ⟨p, va, rfl, .inl ⟨hK ▸ ha, rfl⟩⟩, fun {ρ' G' τs M' τ H'} r' b' h' => ?_⟩
      obtain ⟨x', e', b1⟩ := b'.one
      cases e'
      rcases inv_rev h' with ⟨ya, e3, e4⟩ | ⟨c, ya, e3, e4, e5⟩
      · cases e3
        cases e1
      · cases e3
        have hl := fa.length
        obtain ⟨q, va, ee1, ha, la, fa⟩ := look_lst r' b1 e4
        cases ee1
        have hx : xa.length = ya.length := by rw [← List.length_reverse, ← e, e5, List.length_reverse]
        rw [e5]
        exact wkat_rev r' (by omega) (hK ▸ ha) fa
  | sgn =>
    obtain ⟨s, rfl, e⟩ := inv_sgn h
    obtain ⟨x, rfl, b1⟩ := b.one
    obtain ⟨rfl, hs⟩ := b1.str r
    refine ⟨Its (tx s), ⟨tx s, rfl, rfl⟩, fun {ρ' G' τs M' τ H'} r' b' _ => ?_⟩
    rw [e]
    exact wkat_sgn r' hs
theorem items_st {k : Ik} {ds : List VM.D} {M M' : Mem} {xs : List VM.D} (h : itemsK k ds M = some xs) (st : stills k ds xs M' = true) : itemsK k ds M' = some xs := by
  unfold stills at st
  rw [Bool.or_eq_true] at st
  rcases st with st | st
  · have dr : ∀ d ∈ ds, lstOf d M' = lstOf d M := fun d hd => by
      have := List.all_eq_true.mp st d hd
      cases d <;> first | rfl | cases this
    cases k with
    | zip =>
      rcases inv_zip h with ⟨xa, xb, rfl, e⟩ | ⟨a, a', xa, xb, rfl, e1, e2, e⟩
      · rw [e]; rfl
      · have f1 := dr a (by simp)
        have f2 := dr a' (by simp)
        rw [e1] at f1
        rw [e2] at f2
        cases a with
        | tup y => cases e1
        | _ => unfold itemsK; simp only [f1, f2]; rw [e]
    | enu =>
      obtain ⟨a, xa, rfl, e1, e⟩ := inv_enu h
      have f1 := dr a (by simp)
      rw [e1] at f1
      unfold itemsK
      simp only [f1, e, Option.map]
    | rev =>
      rcases inv_rev h with ⟨xa, rfl, e⟩ | ⟨a, xa, rfl, e1, e⟩
      · rw [e]; rfl
      · have f1 := dr a (by simp)
        rw [e1] at f1
        cases a with
        | tup y => cases e1
        | _ => unfold itemsK; simp only [f1, e, Option.map]
    | sgn =>
      obtain ⟨s, rfl, e⟩ := inv_sgn h
      rw [e]; rfl
  · split at st
    · rename_i ys e
      rw [e, sames_ok _ _ st]
    · cases st
end
section
variable {T : Tab} {Φ : Hot → Nat → List VM.D → Mem → Rs KD} {Γ : Tx} {nm : Nm} {n : Nat} {N : List Str} {sc : Scope} {hot : Hot} {xa : Option Addr} {WW : WX} {X : Cx} {W : Wd}
theorem Fzs.bz {ρ : List Addr} {G : Hp} {σs : List SV} {σ : L2.St} : ∀ {ds : List VM.D} {vs : List V}, Fzs W ρ G ds vs → Bzs W ρ G σs σ ds vs
  | [], _, h => by unfold Fzs at h; unfold Bzs; exact h
  | d :: ds, _, h => by
    unfold Fzs at h
    unfold Bzs
    obtain ⟨v, r, e, q, k⟩ := h
    exact ⟨v, r, e, .inl q, k.bz⟩
theorem s_fori (c : Cok T Φ Γ nm n N sc none xa WW X) (fl : FnL WW X) {k : Ik} {iter tg : Expr} {body : List Stmt} {pos : Pos} {ras : List SV → Mem → Rs (List VM.D)} {t : Tg} {rb : List SV → Mem → Sx} (hi : PIQ X tg iter (iK X.K k (LA (wd X nm xa) WW ras))) (hg : PG X tg (LG (wd X nm xa) t)) (hb : PSs X body (LS (wd X nm xa) WW rb))
    (hs : ∀ x, foldedSetIterable iter X.env x = pure x) :
    PS X (.For tg iter body [] pos) (LS (wd X nm xa) WW fun σ M => (ras σ M).on σ fun ds M => (match itemsK k ds M with
      | some xs => forL (stills k ds xs) (forF t rb) xs σ M
      | none => .stk)) := by
  refine PS.weak (ps_forQ fl.po c.calm hi hg hb hs) fun D σ H ⟨Fr, ρ, G, σs, M, r, q⟩ => ⟨Fr, ρ, G, σs, M, r, (AftS.on (RA := RRfs _) q).weaker ?_⟩
  rintro vs H1 ⟨ρ1, G1, M1, ds, hr1, hg1, r1, k1, q1⟩
  cases hx : itemsK k ds M1 with
  | none => rw [hx] at q1; exact q1.elim
  | some xs =>
    rw [hx] at q1
    obtain ⟨J, sj, wk⟩ := sj_of (K := X.K) rfl r1 k1.bz hx
    refine ⟨J, sj, for_read r1 ⟨fun {ρ' G' σs' M' σ' H'} hr hg r' hc => wk r' (Fzs.bz (k1.mono hr hg)) (items_st hx hc)⟩ q1⟩
theorem v_lci (c : Cok T Φ Γ nm n N sc none xa WW X) {k : Ik} {iter elt tg : Expr} {ifs : List Expr} {scope : Scope} {own' : List (Str × Nat)} {ras : List SV → Mem → Rs (List VM.D)} {t : Tg} {el : List SV → Mem → Rs (Option VM.D)}
    (hi : PIQ X tg iter (iK X.K k (LAb (wd X nm xa) WW ras))) (hb : BlkOk X.N X.env.scope scope own') (he : ∀ L, Frm X L → LcE X WW (wd X nm xa) L tg elt ifs scope t el) (hto : ∀ j ∈ t.is, j ∈ own'.map (·.2)) (hs : ∀ x, foldedSetIterable iter X.env x = pure x) {own : List Nat} (ho : own = own'.map (·.2)) :
    LcP X WW iter tg elt ifs scope own' (LK (wd X nm xa) WW fun σ M => if !noO own σ then .stk else (ras σ M).bind fun ds M => (match itemsK k ds M with
      | some xs => if xs.length < line then (lcL (stills k ds xs) (lcF own t σ el) xs M).bind fun ys M => okn (.lst ys) M else .stk
      | none => .stk)) := by
  obtain ⟨L, fr, hx⟩ := c.fx
  obtain ⟨hg, tt, te, eo, h2⟩ := he L fr
  refine ⟨_, _, tt, te, L, fr, hx, hi, hb, hg, fun σ s H C cl fp E k => (h2 σ s H C cl fp E k).1, fun σ s H C cl fp E k => (h2 σ s H C cl fp E k).2, hs, .inl ?_⟩
  intro σ H Q ⟨Fr, ρ, G, σs, M, r, q⟩
  dsimp only at q
  split at q
  · exact q.elim
  · rename_i hno
    have hno : noO own σs = true := by simpa using hno
    refine ⟨Fr, ρ, G, σs, M, r, (Aft.bind (RA := RRbs _) q).weaker ?_⟩
    rintro vs H1 ⟨ρ1, G1, M1, ds, hr1, hg1, r1, k1, q1⟩
    dsimp only at q1
    cases hx2 : itemsK k ds M1 with
    | none => rw [hx2] at q1; exact q1.elim
    | some xs =>
      rw [hx2] at q1
      dsimp only at q1
      split at q1
      · rename_i hl
        obtain ⟨J, sj, wk⟩ := sj_of (K := X.K) rfl r1 k1 hx2
        subst ho
        exact ⟨J, sj, lc_read r1 ⟨fun {ρ' G' M' H'} hr hg r' hc => wk r' (k1.mono hr hg) (items_st hx2 hc)⟩ hl (eo σ) hno hto q1⟩
      · exact q1.elim
end
end VM
/-! VML: comprehensions over a shared dict: it is locked while they run. -/
namespace VM
open PySem L2 PySem.Spec PyProof.Rows
section
variable {W : Wd} {WW : WX} {Fr : Hp} {ρ : List Addr} {G : Hp} {σs : List SV} {M : Mem} {σ : L2.St} {H : Hp} {j : Nat} {a : Addr} {ks : List Key} {ds : List VM.D} {kvs : List (L2.Key × V)} {od : Obj}
theorem Rel.lockc (r : Rel W Fr ρ G σs M σ H) (e : ρ[j]? = some a) (em : M[j]? = some (.dct ks ds)) (eh : H a = some (.dK kvs)) :
    Rel W (upd Fr a (.frz od (.dK kvs))) ρ G σs (M.set j (.dlk ks ds)) σ (upd H a (.frz od (.dK kvs))) := by
  obtain ⟨ho, h1, h2, h3, h4⟩ := r.mem j a _ e em
  have hj : j < M.length := (List.getElem?_eq_some_iff.mp em).1
  rw [eh] at h1
  cases h1
  obtain ⟨vs, e1, k1, z1⟩ := h2
  refine { gh := fun b o z => ?_, fh := fun b o z => ?_, gf := fun b o z => ?_, len := by rw [List.length_set]; exact r.len, mem := fun i b x g1 g2 => ?_, nd := r.nd, sl := r.sl, val := r.val, own := fun i x g => ?_, uniq := r.uniq }
  · rw [upd_ne (fun k => by rw [k, h3] at z; cases z)]; exact r.gh _ _ z
  · by_cases q : b = a
    · subst q; rw [upd_same] at z ⊢; exact z
    · rw [upd_ne q] at z ⊢; exact r.fh _ _ z
  · by_cases q : b = a
    · subst q; exact h3
    · rw [upd_ne q] at z; exact r.gf _ _ z
  · by_cases q : j = i
    · subst q
      rw [e] at g1
      cases g1
      rw [List.getElem?_set_self hj] at g2
      cases g2
      exact ⟨_, upd_same, ⟨od, vs, by cases e1; rfl, k1, z1⟩, h3, .inr rfl⟩
    · rw [List.getElem?_set_ne q] at g2
      obtain ⟨ho, b1, b2, b3, b4⟩ := r.mem i b x g1 g2
      have ne : b ≠ a := fun z => q (r.nd j i a e (z ▸ g1))
      exact ⟨ho, by rw [upd_ne ne]; exact b1, b2, b3, by rw [upd_ne ne]; exact b4⟩
  · obtain ⟨p, b1, n⟩ := r.own i x g
    obtain ⟨ho, c1, c2⟩ := n.at_
    have ne : p ≠ a := fun z => n.r (z ▸ List.mem_of_getElem? e)
    exact ⟨p, b1, ⟨ho, by rw [upd_ne ne]; exact c1, c2⟩, n.g, by rw [upd_ne ne]; exact n.f, n.r, n.l⟩
theorem Rel.unlockc (r : Rel W (upd Fr a (.frz od (.dK kvs))) ρ G σs M σ H) (f : Fr a = none) (e : ρ[j]? = some a) (em : M[j]? = some (.dlk ks ds)) :
    H a = some (.frz od (.dK kvs)) ∧ Rel W Fr ρ G σs (M.set j (.dct ks ds)) σ (upd H a (.dK kvs)) := by
  have hf : H a = some (.frz od (.dK kvs)) := r.fh _ _ upd_same
  obtain ⟨ho, h1, h2, h3, h4⟩ := r.mem j a _ e em
  have hj : j < M.length := (List.getElem?_eq_some_iff.mp em).1
  rw [hf] at h1
  cases h1
  obtain ⟨o', vs, e1, k1, z1⟩ := h2
  refine ⟨hf, { gh := fun b o z => ?_, fh := fun b o z => ?_, gf := fun b o z => ?_, len := by rw [List.length_set]; exact r.len, mem := fun i b x g1 g2 => ?_, nd := r.nd, sl := r.sl, val := r.val, own := fun i x g => ?_, uniq := r.uniq }⟩
  · rw [upd_ne (fun k => by rw [k, h3] at z; cases z)]; exact r.gh _ _ z
  · have q : b ≠ a := fun k => by rw [k, f] at z; cases z
    rw [upd_ne q]
    exact r.fh _ _ (by rw [upd_ne q]; exact z)
  · have q : b ≠ a := fun k => by rw [k, f] at z; cases z
    exact r.gf b o (by rw [upd_ne q]; exact z)
  · by_cases q : j = i
    · subst q
      rw [e] at g1
      cases g1
      rw [List.getElem?_set_self hj] at g2
      cases g2
      exact ⟨_, upd_same, ⟨vs, by cases e1; rfl, k1, z1⟩, h3, .inl f⟩
    · rw [List.getElem?_set_ne q] at g2
      obtain ⟨ho, b1, b2, b3, b4⟩ := r.mem i b x g1 g2
      have ne : b ≠ a := fun z => q (r.nd j i a e (z ▸ g1))
      exact ⟨ho, by rw [upd_ne ne]; exact b1, b2, b3, by rw [upd_ne ne] at b4; exact b4⟩
  · obtain ⟨p, b1, n⟩ := r.own i x g
    obtain ⟨ho, c1, c2⟩ := n.at_
    have ne : p ≠ a := fun z => n.r (z ▸ List.mem_of_getElem? e)
    exact ⟨p, b1, ⟨ho, by rw [upd_ne ne]; exact c1, c2⟩, n.g, by have := n.f; rw [upd_ne ne] at this; exact this, n.r, n.l⟩
theorem New.unlock {d : VM.D} {p : Addr} (n : New W (upd Fr a (.frz od (.dK kvs))) ρ G H d p) (e : ρ[j]? = some a) : New W Fr ρ G (upd H a (.dK kvs)) d p := by
  obtain ⟨ho, c1, c2⟩ := n.at_
  have ne : p ≠ a := fun z => n.r (z ▸ List.mem_of_getElem? e)
  exact ⟨⟨ho, by rw [upd_ne ne]; exact c1, c2⟩, n.g, by have := n.f; rw [upd_ne ne] at this; exact this, n.r, n.l⟩
theorem key_fz {k : Key} (h : OkK k) : Fz W ρ G (kD k) (kV (kx k)) := by
  cases k with
  | i n => exact rfl
  | s t => exact ⟨rfl, h⟩
theorem wks_keys {c : Mem → Bool} {vs : List V} (e : kvs = (ks.map kx).zip vs) (k1 : KsOk ks vs) : WkS W (upd Fr a (.frz od (.dK kvs))) ρ G σs σ (Itk a od kvs) (ks.map kD) c where
  at_ := fun {ρ' G' M H} hr hg r _ => by
    have hf : H a = some (.frz od (.dK kvs)) := r.fh _ _ upd_same
    have hl : kvs.length = ks.length := by rw [e, List.length_zip, List.length_map, k1.1, Nat.min_self]
    refine ⟨fun i hi => ?_, hf, by rw [List.length_map, hl]; exact Nat.le_refl _⟩
    rw [List.length_map] at hi
    refine ⟨⟨hf, by omega⟩, ?_⟩
    rintro x H' ⟨e1, k, v, e2, e3⟩
    subst e1 e3
    have : kx ks[i] = k := by
      rw [e, List.getElem?_zip_eq_some] at e2
      have := e2.1
      rw [List.getElem?_map, List.getElem?_eq_getElem hi] at this
      exact Option.some.inj this
    subst this
    rw [List.getElem_map]
    exact .same r (key_fz (k1.2 _ (List.getElem_mem hi)))
end
section
variable {T : Tab} {Φ : Hot → Nat → List VM.D → Mem → Rs KD} {Γ : Tx} {nm : Nm} {n : Nat} {N : List Str} {sc : Scope} {xa : Option Addr} {WW : WX} {X : Cx}
theorem lockM_ok {r : Rs KD} {M : Mem} {j : Nat} {ks : List Key} {vs : List VM.D} (h : lockM r M = some (j, ks, vs)) : M[j]? = some (.dct ks vs) := by
  unfold lockM at h
  split at h
  · split at h
    · rename_i e
      cases h
      rw [List.getD_eq_getElem?_getD] at e
      cases q : M[j]? with
      | none => rw [q] at e; cases e
      | some d => rw [q] at e; exact congrArg some e
    · cases h
  · cases h
theorem dlk_at {M : Mem} {j : Nat} {ks : List Key} {vs : List VM.D} (e : M.getD j .non = .dlk ks vs) : M[j]? = some (.dlk ks vs) := by
  rw [List.getD_eq_getElem?_getD] at e
  cases q : M[j]? with
  | none => rw [q] at e; cases e
  | some d => rw [q] at e; exact congrArg some e
theorem lockd_ok {M : Mem} {j : Nat} {ks : List Key} {vs : List VM.D} {d : VM.D} (h : lockd j ks vs d M = true) : d = .cell j ∧ ks.length < line := by
  unfold lockd at h
  split at h
  · simp only [decide_eq_true_eq, Bool.and_eq_true] at h
    exact ⟨by rw [h.1.1], h.1.2⟩
  · cases h
theorem v_lcd (c : Cok T Φ Γ nm n N sc none xa WW X) {iter elt tg : Expr} {ifs : List Expr} {scope : Scope} {own' : List (Str × Nat)} {ra : List SV → Mem → Rs KD} {t : Tg} {el : List SV → Mem → Rs (Option VM.D)}
    (ha : PE X iter (LK (wd X nm xa) WW ra)) (hb : BlkOk X.N X.env.scope scope own') (he : ∀ L, Frm X L → LcE X WW (wd X nm xa) L tg elt ifs scope t el) (hto : ∀ j ∈ t.is, j ∈ own'.map (·.2)) (hs : ∀ x, foldedSetIterable iter X.env x = pure x) {own : List Nat} (ho : own = own'.map (·.2)) :
    LcP X WW iter tg elt ifs scope own' (LK (wd X nm xa) WW fun σ M => if !noO own σ then .stk else (match lockM (ra σ M) M with
      | some (j, ks, vs) => ((ra σ (M.set j (.dlk ks vs))).bw.bind fun d M => if lockd j ks vs d M then lcL (fun _ => true) (lcF own t σ el) (ks.map kD) M else .stk).unl j ks vs
      | none => .stk)) := by
  obtain ⟨L, fr, hx⟩ := c.fx
  obtain ⟨hg, tt, te, eo, h2⟩ := he L fr
  refine ⟨_, _, tt, te, L, fr, hx, PIQ.calm c.mode.2.1 (pi_keys (pe_bw ha)), hb, hg, fun σ s H C cl fp E k => (h2 σ s H C cl fp E k).1, fun σ s H C cl fp E k => (h2 σ s H C cl fp E k).2, hs, .inr ?_⟩
  intro σ H Q ⟨Fr, ρ, G, σs, M, r, q⟩
  dsimp only at q
  split at q
  · exact q.elim
  · rename_i hno
    have hno : noO own σs = true := by simpa using hno
    subst ho
    cases hl : lockM (ra σs M) M with
    | none => rw [hl] at q; exact q.elim
    | some p =>
      obtain ⟨j, ks, vs⟩ := p
      rw [hl] at q
      dsimp only at q
      have em := lockM_ok hl
      have hj : j < M.length := (List.getElem?_eq_some_iff.mp em).1
      have hj' : j < ρ.length := by rw [← r.len]; exact hj
      have e := List.getElem?_eq_getElem hj'
      obtain ⟨hov, eh, cc, g0, f0⟩ := r.mem j _ _ e em
      have f1 := f0.resolve_right (fun z => nomatch z)
      obtain ⟨us, rfl, k1, z1⟩ := cc
      refine ⟨ρ[j], _, eh, trivial, fun od => ?_⟩
      have r' := r.lockc (od := od) e em eh
      refine ⟨_, ρ, G, σs, M.set j (.dlk ks vs), r', ?_⟩
      cases hb2 : (ra σs (M.set j (.dlk ks vs))).bw with
      | ex C M2 => rw [hb2] at q; exact q.elim
      | stk => rw [hb2] at q; exact q.elim
      | ok d M3 =>
        rw [hb2] at q
        simp only [Rs.bind] at q
        show Aft (wd X nm xa) WW _ (RRb (wd X nm xa)) ρ G σs σ ((ra σs (M.set j (.dlk ks vs))).bw) _
        rw [hb2]
        intro ρ1 G1 x H1 hr hg r1 k2
        split at q
        · rename_i hk
          obtain ⟨rfl, hlen⟩ := lockd_ok hk
          have k3 : Fz (wd X nm xa) ρ1 G1 (.cell j) x := k2.nob r1 (fun _ z => z)
          unfold Fz at k3
          obtain ⟨a', rfl, e'⟩ := k3
          have ea : a' = ρ[j] := by
            have := hr _ _ e
            rw [this] at e'
            exact (Option.some.inj e').symm
          subst ea
          refine ⟨_, od, rfl, .inl ⟨_, r1.fh _ _ upd_same, lc_read (Q := fun v H' => H' ρ[j] = some (.frz od (.dK ((ks.map kx).zip us))) ∧ Q v (upd H' ρ[j] (.dK ((ks.map kx).zip us)))) r1 (wks_keys (vs := us) (c := fun _ => true) rfl k1) (by rw [List.length_map]; exact hlen) (eo σ) hno hto ?_⟩⟩
          cases hL : lcL (fun _ => true) (lcF (own'.map (·.2)) t σs el) (ks.map kD) M3 with
          | ex C M4 => rw [hL] at q; exact q.elim
          | stk => rw [hL] at q; exact q.elim
          | ok ys M4 =>
            rw [hL] at q
            have q : Aft (wd X nm xa) WW Fr (RRk (wd X nm xa) Fr) ρ G σs σ (unlockM j ks vs ys M4) Q := q
            unfold unlockM at q
            split at q
            · rename_i ks' vs' eu
              split at q
              · rename_i hu
                simp only [decide_eq_true_eq, Bool.and_eq_true] at hu
                obtain ⟨rfl, hv⟩ := hu
                have := sames_ok _ _ hv
                subst this
                intro ρ2 G2 v H2 hr2 hg2 r2 k4
                obtain ⟨p, rfl, nw, no⟩ := k4
                have e2 := hr2 _ _ (hr _ _ e)
                obtain ⟨hf, r3⟩ := r2.unlockc f1 e2 (dlk_at eu)
                exact ⟨hf, q ρ2 G2 (.ref p) _ (hr.trans hr2) (hg.trans hg2) r3 ⟨p, rfl, nw.unlock e2, no⟩⟩
              · exact q.elim
            · exact q.elim
        · exact q.elim
end
end VM
/-! VMX: dict displays. -/
namespace VM
open PySem L2 PySem.Spec PyProof.Rows
def kysC : List Key → List (Option Expr) → Bool
  | [], es => es.isEmpty
  | k :: ks, es => (match es with
    | some (.Constant c _ _) :: es => constC (kD k) c && kysC ks es
    | _ => false)
theorem kysC_len : ∀ {ks : List Key} {es : List (Option Expr)}, kysC ks es = true → ks.length = es.length ∧ es.all (·.isSome) = true
  | [], es, h => by
    simp only [kysC, List.isEmpty_iff] at h
    subst h
    exact ⟨rfl, rfl⟩
  | k :: ks, es, h => by
    simp only [kysC] at h
    split at h
    · simp only [Bool.and_eq_true] at h
      obtain ⟨a, b⟩ := kysC_len h.2
      exact ⟨by simp [a], by simpa using b⟩
    · cases h
theorem kysC_ok : ∀ {ks : List Key} {es : List (Option Expr)}, kysC ks es = true → ∀ k ∈ ks, OkK k
  | [], _, _, k, hk => by cases hk
  | k0 :: ks, es, h, k, hk => by
    simp only [kysC] at h
    split at h
    · simp only [Bool.and_eq_true] at h
      rcases List.mem_cons.mp hk with e | hk
      · subst e
        have h1 := h.1
        cases k with
        | i n => exact trivial
        | s t =>
          unfold constC at h1
          simp only [kD] at h1
          split at h1
          all_goals first | (cases h1; done) | skip
          · rename_i e1; cases e1
          · rename_i e1 ; cases e1
          · rename_i e1; cases e1
          · rename_i e1
            cases e1
            simp only [Bool.and_eq_true, decide_eq_true_eq, List.all_eq_true] at h1
            exact ⟨h1.2.1, fun c hc => by simpa using h1.2.2 c hc⟩
      · exact kysC_ok h.2 k hk
    · cases h
theorem zip_kv : ∀ {ks : List Key} {vs : List V}, (((ks.map kx).zip vs).map fun kv => (kV kv.1, kv.2)) = (ks.map fun k => kV (kx k)).zip vs
  | [], _ => rfl
  | k :: ks, [] => rfl
  | k :: ks, v :: vs => by
    show (kV (kx k), v) :: (((ks.map kx).zip vs).map fun kv => (kV kv.1, kv.2)) = (kV (kx k), v) :: _
    rw [zip_kv]; rfl
section
variable {T : Tab} {Φ : Hot → Nat → List VM.D → Mem → Rs KD} {Γ : Tx} {nm : Nm} {n : Nat} {N : List Str} {sc : Scope} {hot : Hot} {xa : Option Addr} {WW : WX} {X : Cx} {W : Wd}
theorem pe_key {k : Key} {c : Const} {j : Nat} {p : Pos} (h : constC (kD k) c = true) : PE X (.Constant c j p) (tC (kV (kx k))) := by
  cases k with
  | i n =>
    unfold constC at h
    simp only [kD] at h
    split at h
    all_goals first | (cases h; done) | (rename_i e; cases e; done) | skip
    rename_i a b e
    cases e
    have := of_decide_eq_true h
    subst this
    exact pe_int
  | s t =>
    unfold constC at h
    simp only [kD] at h
    split at h
    all_goals first | (cases h; done) | (rename_i e; cases e; done) | skip
    rename_i a b e
    cases e
    simp only [decide_eq_true_eq, Bool.and_eq_true] at h
    rw [h.1]
    exact pe_str
theorem pps_of {pos : Pos} : ∀ {as : E} {es : List Expr} {ks : List Key} {keys : List (Option Expr)}, Ves T Φ nm hot X xa WW as es → kysC ks keys = true → keys.length = es.length →
    ∃ trs, PPs X pos keys es trs ∧ ∀ (Fr : Hp) (ρ : List Addr) (G : Hp) (σs : List SV) (M : Mem) (σ : L2.St) (H : Hp) (Q : List V → Hp → Prop), Rel (wd X nm xa) Fr ρ G σs M σ H → Aft (wd X nm xa) WW Fr (RRfs (wd X nm xa)) ρ G σs σ (evs T (Φ hot) hot as σs M) Q →
      ∀ P : List (V × V) → Hp → Prop, (∀ vs H3, vs.length = ks.length → Q vs H3 → P ((ks.map fun k => kV (kx k)).zip vs) H3) → tPairs trs σ H P
  | as, [], ks, keys, h, hk, hl => by
    cases h
    have : keys = [] := List.length_eq_zero_iff.mp hl
    subst this
    obtain ⟨e, _⟩ := kysC_len hk
    have : ks = [] := List.length_eq_zero_iff.mp e
    subst this
    refine ⟨[], pps_nil, fun Fr ρ G σs M σ H Q r q P hP => ?_⟩
    simp only [evs] at q
    exact hP [] H rfl (q ρ G [] H (Rle.refl _) (Hle.refl _) r .nil)
  | as, e :: es, ks, keys, h, hk, hl => by
    cases h with
    | @cons a as _ _ h1 h2 =>
      cases ks with
      | nil =>
        obtain ⟨e, _⟩ := kysC_len hk
        rw [← e] at hl
        cases hl
      | cons k ks =>
        simp only [kysC] at hk
        split at hk
        · rename_i c j p keys
          simp only [Bool.and_eq_true] at hk
          obtain ⟨trs, hp, hq⟩ := pps_of (pos := pos) (es := es) h2 hk.2 (by simpa using hl)
          refine ⟨_, pps_cons (pe_key hk.1) (pe_fz h1) hp, fun Fr ρ G σs M σ H Q r q P hP => ?_⟩
          simp only [evs] at q
          refine ⟨Fr, ρ, G, σs, M, r, (Aft.bind (RA := RRf _) q).weaker ?_⟩
          rintro v H1 ⟨ρ1, G1, M1, d, hr1, hg1, r1, k1, q1⟩
          refine hq Fr ρ1 G1 σs M1 σ H1 (fun vs H2 => Q (v :: vs) H2) r1 ((Aft.bind (RA := RRfs _) q1).weaker fun vs H2 ⟨ρ2, G2, M2, ds, hr2, hg2, r2, k2, q2⟩ => q2 ρ2 G2 (v :: vs) H2 (Rle.refl _) (Hle.refl _) r2 (.cons (k1.mono hr2 hg2) k2)) _ fun vs H3 e2 e3 => ?_
          exact hP (v :: vs) H3 (by simp [e2]) e3
        · cases hk
theorem v_dsp (c : Cok T Φ Γ nm n N sc none xa WW X) {as : E} {ks : List Key} {keys : List (Option Expr)} {es : List Expr} {pos : Pos} (hv : Ves T Φ nm none X xa WW as es) (hk : kysC ks keys = true) (hl : keys.length = es.length) (h0 : keys ≠ []) (h15 : keys.length ≤ 15) :
    PE X (.Dict keys es pos) (LK (wd X nm xa) WW fun σ M => (evs T (Φ none) none as σ M).bind fun ds M => if ks.length = ds.length then okn (.dct (mergeD [] [] ks ds).1 (mergeD [] [] ks ds).2) M else .stk) := by
  obtain ⟨trs, hp, hq⟩ := pps_of (pos := pos) hv hk hl
  obtain ⟨kl, ka⟩ := kysC_len hk
  refine PE.weak (pe_disp hp ka hl h0 h15) fun σ H Q ⟨Fr, ρ, G, σs, M, r, q⟩ => ?_
  intro p hn
  have gp := r.none_g hn
  have fp := r.none_f hn
  have r1 : Rel (wd X nm xa) (upd Fr p (.dK [])) ρ G σs M σ (upd H p (.dK [])) := (r.push hn).guard upd_same gp (r.none_r hn) (r.noOwn hn)
  have le : Hle Fr (upd Fr p (.dK [])) := upd_le fp
  have back : ∀ {ρ' : List Addr} {G' : Hp} {M' : Mem} {H' : Hp}, Rle ρ ρ' → Hle G G' → Rel (wd X nm xa) (upd Fr p (.dK [])) ρ' G' σs M' σ H' → Rel (wd X nm xa) Fr ρ' G' σs M' σ H' := fun {ρ' G' M' H'} hr hg r' => r.outof (own := []) r' hr hg le rfl (fun _ _ => rfl) (fun _ _ => rfl)
  refine hq _ ρ G σs M σ _ (fun vs H2 => H2 p = some (.dK []) ∧ (vs.length = ks.length → Q (.ref p) (upd H2 p (.dK (mergeK [] ((ks.map kx).zip vs)))))) r1 ?_ _ fun vs H3 e2 ⟨e3, e4⟩ => ⟨e3, _, zip_kv.symm, ?_, e4 e2⟩
  · dsimp only at q
    cases e : evs T (Φ none) none as σs M with
    | ok ds M1 =>
      rw [e] at q
      intro ρ' G' vs H2 hr hg r2 k2
      refine ⟨r2.fh _ _ upd_same, fun hlen => ?_⟩
      rw [rs_ok, if_pos (by rw [k2.length]; exact hlen.symm)] at q
      obtain ⟨ws, f1, f2, f3⟩ := mergeD_val (W := wd X nm xa) (ρ := ρ') (G := G') (ks := []) (ds := []) (vs := []) ⟨hlen.symm, kysC_ok hk⟩ k2 ⟨rfl, by simp⟩ .nil
      have f1 : mergeK [] ((ks.map kx).zip vs) = ((mergeD [] [] ks ds).1.map kx).zip ws := f1
      rw [f1]
      have gp' : G' p = none := r2.gf p _ upd_same
      have np : p ∉ ρ' := fun hm => by
        obtain ⟨j, hj, ej⟩ := List.getElem_of_mem hm
        have hm' : j < M1.length := by rw [r2.len]; exact hj
        obtain ⟨_, b1, b2, _, h4⟩ := r2.mem j p M1[j] (by rw [List.getElem?_eq_getElem hj, ej]) (List.getElem?_eq_getElem hm')
        rw [upd_same] at h4
        rcases h4 with h4 | h4
        · cases h4
        · rw [r2.fh _ _ upd_same] at b1
          cases b1
          exact dlk_frz h4 b2 (fun _ _ z => nomatch z)
      have no : ∀ j, ¬ Own σs σ j p := fun j ⟨d, e1, e2⟩ => by
        obtain ⟨p', e3, nw⟩ := r2.own j d e1
        rw [e2] at e3
        cases e3
        have := nw.f
        rw [upd_same] at this
        cases this
      have rb := back hr hg r2
      exact q ρ' G' (.ref p) _ hr hg (rb.poke gp' fp np no) ⟨p, rfl, ⟨⟨_, upd_same, ws, rfl, f2, f3⟩, gp', fp, np, rfl⟩, no⟩
    | ex C M1 =>
      rw [e] at q
      exact fun ρ' G' H' h1 h2 h3 => q ρ' G' H' h1 h2 (back h1 h2 h3)
    | stk => rw [e] at q; exact q
  · rw [List.length_zip, List.length_map]
    omega
end
end VM
/-! VMT: texts: the methods of a text, str(..), f-strings. -/
namespace VM
open PySem L2 PySem.Spec PyProof.Rows

theorem tl_tx (s : List Nat) : TL.tl (tx s) = s := rfl
theorem tx_tl (x : Str) : tx (TL.tl x) = x := TL.mk_tl x
theorem joinS_eq (S : List Nat) : ∀ ps : List (List Nat), TL.joinL S ps = joinS S ps
  | [] => rfl
  | [_] => rfl
  | p :: q :: r => by
    show p ++ (S ++ TL.joinL S (q :: r)) = p ++ (S ++ joinS S (q :: r))
    rw [joinS_eq S (q :: r)]
theorem tx_join (a : List Nat) (ps : List (List Nat)) : Txt.join (tx a) (ps.map tx) = tx (joinS a ps) := by
  refine TL.ext_tl ?_
  rw [TL.join_eq, TL.tl_join, tl_tx, List.map_map, tl_tx, joinS_eq]
  have : (TL.tl ∘ tx) = id := by funext s; rfl
  rw [this, List.map_id]
theorem pre_one (c x : Nat) (r : List Nat) : TL.pre [c] (x :: r) = decide (x = c) := by
  unfold TL.pre
  show ([x] == [c]) = decide (x = c)
  by_cases h : x = c
  · subst h; simp
  · simp [h]
theorem cut1_eq (c : Nat) : ∀ (l acc : List Nat), TL.spl [c] 0 acc l = cut1 c acc l
  | [], acc => TL.spl_nil _ _ _
  | x :: r, acc => by
    unfold cut1
    by_cases h : x = c
    · rw [if_pos h, TL.spl_hit (by rw [pre_one]; simpa using h)]
      show acc :: TL.spl [c] 0 [] r = _
      rw [cut1_eq c r []]
    · rw [if_neg h, TL.spl_miss (by rw [pre_one]; simpa using h), cut1_eq c r _]
theorem cutAt_eq (S : List Nat) : ∀ (l : List Nat) (k : Nat) (acc : List Nat), TL.spl S k acc l = cutAt S k acc l
  | [], k, acc => by rw [TL.spl_nil]; cases k <;> rfl
  | x :: r, 0, acc => by
    unfold cutAt
    by_cases h : ((x :: r).take S.length == S) = true
    · rw [if_pos h, TL.spl_hit h, cutAt_eq S r]
    · rw [if_neg h, TL.spl_miss (by simpa [TL.pre] using h), cutAt_eq S r]
  | x :: r, k + 1, acc => by
    unfold cutAt
    exact cutAt_eq S r k acc
theorem cutW_eq (S a : List Nat) : TL.spl S 0 [] a = cutW S a := by
  unfold cutW
  split
  · exact cut1_eq _ _ _
  · exact cutAt_eq _ _ _ _
theorem par1_eq (c : Nat) : ∀ (l acc : List Nat), TL.par [c] acc l = par1 c acc l
  | [], acc => rfl
  | x :: r, acc => by
    unfold par1
    by_cases h : x = c
    · rw [if_pos h, TL.par_hit (by rw [pre_one]; simpa using h)]
      rfl
    · rw [if_neg h, TL.par_miss (by rw [pre_one]; simpa using h), par1_eq c r _]
theorem tx_split {S : List Nat} (a : List Nat) (h0 : S.isEmpty = false) (hc : S.all (fun c => decide (c < 256)) = true) : Txt.split (tx a) (tx S) = (cutW S a).map tx := by
  refine TL.map_tl_inj ?_
  rw [TL.split_spl (tx a) (tx S) (by rw [tl_tx]; intro z; rw [z] at h0; cases h0) (TL.kind_ok (by simpa [tx] using hc)), tl_tx, tl_tx, cutW_eq, List.map_map]
  have : (TL.tl ∘ tx) = id := by funext s; rfl
  rw [this, List.map_id]
theorem tx_part {c : Nat} (a : List Nat) : Txt.partition (tx a) (tx [c]) = (match par1 c [] a with | some (l, r) => (tx l, tx [c], tx r) | none => (tx a, tx [], tx [])) := by
  rw [TL.partition_par (tx a) (tx [c]) (by rw [tl_tx]; simp), tl_tx, tl_tx, par1_eq]
  cases par1 c [] a with
  | none => rfl
  | some p => rfl
theorem tx_sw (a b : List Nat) : Txt.startswith (tx a) (tx b) = b.isPrefixOf a := by
  unfold Txt.startswith
  rw [PySem.StrLaws.subAt_eq, tx_len, tx_len]
  show (decide (0 + b.length ≤ a.length) && ((a.drop 0).take b.length == b)) = _
  rw [List.drop_zero, Nat.zero_add]
  by_cases h : b <+: a
  · have h1 : a.take b.length = b := (List.prefix_iff_eq_take.mp h).symm
    have h2 := h.length_le
    rw [h1, List.isPrefixOf_iff_prefix.mpr h]
    simp [h2]
  · have h1 : b.isPrefixOf a = false := by
      cases e : b.isPrefixOf a with
      | false => rfl
      | true => exact absurd (List.isPrefixOf_iff_prefix.mp e) h
    rw [h1]
    have h3 : ¬ a.take b.length = b := fun e => h (List.prefix_iff_eq_take.mpr e.symm)
    simp [h3]
theorem tx_padR (a : List Nat) (i : Int) : Txt.ljust (tx a) i = tx (a ++ List.replicate (padN a.length i) 32) := by
  unfold Txt.ljust padN
  rw [tx_len]
  split
  · rename_i h
    have : i.toNat - a.length = 0 := by omega
    rw [this]; simp
  · refine TL.ext_tl ?_
    show (Builtin.Str.padded (tx a) 0 (i.toNat - a.length) 32).cps.toList = _
    rw [PyProof.Rows.padded_list]
    rfl
theorem tx_padL (a : List Nat) (i : Int) : Txt.rjust (tx a) i = tx (List.replicate (padN a.length i) 32 ++ a) := by
  unfold Txt.rjust padN
  rw [tx_len]
  split
  · rename_i h
    have : i.toNat - a.length = 0 := by omega
    rw [this]; simp
  · refine TL.ext_tl ?_
    show (Builtin.Str.padded (tx a) (i.toNat - a.length) 0 32).cps.toList = _
    rw [PyProof.Rows.padded_list]
    simp [tl_tx, tx]
theorem tx_zf (a : List Nat) (i : Int) (h : signed a = false) : Txt.zfill (tx a) i = tx (List.replicate (padN a.length i) 48 ++ a) := by
  unfold Txt.zfill padN
  rw [tx_len]
  split
  · rename_i h
    have : i.toNat - a.length = 0 := by omega
    rw [this]; simp
  · refine TL.ext_tl ?_
    show (PySem.zfilled (tx a) (i.toNat - a.length)).cps.toList = _
    have e : PySem.zfilled (tx a) (i.toNat - a.length) = Builtin.Str.padded (tx a) (i.toNat - a.length) 0 48 := by
      unfold PySem.zfilled
      have e1 : (tx a).cps[0]? = a[0]? := by simp [tx]
      rw [e1]
      cases a with
      | nil => rfl
      | cons x r =>
        show (match some x with | some 43 | some 45 => _ | _ => _) = _
        split
        · rename_i e; cases e; cases h
        · rename_i e; cases e; cases h
        · rfl
    rw [e, PyProof.Rows.padded_list]
    simp [tl_tx, tx]
theorem dropWhile_eq {α : Type} (p : α → Bool) : ∀ l : List α, l.dropWhile p = l.drop (l.takeWhile p).length
  | [] => rfl
  | a :: r => by
    rw [List.dropWhile_cons, List.takeWhile_cons]
    cases p a with
    | true => simpa using dropWhile_eq p r
    | false => rfl
theorem tx_rst (a b : List Nat) : Txt.rstripChars (tx a) (tx b) = tx (a.reverse.dropWhile fun x => b.contains x).reverse := by
  refine TL.ext_tl ?_
  unfold Txt.rstripChars
  rw [PyProof.Rows.stripBy_eq, TL.tl_strSub]
  show ((a.drop 0).take ((tx a).length - ((a.drop 0).reverse.takeWhile fun c => (tx b).cps.contains c).length - 0)) = _
  have e : (fun c => (tx b).cps.contains c) = fun x => b.contains x := by funext c; simp [tx]
  rw [List.drop_zero, e, Nat.sub_zero, tx_len, tl_tx, dropWhile_eq, List.reverse_drop, List.reverse_reverse, List.length_reverse]
theorem tx_num (n : Nat) : (Str.ofString (toString ((n : Nat) : Int))) = tx (numS n) := TL.ext_tl (PySem.W.KIN.signs_num n)
theorem toI (i : Int) : (toString i : Str) = Str.ofString (toString i : String) := rfl
theorem tx_int : ∀ i : Int, (toString i : Str) = tx (intS i)
  | .ofNat n => by
    rw [toI]
    have e : intS (Int.ofNat n) = numS n := by
      unfold intS
      rw [if_neg (by simp)]; rfl
    rw [e]
    exact tx_num n
  | .negSucc n => by
    rw [toI]
    have e : intS (Int.negSucc n) = 45 :: numS (n + 1) := by
      unfold intS
      rw [if_pos (Int.negSucc_lt_zero n)]; rfl
    rw [e]
    refine TL.ext_tl ?_
    show (Str.ofString ("-" ++ Nat.repr (n + 1))).cps.toList = _
    rw [PyProof.Rows.signs_ofString, String.toList_append, List.map_append]
    show 45 :: ((Nat.repr (n + 1)).toList.map Char.toNat) = 45 :: numS (n + 1)
    rw [Nat.toList_repr]
    rfl
theorem dig_char {d : Nat} (h : d < 10) : 48 ≤ (Nat.digitChar d).toNat ∧ (Nat.digitChar d).toNat ≤ 57 := by
  have : d = 0 ∨ d = 1 ∨ d = 2 ∨ d = 3 ∨ d = 4 ∨ d = 5 ∨ d = 6 ∨ d = 7 ∨ d = 8 ∨ d = 9 := by omega
  rcases this with rfl | rfl | rfl | rfl | rfl | rfl | rfl | rfl | rfl | rfl <;> decide
theorem numS_lt {n : Nat} (h : n < 10) : numS n = [(Nat.digitChar n).toNat] := by unfold numS; rw [Nat.toDigits_of_lt_base h]; rfl
theorem numS_ge {n : Nat} (h : ¬ n < 10) : numS n = numS (n / 10) ++ [(Nat.digitChar (n % 10)).toNat] := by
  have hm : n % 10 < 10 := Nat.mod_lt n (by decide)
  have t := Nat.toDigits_append_toDigits (b := 10) (n := n / 10) (d := n % 10) (by decide) (by omega) hm
  rw [Nat.div_add_mod] at t
  unfold numS
  rw [← t, List.map_append, Nat.toDigits_of_lt_base hm]
  rfl
theorem numS_dig (n : Nat) : ∀ c ∈ numS n, 48 ≤ c ∧ c ≤ 57 := by
  induction n using Nat.strongRecOn with
  | _ n ih =>
    by_cases h : n < 10
    · rw [numS_lt h]
      intro c hc
      rw [List.mem_singleton.mp hc]
      exact dig_char h
    · rw [numS_ge h]
      intro c hc
      rcases List.mem_append.mp hc with hc | hc
      · exact ih (n / 10) (by omega) c hc
      · rw [List.mem_singleton.mp hc]
        exact dig_char (Nat.mod_lt n (by decide))
theorem numS_len : ∀ (k n : Nat), n < 10 ^ (k + 1) → (numS n).length ≤ k + 1
  | k, n, h => by
    by_cases h1 : n < 10
    · rw [numS_lt h1]; simp
    · cases k with
      | zero => exact absurd (by simpa using h) h1
      | succ k =>
        rw [numS_ge h1, List.length_append]
        have := numS_len k (n / 10) (by rw [Nat.pow_succ] at h; omega)
        simp only [List.length_cons, List.length_nil]
        omega
theorem intS_ok {i : Int} (h : i.natAbs < 10 ^ 200) : OkS (intS i) ∧ (intS i).length ≤ 201 := by
  have l := numS_len 199 i.natAbs h
  have e : line = 2 ^ 24 := rfl
  have dg : ∀ c ∈ numS i.natAbs, c < 1114112 := fun c hc => by have := numS_dig _ c hc; omega
  unfold intS
  split
  · refine ⟨⟨by simp only [List.length_cons]; omega, fun c hc => ?_⟩, by simp only [List.length_cons]; omega⟩
    rcases List.mem_cons.mp hc with e | hc
    · rw [e]; decide
    · exact dg c hc
  · exact ⟨⟨by omega, dg⟩, by omega⟩
theorem log_ok {i : Int} (h : i.natAbs < 10 ^ 200) : i.natAbs.log2 < 1920 := by
  by_cases z : i.natAbs = 0
  · rw [z]; decide
  · exact (Nat.log2_lt z).mpr (Nat.lt_of_lt_of_le h (by decide +kernel))
section
variable {T : Tab} {Φ : Hot → Nat → List VM.D → Mem → Rs KD} {Γ : Tx} {nm : Nm} {n : Nat} {N : List Str} {sc : Scope} {hot : Hot} {xa : Option Addr} {WW : WX} {X : Cx} {W : Wd}
/-- str(x) -/
theorem c_str : CallR X (.type "str") (rC W WW (prim .str1)) := by
  intro pins s σ H xs us Q I rx ⟨Fr, ρ, G, σs, M, τ, ds, r, hx, q⟩
  change Aft W WW Fr (RRk W Fr) ρ G σs τ (ppStr ds M) Q at q
  unfold ppStr at q
  split at q
  · rename_i d
    obtain ⟨x, ex, bx⟩ := hx.one
    cases e : txtOf d with
    | none => rw [e] at q; exact q.elim
    | some t =>
      rw [e] at q
      unfold txtOf at e
      split at e
      · cases e
        obtain ⟨ev, oa⟩ := bx.str r
        exact SkE.call_str_str pins s σ H xs us Q I rx ⟨tx t, by rw [ex, ev], q.one r (.mkS oa)⟩
      · rename_i i
        split at e
        · rename_i h
          cases e
          exact call_str_int pins s σ H xs us Q I rx ⟨i, by rw [ex, bx.int r], log_ok h, by rw [tx_int]; exact q.one r (.mkS (intS_ok h).1)⟩
        · cases e
      · cases e
  · exact q.elim
/-! ### methods of a text -/
theorem strs_fz {ρ : List Addr} {G : Hp} : ∀ {xs : List VM.D} {vs : List V} {ps : List (List Nat)}, Fzs W ρ G xs vs → strsOf xs = some ps → vs = (ps.map tx).map V.str ∧ ∀ p ∈ ps, OkS p
  | [], vs, ps, f, e => by
    unfold Fzs at f
    cases e
    exact ⟨f, by simp⟩
  | x :: xs, vs, ps, f, e => by
    unfold Fzs at f
    obtain ⟨v, r, rfl, q, f⟩ := f
    cases x with
    | str t =>
      simp only [strsOf, Option.map_eq_some_iff] at e
      obtain ⟨qs, e1, e2⟩ := e
      subst e2
      obtain ⟨h1, h2⟩ := strs_fz f e1
      have q : v = .str (tx t) ∧ OkS t := by unfold Fz at q; exact q
      exact ⟨by rw [h1, q.1]; rfl, fun p hp => (List.mem_cons.mp hp).elim (fun z => z ▸ q.2) (h2 p)⟩
    | _ => simp [strsOf] at e
theorem strs_back {ρ : List Addr} {G : Hp} : ∀ {ps : List (List Nat)}, (∀ p ∈ ps, OkS p) → Fzs W ρ G (ps.map .str) ((ps.map tx).map V.str)
  | [], _ => .nil
  | p :: ps, h => .cons (.mkS (h p List.mem_cons_self)) (strs_back fun q hq => h q (List.mem_cons_of_mem _ hq))
theorem joinS_ok {a : List Nat} (ha : OkS a) : ∀ {ps : List (List Nat)}, (∀ p ∈ ps, OkS p) → (∀ c ∈ joinS a ps, c < 1114112) ∧ (joinS a ps).length ≤ (ps.map List.length).sum + ps.length * a.length
  | [], _ => ⟨by simp [joinS], by simp [joinS]⟩
  | [p], h => ⟨(h p (by simp)).2, by simp [joinS]⟩
  | p :: q :: r, h => by
    obtain ⟨h1, h2⟩ := joinS_ok ha (ps := q :: r) fun x hx => h x (List.mem_cons_of_mem _ hx)
    unfold joinS
    refine ⟨fun c hc => ?_, ?_⟩
    · rcases List.mem_append.mp hc with hc | hc
      · exact (h p (by simp)).2 c hc
      · rcases List.mem_append.mp hc with hc | hc
        · exact ha.2 c hc
        · exact h1 c hc
    · simp only [List.length_append, List.map_cons, List.sum_cons, List.length_cons, Nat.add_mul, Nat.one_mul] at h2 ⊢
      omega
theorem cut1_ok {c : Nat} {P : Nat → Prop} : ∀ {l acc : List Nat}, (∀ x ∈ l, P x) → (∀ x ∈ acc, P x) → (∀ p ∈ cut1 c acc l, (∀ x ∈ p, P x) ∧ p.length ≤ acc.length + l.length) ∧ (cut1 c acc l).length ≤ l.length + 1
  | [], acc, h, k => ⟨fun p hp => by rw [List.mem_singleton.mp hp]; exact ⟨k, by simp⟩, by simp [cut1]⟩
  | x :: r, acc, h, k => by
    unfold cut1
    split
    · obtain ⟨a, b⟩ := cut1_ok (c := c) (l := r) (acc := []) (fun y hy => h y (List.mem_cons_of_mem _ hy)) (by simp)
      refine ⟨fun p hp => ?_, by simp only [List.length_cons]; omega⟩
      rcases List.mem_cons.mp hp with e | hp
      · rw [e]; exact ⟨k, by simp⟩
      · obtain ⟨a1, a2⟩ := a p hp
        exact ⟨a1, by simp only [List.length_cons, List.length_nil] at a2 ⊢; omega⟩
    · obtain ⟨a, b⟩ := cut1_ok (c := c) (l := r) (acc := acc ++ [x]) (fun y hy => h y (List.mem_cons_of_mem _ hy)) (fun y hy => by
        rcases List.mem_append.mp hy with hy | hy
        · exact k y hy
        · rw [List.mem_singleton.mp hy]; exact h x List.mem_cons_self)
      refine ⟨fun p hp => ?_, by simp only [List.length_cons]; omega⟩
      obtain ⟨a1, a2⟩ := a p hp
      exact ⟨a1, by simp only [List.length_append, List.length_cons, List.length_nil] at a2 ⊢; omega⟩
theorem cutAt_ok {S : List Nat} {P : Nat → Prop} : ∀ {l : List Nat} {k : Nat} {acc : List Nat}, (∀ x ∈ l, P x) → (∀ x ∈ acc, P x) → (∀ p ∈ cutAt S k acc l, (∀ x ∈ p, P x) ∧ p.length ≤ acc.length + l.length) ∧ (cutAt S k acc l).length ≤ l.length + 1
  | [], n, acc, h, k => ⟨fun p hp => by
      have : p = acc := by cases n <;> simpa [cutAt] using hp
      rw [this]; exact ⟨k, by simp⟩, by cases n <;> simp [cutAt]⟩
  | x :: r, 0, acc, h, k => by
    unfold cutAt
    split
    · obtain ⟨a, b⟩ := cutAt_ok (S := S) (l := r) (k := S.length - 1) (acc := []) (fun y hy => h y (List.mem_cons_of_mem _ hy)) (by simp)
      refine ⟨fun p hp => ?_, by simp only [List.length_cons]; omega⟩
      rcases List.mem_cons.mp hp with e | hp
      · rw [e]; exact ⟨k, by simp⟩
      · obtain ⟨a1, a2⟩ := a p hp
        exact ⟨a1, by simp only [List.length_cons, List.length_nil] at a2 ⊢; omega⟩
    · obtain ⟨a, b⟩ := cutAt_ok (S := S) (l := r) (k := 0) (acc := acc ++ [x]) (fun y hy => h y (List.mem_cons_of_mem _ hy)) (fun y hy => by
        rcases List.mem_append.mp hy with hy | hy
        · exact k y hy
        · rw [List.mem_singleton.mp hy]; exact h x List.mem_cons_self)
      refine ⟨fun p hp => ?_, by simp only [List.length_cons]; omega⟩
      obtain ⟨a1, a2⟩ := a p hp
      exact ⟨a1, by simp only [List.length_append, List.length_cons, List.length_nil] at a2 ⊢; omega⟩
  | x :: r, n + 1, acc, h, k => by
    unfold cutAt
    obtain ⟨a, b⟩ := cutAt_ok (S := S) (l := r) (k := n) (acc := acc) (fun y hy => h y (List.mem_cons_of_mem _ hy)) k
    refine ⟨fun p hp => ?_, by simp only [List.length_cons]; omega⟩
    obtain ⟨a1, a2⟩ := a p hp
    exact ⟨a1, by simp only [List.length_cons]; omega⟩
theorem cutW_ok {S a : List Nat} (h : OkS a) (hl : a.length + 2 ≤ line) : (∀ p ∈ cutW S a, OkS p) ∧ (cutW S a).length < line := by
  have key : (∀ p ∈ cutW S a, (∀ x ∈ p, x < 1114112) ∧ p.length ≤ ([] : List Nat).length + a.length) ∧ (cutW S a).length ≤ a.length + 1 := by
    unfold cutW
    split
    · exact cut1_ok h.2 (by simp)
    · exact cutAt_ok h.2 (by simp)
  refine ⟨fun p hp => ?_, by omega⟩
  obtain ⟨a1, a2⟩ := key.1 p hp
  exact ⟨by have := h.1; simp only [List.length_nil] at a2; omega, a1⟩
theorem par1_ok {c : Nat} : ∀ {l acc : List Nat} {p q : List Nat}, par1 c acc l = some (p, q) → (∀ x ∈ p, x ∈ acc ∨ x ∈ l) ∧ (∀ x ∈ q, x ∈ l) ∧ p.length + q.length < acc.length + l.length
  | [], acc, p, q, e => by cases e
  | x :: r, acc, p, q, e => by
    unfold par1 at e
    split at e
    · cases e
      exact ⟨fun y hy => .inl hy, fun y hy => List.mem_cons_of_mem _ hy, by simp only [List.length_cons]; omega⟩
    · obtain ⟨a, b, c⟩ := par1_ok e
      refine ⟨fun y hy => ?_, fun y hy => List.mem_cons_of_mem _ (b y hy), by simp only [List.length_append, List.length_cons, List.length_nil] at c ⊢; omega⟩
      rcases a y hy with h | h
      · rcases List.mem_append.mp h with h | h
        · exact .inl h
        · rw [List.mem_singleton.mp h]; exact .inr List.mem_cons_self
      · exact .inr (List.mem_cons_of_mem _ h)
theorem pad_okI {i : Int} (h : i < 100000 ∧ -100000 < i) : PadOk i = true := by
  unfold PadOk
  have h1 : fitsSsize i = true := by unfold fitsSsize; simp; omega
  have h2 : Builtin.Str.tooLong i.toNat = false := by
    unfold Builtin.Str.tooLong
    rw [sizeLine_eq]
    simp
    omega
  rw [h1, h2]; rfl
theorem pad_len {a : List Nat} {i : Int} (ha : OkS a) (h : i < 100000 ∧ -100000 < i) : a.length + padN a.length i < line := by
  have := ha.1
  have e : line = 2 ^ 24 := rfl
  unfold padN
  omega
theorem ok_rep {n c : Nat} (hc : c < 1114112) : ∀ x ∈ List.replicate n c, x < 1114112 := fun x hx => by rw [(List.mem_replicate.mp hx).2]; exact hc
/-- a text's method, by values -/
def rTm (W : Wd) (WW : WX) (m : Tm) : V → List V → Hp → VK → Prop := fun x xs H Q => ∃ (Fr : Hp) (ρ : List Addr) (G : Hp) (σs : List SV) (M : Mem) (σ : L2.St) (a : List Nat) (d : VM.D) (y : V),
  Rel W Fr ρ G σs M σ H ∧ x = .str (tx a) ∧ OkS a ∧ xs = [y] ∧ Bz W ρ G σs σ d y ∧ Aft W WW Fr (RRk W Fr) ρ G σs σ (tmD m a [d] M) Q
theorem mt_join' (hK : W.K = X.K) : MtR X "str.join" (rTm W WW .join) := by
  intro pins s σ H x xs v us Q I rx rs ⟨Fr, ρ, G, σs, M, τ, a, d, y, r, ex, oa, exs, b, q⟩
  simp only [tmD] at q
  cases e1 : lstOf d M with
  | none => rw [e1] at q; exact q.elim
  | some ys =>
    rw [e1] at q
    simp only [Option.bind] at q
    cases e2 : strsOf ys with
    | none => rw [e2] at q; exact q.elim
    | some ps =>
      rw [e2] at q
      dsimp only at q
      split at q
      · rename_i hl
        obtain ⟨p, vs, ea, ha, la, fa⟩ := look_lst r b e1
        obtain ⟨ev, ok⟩ := strs_fz fa e2
        obtain ⟨j1, j2⟩ := joinS_ok oa ok
        refine mt_join pins s σ H x xs v us Q I rx rs ⟨tx a, p, ps.map tx, ex, by rw [exs, ea], .inl (by rw [← ev]; exact hK ▸ ha), ?_, ?_⟩
        · have : ((ps.map tx).map fun x => x.length) = ps.map List.length := by
            rw [List.map_map]; exact List.map_congr_left fun p _ => tx_len p
          rw [this, List.length_map, tx_len]
          have e : line = 16777216 := rfl
          omega
        · rw [tx_join]
          exact q.one r (.mkS ⟨by omega, j1⟩)
      · exact q.elim
theorem mt_split' : MtR X "str.split" (rTm W WW .split) := by
  intro pins s σ H x xs v us Q I rx rs ⟨Fr, ρ, G, σs, M, τ, a, d, y, r, ex, oa, exs, b, q⟩
  cases d with
  | str S =>
    simp only [tmD] at q
    split at q
    · rename_i h
      obtain ⟨h0, h1, h2⟩ := h
      obtain ⟨ey, oS⟩ := b.str r
      obtain ⟨k1, k2⟩ := cutW_ok (S := S) oa h2
      refine mt_split pins s σ H x xs v us Q I rx rs ⟨tx a, tx S, ex, by rw [exs, ey], ?_, by rw [tx_len, line_eq]; exact h2, fun p hp => ?_⟩
      · rw [tx_len]
        cases S with
        | nil => cases h0
        | cons _ _ => rfl
      · rw [tx_split a h0 h1]
        exact q.new r hp ⟨_, rfl, by rw [List.length_map]; exact k2, strs_back k1⟩
    · exact q.elim
  | _ => exact q.elim
theorem mt_part' : MtR X "str.partition" (rTm W WW .part) := by
  intro pins s σ H x xs v us Q I rx rs ⟨Fr, ρ, G, σs, M, τ, a, d, y, r, ex, oa, exs, b, q⟩
  have k3 : 3 < line := by decide
  have mk : ∀ {x y z : List Nat} {p : Addr}, OkS x → OkS y → OkS z → H p = none → Aft W WW Fr (RRk W Fr) ρ G σs τ (ok1 (.tup [.str x, .str y, .str z]) M) Q → Q (.ref p) (upd H p (.tup [.str (tx x), .str (tx y), .str (tx z)])) := fun {x y z p} h1 h2 h3 hp q => by
    refine q.new1 r hp ?_
    unfold Fz
    exact ⟨p, _, rfl, .of upd_same, k3, .cons (.mkS h1) (.cons (.mkS h2) (.cons (.mkS h3) .nil))⟩
  have e0 : OkS [] := ⟨by decide, fun c hc => by cases hc⟩
  cases d with
  | str S =>
    match S, q, b with
    | [c], q, b =>
      simp only [tmD] at q
      split at q
      · rename_i h
        obtain ⟨ey, oS⟩ := b.str r
        refine mt_partition pins s σ H x xs v us Q I rx rs ⟨tx a, tx [c], ex, by rw [exs, ey], rfl, by rw [tx_len, line_eq]; exact h.2, fun p hp => ?_⟩
        rw [tx_part]
        cases e : par1 c [] a with
        | none => rw [e] at q; exact mk oa e0 e0 hp q
        | some lr =>
          obtain ⟨l, r'⟩ := lr
          rw [e] at q
          obtain ⟨p1, p2, p3⟩ := par1_ok e
          have := oa.1
          simp only [List.length_nil] at p3
          refine mk ⟨by omega, fun x hx => ?_⟩ oS ⟨by omega, fun x hx => oa.2 x (p2 x hx)⟩ hp q
          rcases p1 x hx with h | h
          · cases h
          · exact oa.2 x h
      · exact q.elim
    | [], q, b => exact q.elim
    | _ :: _ :: _, q, b => exact q.elim
  | _ => exact q.elim
theorem mt_sw' : MtR X "str.startswith" (rTm W WW .sw) := by
  intro pins s σ H x xs v us Q I rx rs ⟨Fr, ρ, G, σs, M, τ, a, d, y, r, ex, oa, exs, b, q⟩
  cases d with
  | str S =>
    simp only [tmD] at q
    obtain ⟨ey, oS⟩ := b.str r
    refine mt_startswith pins s σ H x xs v us Q I rx rs ⟨tx a, tx S, ex, by rw [exs, ey], ?_⟩
    rw [tx_sw]
    exact q.one r rfl
  | _ => exact q.elim
theorem mt_rst' : MtR X "str.rstrip" (rTm W WW .rst) := by
  intro pins s σ H x xs v us Q I rx rs ⟨Fr, ρ, G, σs, M, τ, a, d, y, r, ex, oa, exs, b, q⟩
  cases d with
  | str S =>
    simp only [tmD] at q
    split at q
    · rename_i h
      obtain ⟨ey, oS⟩ := b.str r
      refine mt_rstripChars pins s σ H x xs v us Q I rx rs ⟨tx a, tx S, ex, by rw [exs, ey], by rw [tx_len, line_eq]; exact h, ?_⟩
      rw [tx_rst]
      refine q.one r (.mkS ⟨?_, fun c hc => oa.2 c ?_⟩)
      · rw [List.length_reverse]
        have := (List.dropWhile_suffix (l := a.reverse) (fun x => S.contains x)).length_le
        rw [List.length_reverse] at this
        have := oa.1
        omega
      · have := (List.dropWhile_suffix (l := a.reverse) (fun x => S.contains x)).subset (List.mem_reverse.mp hc)
        exact List.mem_reverse.mp this
    · exact q.elim
  | _ => exact q.elim
theorem mt_lj' : MtR X "str.ljust" (rTm W WW .lj) := by
  intro pins s σ H x xs v us Q I rx rs ⟨Fr, ρ, G, σs, M, τ, a, d, y, r, ex, oa, exs, b, q⟩
  cases d with
  | int i =>
    simp only [tmD] at q
    split at q
    · rename_i h
      refine mt_ljust pins s σ H x xs v us Q I rx rs ⟨tx a, i, ex, by rw [exs, b.int r], pad_okI h, ?_⟩
      rw [tx_padR]
      refine q.one r (.mkS ⟨by rw [List.length_append, List.length_replicate]; exact pad_len oa h, fun c hc => ?_⟩)
      exact (List.mem_append.mp hc).elim (oa.2 c) (ok_rep (by decide) c)
    · exact q.elim
  | _ => exact q.elim
theorem mt_rj' : MtR X "str.rjust" (rTm W WW .rj) := by
  intro pins s σ H x xs v us Q I rx rs ⟨Fr, ρ, G, σs, M, τ, a, d, y, r, ex, oa, exs, b, q⟩
  cases d with
  | int i =>
    simp only [tmD] at q
    split at q
    · rename_i h
      refine mt_rjust pins s σ H x xs v us Q I rx rs ⟨tx a, i, ex, by rw [exs, b.int r], pad_okI h, ?_⟩
      rw [tx_padL]
      refine q.one r (.mkS ⟨by rw [List.length_append, List.length_replicate, Nat.add_comm]; exact pad_len oa h, fun c hc => ?_⟩)
      exact (List.mem_append.mp hc).elim (ok_rep (by decide) c) (oa.2 c)
    · exact q.elim
  | _ => exact q.elim
theorem mt_zf' : MtR X "str.zfill" (rTm W WW .zf) := by
  intro pins s σ H x xs v us Q I rx rs ⟨Fr, ρ, G, σs, M, τ, a, d, y, r, ex, oa, exs, b, q⟩
  cases d with
  | int i =>
    simp only [tmD] at q
    split at q
    · rename_i h
      refine mt_zfill pins s σ H x xs v us Q I rx rs ⟨tx a, i, ex, by rw [exs, b.int r], pad_okI ⟨h.1, h.2.1⟩, ?_⟩
      rw [tx_zf a i h.2.2]
      refine q.one r (.mkS ⟨by rw [List.length_append, List.length_replicate, Nat.add_comm]; exact pad_len oa ⟨h.1, h.2.1⟩, fun c hc => ?_⟩)
      exact (List.mem_append.mp hc).elim (ok_rep (by decide) c) (oa.2 c)
    · exact q.elim
  | _ => exact q.elim
theorem v_tm {m : Tm} {o e : Expr} {ap cp : Pos} {ro re : List SV → Mem → Rs KD} (ho : PE X o (LK (wd X nm xa) WW ro)) (he : PE X e (LK (wd X nm xa) WW re)) (hc : noCall o = true) (hl : (ap.endLine == cp.line) = true) (hs : noStar e = true) :
    PE X (.Call (.Attribute o (pmS (.tm m)) ap) [e] [] cp) (LK (wd X nm xa) WW fun σ M => (ro σ M).bw.bind fun x M => if pmOk (.tm m) (deref M x) then (re σ M).bw.bind fun y M => pm (.tm m) x [y] M else .stk) := by
  have go : ∀ {id : String} {name : Str}, pmS (.tm m) = name → Slot "str" name id → typeOf (.builtin id) = pure (.type "method_descriptor") → MtR X id (rTm (wd X nm xa) WW m) → PE X (.Call (.Attribute o (pmS (.tm m)) ap) [e] [] cp) (LK (wd X nm xa) WW fun σ M => (ro σ M).bw.bind fun x M => if pmOk (.tm m) (deref M x) then (re σ M).bw.bind fun y M => pm (.tm m) x [y] M else .stk) := fun {id name} en slot ty rule => by
    rw [en]
    refine PE.weak (pe_m1 slot ty rule (pe_bw ho) (pe_bw he) (by rw [star_cons hs]; rfl) (base_ok hc) hl) fun σ H Q ⟨Fr, ρ, G, σs, M, r, q⟩ => ?_
    refine ⟨Fr, ρ, G, σs, M, r, (Aft.bind (RA := RRb _) q).weaker ?_⟩
    rintro x H1 ⟨ρ1, G1, M1, d, hr1, hg1, r1, k1, q1⟩
    dsimp only at q1
    split at q1
    · rename_i hd
      have l := r1.look k1
      cases e1 : deref M1 d with
      | str a =>
        rw [e1] at l
        have l : Fz (wd X nm xa) ρ1 G1 (.str a) x := l
        unfold Fz at l
        refine ⟨⟨tx a, l.1⟩, Fr, ρ1, G1, σs, M1, r1, (Aft.bind (RA := RRb _) q1).weaker ?_⟩
        rintro y H2 ⟨ρ2, G2, M2, k, hr2, hg2, r2, k2, q2⟩
        have hda : d = .str a := by
          cases d with
          | str b => exact e1
          | cell i =>
            exfalso
            have k1' : Fz (wd X nm xa) ρ1 G1 (.cell i) x := k1.nob r1 (fun _ z => z)
            unfold Fz at k1'
            rw [l.1] at k1'
            obtain ⟨p, ep, _⟩ := k1'
            cases ep
          | _ => cases e1
        subst hda
        exact ⟨Fr, ρ2, G2, σs, M2, σ, a, k, y, r2, l.1, l.2, rfl, k2, q2⟩
      | _ => rw [e1] at hd; cases hd
    · exact q1.elim
  cases m with
  | join => exact go rfl PySem.F.slot_str_join PySem.F.type_str_join (mt_join' rfl)
  | split => exact go rfl PySem.F.slot_str_split PySem.F.type_str_split mt_split'
  | part => exact go rfl PySem.F.slot_str_partition PySem.F.type_str_partition mt_part'
  | sw => exact go rfl PySem.F.slot_str_startswith PySem.F.type_str_startswith mt_sw'
  | rst => exact go rfl PySem.F.slot_str_rstrip PySem.F.type_str_rstrip mt_rst'
  | lj => exact go rfl PySem.F.slot_str_ljust PySem.F.type_str_ljust mt_lj'
  | rj => exact go rfl PySem.F.slot_str_rjust PySem.F.type_str_rjust mt_rj'
  | zf => exact go rfl PySem.F.slot_str_zfill PySem.F.type_str_zfill mt_zf'
end
end VM
/-! VMQ: sorted(set(xs)), len(set(xs)) of ints or texts. -/
namespace VM
open PySem L2 PySem.Spec PyProof.Rows
/-- what a member's key is -/
def kyV : Value → L2.Key
  | .int k _ => .inl k
  | .str x _ => .inr x
  | _ => .inl 0
def GoodM (P : Program) (w : World) (e : Int × Value) : Prop := (mixKind P w).is (kyV e.2) e.2 = true ∧ e.1 = (mixKind P w).hash (kyV e.2) ∧ e.2.scannable = true
def kyE (e : Int × Value) : L2.Key := kyV e.2
/-- the set of keys at a -/
def SetM (P : Program) (w : World) (h : Heap) (a : Addr) (ks : List L2.Key) : Prop :=
  ∃ o es ep t, h.get? a = some o ∧ o.ExactSet ∧ o.data = .set es ep t ∧ (∀ e ∈ es.toList, GoodM P w e) ∧ (es.toList.map kyE).Perm ks ∧ ks.Nodup ∧ es.size < scanBound ∧ t.fits es.size = true ∧ Ris t.place.toList ∧
    (w.params.followText "set-order" = true ∨ t.led = true)
section
variable {P : Program} {w : World} {h h' : Heap} {a : Addr} {ks : List L2.Key}
theorem SetM.at (R : SetM P w h a ks) (k : ∀ o, h.get? a = some o → h'.get? a = some o) : SetM P w h' a ks := by
  obtain ⟨o, es, ep, t, ho, r⟩ := R
  exact ⟨o, es, ep, t, k o ho, r⟩
theorem goodM_elems {l : List (Int × Value)} (g : ∀ e ∈ l, GoodM P w e) : ElemsOf (mixKind P w) l := fun e he => ⟨⟨_, (g e he).1, (g e he).2.1⟩, (g e he).2.2⟩
theorem goodM_is {e : Int × Value} (g : GoodM P w e) (k : L2.Key) : (mixKind P w).is k e.2 = true ↔ kyE e = k :=
  ⟨fun q => (mixKind P w).inj _ _ _ g.1 q, fun q => q ▸ g.1⟩
theorem goodM_mem {l : List (Int × Value)} (g : ∀ e ∈ l, GoodM P w e) (k : L2.Key) : k ∈ l.map kyE ↔ ∃ e ∈ l, (mixKind P w).is k e.2 = true := by
  rw [List.mem_map]
  constructor
  · rintro ⟨e, he, q⟩
    exact ⟨e, he, (goodM_is (g e he) k).2 q⟩
  · rintro ⟨e, he, q⟩
    exact ⟨e, he, (goodM_is (g e he) k).1 q⟩
open Classical in
/-- with one more -/
noncomputable def addK (ks : List L2.Key) (k : L2.Key) : List L2.Key := if k ∈ ks then ks else k :: ks
end
section
variable {P : Program} {w : World} {A : Around} {E : Value → Shared → Prop} {s : Shared} {a : Addr} {ks : List L2.Key}
theorem setM_tail {g : Bool → Sem Unit} (hg : ∀ (b : Bool) (s₁ : Shared) (Q' : Unit → Shared → Prop), Q' () s₁ → wpAny (model P w) A (g b) Q' E s₁)
    {o : Obj} {es : Array (Int × Value)} {ep : Nat} {t : SetTable} (ho : s.heap.get? a = some o) (hex : o.ExactSet) (hd : o.data = .set es ep t)
    {es1 : Array (Int × Value)} {t2 : SetTable} {ks' : List L2.Key} (g1 : ∀ e ∈ es1.toList, GoodM P w e) (pk : (es1.toList.map kyE).Perm ks') (nd1 : ks'.Nodup)
    (hb1 : es1.size < scanBound) (hf2 : t2.fits es1.size = true) (hr : Ris t2.place.toList) (hl : w.params.followText "set-order" = true ∨ t2.led = true) {wasDummy : Bool} {R : Option Bool → Shared → Prop}
    (hR : ∀ h', Heap.SameBut a s.heap h' → SetM P w h' a ks' → R (some true) { s with heap := h' }) :
    wpAny (model P w) A (do
        storeSet a es1 t2
        if (!wasDummy && t2.tooFull) = true then do
            g (relayAll t2 es1 (SetTable.grown es1.size)).2.2
            storeSet a (relayAll t2 es1 (SetTable.grown es1.size)).1 (relayAll t2 es1 (SetTable.grown es1.size)).2.1
            pure (some true)
          else pure (some true)) R E s := by
  refine wpAny_bind (wpAny_storeSet_of ho hd ?_ (fits_of_scanBound hb1))
  have ho1 := store_at (es' := es1) (t' := t2) ho hd
  have sb1 := Heap.SameBut.update s.heap a (Obj.putSet es1 t2)
  split
  · have pm := relayAll_perm t2 es1 (SetTable.grown es1.size)
    have hf3 := relayAll_fits t2 es1 (SetTable.grown es1.size)
    have hr3 := relayAll_ris t2 es1 (SetTable.grown es1.size)
    have hl3 := relayAll_led t2 es1 (SetTable.grown es1.size)
    generalize relayAll t2 es1 (SetTable.grown es1.size) = Z at pm hf3 hr3 hl3 ⊢
    obtain ⟨es2, t3, gave⟩ := Z
    dsimp only at pm hf3 hr3 hl3 ⊢
    have hsz : es2.size = es1.size := by rw [← Array.length_toList, pm.length_eq, Array.length_toList]
    have hb2 : es2.size < scanBound := by rw [hsz]; exact hb1
    refine wpAny_bind (hg _ _ _ ?_)
    refine wpAny_bind (wpAny_storeSet_of ho1 rfl ?_ (fits_of_scanBound hb2))
    have ho2 := store_at (es' := es2) (t' := t3) ho1 rfl
    refine wpAny_pure (hR _ (sb1.trans (Heap.SameBut.update _ a _)) ?_)
    exact ⟨_, es2, _, t3, ho2, hex, rfl, fun e he => g1 e (pm.mem_iff.mp he), (pm.map kyE).trans pk, nd1, hb2, hf3, hr3, hl.imp id fun z => by rw [hl3]; exact z⟩
  · exact wpAny_pure (hR _ sb1 ⟨_, es1, _, t2, ho1, hex, rfl, g1, pk, nd1, hb1, hf2, hr, hl⟩)
theorem setM_add {v : Value} {k : L2.Key} {Q : Bool → Shared → Prop} (R : SetM P w s.heap a ks) (room : ks.length + 1 < scanBound) (hkey : (mixKind P w).is k v = true) (hky : kyV v = k) (hsc : v.scannable = true)
    (hQ : ∀ (b : Bool) h', Heap.SameBut a s.heap h' → SetM P w h' a (addK ks k) → Q b { s with heap := h' }) :
    wpAny (model P w) A (setAddHashed a v ((mixKind P w).hash k)) Q E s := by
  obtain ⟨o, es, ep, t, ho, hex, hd, g, pk0, nd, hb, hf, hr, hl⟩ := R
  have hel : ElemsOf (mixKind P w) es.toList := goodM_elems g
  unfold setAddHashed setAddHashedIn
  refine wpAny_holding (wpAny_bind (wpAny_setState_of ho hd hf ?_))
  dsimp only
  rw [byScan_of hsc hb hel]
  simp only [↓reduceIte]
  unfold setAddByScan
  refine wpAny_bind ?_
  refine wpAny_bind (wpAny_rule ?_)
  refine wpAny_bind (wpAny_setScan_of hkey ho hd hf hel ?_)
  cases hfi : List.findIdx? (fun e => (mixKind P w).is k e.2) es.toList with
  | some j =>
    dsimp only
    obtain ⟨hj, pj, _⟩ := List.findIdx?_eq_some_iff_getElem.mp hfi
    have hSk : k ∈ ks := pk0.mem_iff.mp ((goodM_mem g k).2 ⟨es.toList[j], List.getElem_mem hj, pj⟩)
    refine wpAny_pure (wpAny_pure ?_)
    refine hQ _ s.heap (Heap.SameBut.refl a s.heap) ?_
    unfold addK
    rw [if_pos hSk]
    exact ⟨o, es, ep, t, ho, hex, hd, g, pk0, nd, hb, hf, hr, hl⟩
  | none =>
    dsimp only
    have hnk : k ∉ ks := fun z => by
      obtain ⟨e, he, q⟩ := (goodM_mem g k).1 (pk0.mem_iff.mpr z)
      have c := List.findIdx?_eq_none_iff.mp hfi e he
      rw [q] at c
      cases c
    have hgw : ∀ (b : Bool) {s₁ : Shared} {Q' : Unit → Shared → Prop}, Q' () s₁ → wpAny (model P w) A (match b with | true => rule "set.scan.the-table-gave-way" | false => pure ()) Q' E s₁ :=
      fun b s₁ Q' q => by cases b <;> first | exact wpAny_pure q | exact wpAny_rule q
    have pm := layNew_perm t es ((mixKind P w).hash k) v
    have hf1 := layNew_fits t es ((mixKind P w).hash k) v
    have hr1 := layNew_ris t es ((mixKind P w).hash k) v hr
    have hl1 := layNew_led t es ((mixKind P w).hash k) v
    generalize layNew t es ((mixKind P w).hash k) v = Z at pm hf1 hr1 hl1 ⊢
    obtain ⟨es1, t1, wasDummy, gave⟩ := Z
    dsimp only at pm hf1 hr1 hl1 ⊢
    rw [Array.toList_push] at pm
    have pc : es1.toList.Perm (((mixKind P w).hash k, v) :: es.toList) := pm.trans (List.perm_append_singleton _ _)
    have pk : (es1.toList.map kyE).Perm (addK ks k) := by
      unfold addK
      rw [if_neg hnk]
      have q := pc.map kyE
      rw [List.map_cons] at q
      have e : kyE ((mixKind P w).hash k, v) = k := hky
      rw [e] at q
      exact q.trans (pk0.cons k)
    have nd1 : (addK ks k).Nodup := by
      unfold addK
      rw [if_neg hnk]
      exact List.nodup_cons.mpr ⟨hnk, nd⟩
    have g1 : ∀ e ∈ es1.toList, GoodM P w e := fun e he => by
      rcases List.mem_cons.mp (pc.mem_iff.mp he) with z | z
      · rw [z]; exact ⟨by show (mixKind P w).is (kyV v) v = true; rw [hky]; exact hkey, by show _ = (mixKind P w).hash (kyV v); rw [hky], hsc⟩
      · exact g e z
    have hl0 : es.size = ks.length := by
      have := pk0.length_eq
      rw [List.length_map, Array.length_toList] at this
      exact this
    have hb1 : es1.size < scanBound := by
      have : es1.size = ks.length + 1 := by rw [← Array.length_toList, pc.length_eq, List.length_cons, Array.length_toList, hl0]
      omega
    have hled : w.params.followText "set-order" = true ∨ t1.led = true := hl.imp id fun z => by rw [hl1]; exact z
    have fin : ∀ h', Heap.SameBut a s.heap h' → SetM P w h' a (addK ks k) → Q true { s with heap := h' } := fun h' sb r => hQ _ h' sb r
    refine wpAny_bind (hgw _ ?_)
    split
    · refine wpAny_bind ?_
      rw [hashByValue_scannable 8 hsc]
      refine wpAny_pure ?_
      refine setM_tail ?_ ho hex hd g1 pk nd1 hb1 ?_ ?_ ?_ ?_
      · intro b s₁ Q' q; cases b <;> first | exact wpAny_pure q | exact wpAny_rule q
      · first | (split <;> first | exact hf1 | exact SetTable.fits_plain_off hf1) | exact hf1
      · first | (split <;> exact hr1) | exact hr1
      · first | (split <;> exact hled) | exact hled
      · intro h' sb r; dsimp only; exact wpAny_pure (fin h' sb r)
    · refine wpAny_bind (wpAny_pure ?_)
      simp only [↓reduceIte]
      refine setM_tail ?_ ho hex hd g1 pk nd1 hb1 hf1 hr1 hled ?_
      · intro b s₁ Q' q; cases b <;> first | exact wpAny_pure q | exact wpAny_rule q
      · intro h' sb r; dsimp only; exact wpAny_pure (fin h' sb r)
theorem setM_fresh {h : Heap} (P : Program) (w : World) : SetM P w (h.push { cls := .type "set", dict := none, data := .set #[] 0 (.fresh 0 0 (!w.params.followText "set-order")) }) h.objs.size [] :=
  ⟨_, #[], 0, _, Heap.get?_push_size _ rfl, ⟨rfl, rfl, rfl⟩, rfl, (fun e he => by simp at he), .refl _, .nil, (by decide), (by rfl), List.Pairwise.nil, by
    show _ ∨ (!w.params.followText "set-order") = true
    cases w.params.followText "set-order"
    · exact .inr rfl
    · exact .inl rfl⟩
/-- set(x): the new set -/
theorem new_set_1 (x : Value) {Q₁ : Value → Shared → Prop}
    (h : Q₁ (.ref s.heap.objs.size) { s with heap := s.heap.push { cls := .type "set", dict := none, data := .set #[] 0 (.fresh 0 0 (!w.params.followText "set-order")) } }) :
    codeAny (model P w) A (.call (.builtin "set.__new__") ⟨[.type "set", x], []⟩) (wants Q₁ E) s := by
  refine codeAny_of_tree ?_
  show wpAny _ A.in1 (do checkBuiltinCall "set.__new__" ⟨[.type "set", x], []⟩; again (.builtin "set.__new__" ⟨[.type "set", x], []⟩)) _ _ s
  refine wpAny_bind (wpAny_of_eq (PySem.F.newCall_set_1 x) (wpAny_pure ⟨plainId_quiet PySem.F.plain_set_new _, codeAny_builtin PySem.F.entry_set_new ?_⟩))
  rw [Around.under_plainId PySem.F.plain_set_new _]
  unfold Builtin.«set.__new__» Builtin.Frozenset.newClass
  have hsub := sub_set_self
  obtain ⟨hp, g, d, tk, os⟩ := s
  dsimp only
  wp_walk
  refine wpAny_askSetting (wpAny_pure ?_)
  dsimp only
  simp only [newObj]
  refine wpAny_bind (wpAny_alloc (wpAny_pure ?_))
  exact wpAny_pure h
end
section
variable {P : Program} {w : World} {A : Around} {R : Result → Shared → Prop} {I : Addr} {fp wr : List Addr} {G : Array GenState → Array GenState → Prop} {n : Nat} {Pv : Nat → Value → Prop} {St : Nat → Shared → Prop}
/-- the members that the first i items make -/
noncomputable def memK (kk : List L2.Key) (i : Nat) : List L2.Key := (kk.take i).foldl addK []
theorem foldl_addK_len : ∀ (l ks : List L2.Key), (l.foldl addK ks).length ≤ ks.length + l.length
  | [], ks => by simp
  | k :: l, ks => by
    have := foldl_addK_len l (addK ks k)
    have h : (addK ks k).length ≤ ks.length + 1 := by unfold addK; split <;> simp
    simp only [List.foldl_cons, List.length_cons]
    omega
theorem memK_len (kk : List L2.Key) (i : Nat) : (memK kk i).length ≤ i := by
  have := foldl_addK_len (kk.take i) []
  unfold memK
  simp only [List.length_nil, List.length_take] at this ⊢
  omega
theorem memK_succ {kk : List L2.Key} {i : Nat} {k : L2.Key} (h : kk[i]? = some k) : memK kk (i + 1) = addK (memK kk i) k := by
  unfold memK
  obtain ⟨hi, rfl⟩ := List.getElem?_eq_some_iff.mp h
  rw [List.take_succ, h, List.foldl_append]; rfl
theorem codeM (W : WalksS P w A.in1 I fp wr G n Pv St) (S : Addr) (hSf : S ∉ fp) (kk : List L2.Key) (hn : kk.length = n)
    (hval : ∀ i v, Pv i v → ∃ k, kk[i]? = some k ∧ (mixKind P w).is k v = true ∧ kyV v = k ∧ v.scannable = true) (hb : n + 1 < scanBound) :
    ∀ (k i : Nat) (s : Shared), n - i = k → i ≤ n → St i s → SetM P w s.heap S (memK kk i) →
      (∀ s', Moved (S :: wr) G s s' → SetM P w s'.heap S (memK kk n) → R (.ok (.ret .none)) s') →
      codeAny (model P w) A (.builtin "set.update.loop" ⟨[.ref S, .ref I], []⟩) R s := by
  have hSw : S ∉ wr := fun h => hSf (W.sub _ h)
  have hsub : ∀ b ∈ wr, b ∈ S :: wr := fun b hb => List.mem_cons_of_mem _ hb
  intro k
  induction k with
  | zero =>
    intro i s hk hi hst hS hR
    have hin : i = n := by omega
    subst hin
    refine codeAny_builtin PyProof.Rows.F.entry_set_update_loop ?_
    rw [Around.under_plainId PyProof.Rows.F.plain_set_update_loop _]
    show wpAny _ A.in1 (pyNext (.ref I) >>= _) _ _ s
    refine wpAny_bind (W.done s _ _ hst fun s' hm => ?_)
    show wpAny _ A.in1 (ret Value.none) _ _ s'
    exact wpAny_pure (hR s' (hm.mono hsub) (hS.at fun o e => hm.heap S _ hSw e))
  | succ k ih =>
    intro i s hk hi hst hS hR
    have hlt : i < n := by omega
    refine codeAny_builtin PyProof.Rows.F.entry_set_update_loop ?_
    rw [Around.under_plainId PyProof.Rows.F.plain_set_update_loop _]
    show wpAny _ A.in1 (pyNext (.ref I) >>= _) _ _ s
    refine wpAny_bind (W.item i s _ _ hlt hst fun v s' hP hst' hm => ?_)
    obtain ⟨ky, e1, e2, e3, e4⟩ := hval i v hP
    have hS' : SetM P w s'.heap S (memK kk i) := hS.at fun o e => hm.heap S _ hSw e
    show wpAny _ A.in1 (holding [v] (setAdd S v) >>= _) _ _ s'
    refine wpAny_bind (wpAny_holding ?_)
    unfold setAdd
    refine wpAny_holding ?_
    refine wpAny_bind ((mixKind P w).pyHash (k := ky) e2 ?_)
    have hroom : (memK kk i).length + 1 < scanBound := by have := memK_len kk i; omega
    refine setM_add (s := { s' with toks := s'.toks + 1 }) hS' hroom e2 e3 e4 fun b h' hsb hS2 => ?_
    rw [← memK_succ e1] at hS2
    refine wpAny_pure ⟨plainId_quiet PyProof.Rows.F.plain_set_update_loop _, ih (i + 1) _ (by omega) hlt (W.frame _ s' _ _ hst' (Nat.le_succ _) fun b hb o e => ?_) hS2 fun s'' hm'' hS'' => ?_⟩
    · rw [hsb.2 b (fun h : b = S => hSf (by rw [← h]; exact hb))]; exact e
    · refine hR s'' (Moved.trans W.gtrans ((hm.mono hsub).then_heap (Nat.le_succ _) fun b o hb e => ?_) hm'') hS''
      rw [hsb.2 b (fun h : b = S => hb (by rw [h]; exact List.mem_cons_self))]; exact e
end
section
variable {P : Program} {w : World} {A : Around} {E : Value → Shared → Prop} {s : Shared}
/-- set(xs) of a list -/
theorem call_setM {l : Addr} {items : Array Value} {kk : List L2.Key} {Q : Value → Shared → Prop}
    (hh : A.handled = none) (hl : s.heap.IsList l items) (hn : kk.length = items.size) (hi : ∀ (i : Nat) (v : Value), items[i]? = some v → ∃ k, kk[i]? = some k ∧ (mixKind P w).is k v = true ∧ kyV v = k ∧ v.scannable = true) (hb : items.size + 1 < scanBound)
    (h : ∀ (h' : Heap) (tk : Nat), SetM P w h' s.heap.objs.size (memK kk items.size) →
      (∀ b o, b < s.heap.objs.size → s.heap.get? b = some o → h'.get? b = some o) → Q (.ref s.heap.objs.size) { s with heap := h', toks := tk }) :
    wpAny (model P w) A (PySem.call (.type "set") [.ref l]) Q E s := by
  obtain ⟨c, tl, hmro⟩ := PySem.F.called_set.mro
  have hmade := PySem.F.called_set.made
  have hsub := PySem.F.called_set.sub
  refine wpAny_call (codeAny_of_tree ?_)
  show wpAny _ _ (callAny (.type "set") _) _ _ _
  refine wpAny_pure ⟨Code.quiet_builtin _ (by decide +kernel), codeAny_builtin PySem.F.entry_type_call ?_⟩
  rw [Around.under_plain (weight_type_call_type "set" [.ref l] []) rfl]
  have h1 := PySem.F.called_set.notType
  have h2 := PySem.F.called_set.canCreate
  have hct := PySem.F.typeCall_set_1 (.ref l)
  repeat (any_goals (first | assumption | wp_step))
  refine codeAny_mono (new_set_1 (P := P) (w := w) (.ref l) (E := E) (Q₁ := fun obj s₁ => obj = .ref s.heap.objs.size ∧ s₁ = { s with heap := s.heap.push { cls := .type "set", dict := none, data := .set #[] 0 (.fresh 0 0 (!w.params.followText "set-order")) } }) ⟨rfl, rfl⟩) fun r s₁ hr => ?_
  cases r with
  | error e => exact hr
  | ok fl =>
    cases fl with
    | ret obj =>
      obtain ⟨rfl, rfl⟩ := hr
      have hS : (s.heap.push { cls := .type "set", dict := none, data := .set #[] 0 (.fresh 0 0 (!w.params.followText "set-order")) }).get? s.heap.objs.size = some { cls := .type "set", dict := none, data := .set #[] 0 (.fresh 0 0 (!w.params.followText "set-order")) } := Heap.get?_push_size _ rfl
      have hT : Shared.TypeIs { s with heap := s.heap.push { cls := .type "set", dict := none, data := .set #[] 0 (.fresh 0 0 (!w.params.followText "set-order")) } } (.ref s.heap.objs.size) "set" := ⟨_, hS, rfl⟩
      have hli := PySem.F.called_set.init.lookup
      have hbi := PySem.F.called_set.init.bind (.ref s.heap.objs.size)
      repeat (any_goals (first | assumption | wp_step))
      refine codeAny_mono (codeAny_call_builtin (R := wants (fun r s₂ => r = .none ∧ ∃ h' tk, s₂ = { s with heap := h', toks := tk } ∧
          SetM P w h' s.heap.objs.size (memK kk items.size) ∧
          (∀ b o, b < s.heap.objs.size → s.heap.get? b = some o → h'.get? b = some o)) E) PySem.F.called_set.init.plain PySem.F.entry_set_init (check_set_init_1 hT ?_)) fun r₂ s₂ hr₂ => ?_
      · obtain ⟨ol, hol, hcl, nl, hdl⟩ := hl
        obtain ⟨ocls, odict, odata, oslots⟩ := ol
        simp only at hcl hdl
        subst hcl; subst hdl
        have hol' : (s.heap.push { cls := .type "set", dict := none, data := .set #[] 0 (.fresh 0 0 (!w.params.followText "set-order")) }).get? l = some { cls := .type "list", dict := odict, data := .seq items nl, slots := oslots } := Heap.get?_push_of_some _ hol
        have hsls := PySem.F.sub_list_set
        have hslf := PySem.F.sub_list_frozenset
        have hne : (Value.type "list" == Value.type "dict") = false := by decide
        have hl1 : (s.heap.push { cls := .type "set", dict := none, data := .set #[] 0 (.fresh 0 0 (!w.params.followText "set-order")) }).IsList l items := ⟨_, hol', rfl, nl, rfl⟩
        unfold Builtin.«set.__init__» noKeywords Builtin.Frozenset.updateFrom
        generalize hPI : pyIter = PI
        wp_walk
        subst hPI
        refine wpAny_pyIter_list hl1 ?_
        refine wpAny_bind (wpAny_runValue ?_)
        have hlS : l < s.heap.objs.size := Heap.lt_size hol
        have hh3 : A.in1.in1.in1.handled = none := by simp [hh]
        have hneI : l ≠ (s.heap.push { cls := .type "set", dict := none, data := .set #[] 0 (.fresh 0 0 (!w.params.followText "set-order")) }).objs.size := by
          rw [Heap.size_push]; exact Nat.ne_of_lt (Nat.lt_succ_of_lt hlS)
        have hSf : s.heap.objs.size ∉ [(s.heap.push { cls := .type "set", dict := none, data := .set #[] 0 (.fresh 0 0 (!w.params.followText "set-order")) }).objs.size, l] := by
          rw [Heap.size_push]; simp only [List.mem_cons, List.mem_singleton, List.not_mem_nil, or_false, not_or]
          exact ⟨Nat.ne_of_lt (Nat.lt_succ_self _), Nat.ne_of_gt hlS⟩
        refine codeM ((Walks.list hh3 _ l hneI items).toS) s.heap.objs.size hSf kk hn hi hb (items.size - 0) 0 _ (by omega) (Nat.zero_le _)
          ⟨⟨_, Heap.get?_push_size _ rfl, rfl, rfl⟩, (hl1.push _)⟩ ?hS0 ?hR
        case hS0 =>
          exact (setM_fresh (h := s.heap) P w).at fun o e => Heap.get?_push_of_some _ e
        case hR =>
          intro s' hm hS'
          obtain ⟨h', g', d', tk', os'⟩ := s'
          have eg : g' = s.gens := hm.gens
          have ed : d' = s.drawn := hm.drawn
          have eo : os' = s.os := hm.os
          subst eg; subst ed; subst eo
          show wpAny _ _ _ _ _ _
          refine wpAny_pure ?_
          show wpAny _ _ (ret Value.none) _ _ _
          refine wpAny_pure ⟨rfl, h', tk', rfl, hS', fun b o hb e => ?_⟩
          have hb1 : b ≠ s.heap.objs.size := Nat.ne_of_lt hb
          have hb2 : b ≠ (s.heap.push { cls := .type "set", dict := none, data := .set #[] 0 (.fresh 0 0 (!w.params.followText "set-order")) }).objs.size := by
            rw [Heap.size_push]; exact Nat.ne_of_lt (Nat.lt_succ_of_lt hb)
          exact hm.heap b o (by simp only [List.mem_cons, List.mem_singleton, List.not_mem_nil, or_false, not_or]; exact ⟨hb1, hb2⟩) (Heap.get?_push_of_some _ (Heap.get?_push_of_some _ e))
      · cases r₂ with
        | error e => exact hr₂
        | ok fl₂ =>
          cases fl₂ with
          | ret r =>
            obtain ⟨rfl, h', tk, rfl, hS', hk'⟩ := hr₂
            repeat (any_goals (first | assumption | wp_step))
            exact h _ _ hS' hk'
          | _ => exact hr₂.elim
    | _ => exact hr.elim
end
section
variable {X : Cx} {W : Wd} {WW : WX}
/-- the keys of a row of things -/
theorem keys_of {ρ : List Addr} {G : Hp} : ∀ {xs : List VM.D} {vs : List V} {ks : List Key}, Fzs W ρ G xs vs → keysOf xs = some ks → vs = ks.map (fun k => kV (kx k)) ∧ (∀ k ∈ ks, OkK k) ∧ ks.length = xs.length
  | [], vs, ks, f, e => by
    unfold Fzs at f
    cases e
    exact ⟨f, by simp, rfl⟩
  | x :: xs, vs, ks, f, e => by
    unfold Fzs at f
    obtain ⟨v, r, rfl, q, f⟩ := f
    unfold keysOf at e
    split at e
    · rename_i k ks' h1 h2
      cases e
      obtain ⟨a1, a2, a3⟩ := keys_of f h2
      obtain ⟨c1, c2, c3⟩ := keyOf_fz q h1
      exact ⟨by rw [c1, a1]; rfl, fun j hj => (List.mem_cons.mp hj).elim (fun z => z ▸ c2) (a2 j), by simp [a3]⟩
    · cases e
theorem kx_key {k : L2.Key} {u : Value} (r : RelV (kV k) u) : kyV u = k ∧ u.scannable = true := by
  cases k with
  | inl i => obtain ⟨t, e⟩ := (show ∃ t, u = Value.int i t from r); subst e; exact ⟨rfl, rfl⟩
  | inr x => obtain ⟨t, e⟩ := (show ∃ t, u = Value.str x t from r); subst e; exact ⟨rfl, rfl⟩
theorem foldl_mem : ∀ (l ks : List L2.Key) (k : L2.Key), k ∈ l.foldl addK ks ↔ k ∈ ks ∨ k ∈ l
  | [], ks, k => by simp
  | j :: l, ks, k => by
    rw [List.foldl_cons, foldl_mem l (addK ks j) k]
    unfold addK
    split
    · rename_i h
      constructor
      · rintro (a | a)
        · exact .inl a
        · exact .inr (List.mem_cons_of_mem _ a)
      · rintro (a | a)
        · exact .inl a
        · rcases List.mem_cons.mp a with e | a
          · exact .inl (e ▸ h)
          · exact .inr a
    · simp only [List.mem_cons]
      constructor
      · rintro ((a | a) | a)
        · exact .inr (.inl a)
        · exact .inl a
        · exact .inr (.inr a)
      · rintro (a | a | a)
        · exact .inl (.inr a)
        · exact .inl (.inl a)
        · exact .inr a
theorem foldl_nodup : ∀ (l ks : List L2.Key), ks.Nodup → (l.foldl addK ks).Nodup
  | [], ks, h => h
  | j :: l, ks, h => by
    rw [List.foldl_cons]
    refine foldl_nodup l _ ?_
    unfold addK
    split
    · exact h
    · rename_i hn
      exact List.nodup_cons.mpr ⟨hn, h⟩
theorem dedup_mem {k : Key} : ∀ {ks : List Key}, k ∈ dedup ks ↔ k ∈ ks
  | [] => Iff.rfl
  | j :: r => by
    unfold dedup
    split
    · rename_i h
      rw [dedup_mem (ks := r), List.mem_cons]
      constructor
      · exact .inr
      · rintro (rfl | a)
        · exact h
        · exact a
    · rw [List.mem_cons, List.mem_cons, dedup_mem (ks := r)]
theorem dedup_nodup : ∀ (ks : List Key), (dedup ks).Nodup
  | [] => .nil
  | j :: r => by
    unfold dedup
    split
    · exact dedup_nodup r
    · rename_i h
      exact List.nodup_cons.mpr ⟨fun z => h (dedup_mem.mp z), dedup_nodup r⟩
theorem nodup_kx : ∀ {ks : List Key}, ks.Nodup → (ks.map kx).Nodup
  | [], _ => .nil
  | k :: r, h => by
    obtain ⟨h1, h2⟩ := List.nodup_cons.mp h
    refine List.nodup_cons.mpr ⟨fun z => ?_, nodup_kx h2⟩
    obtain ⟨j, hj, e⟩ := List.mem_map.mp z
    exact h1 (kx_inj e ▸ hj)
/-- what a set of these has: each once -/
theorem memK_perm (ks : List Key) (n : Nat) (hn : ks.length ≤ n) : (memK (ks.map kx) n).Perm ((dedup ks).map kx) := by
  unfold memK
  rw [List.take_of_length_le (by rw [List.length_map]; exact hn)]
  refine (List.perm_ext_iff_of_nodup (foldl_nodup _ _ .nil) (nodup_kx (dedup_nodup ks))).mpr fun k => ?_
  rw [foldl_mem]
  simp only [List.not_mem_nil, false_or, List.mem_map]
  constructor
  · rintro ⟨j, hj, e⟩
    exact ⟨j, dedup_mem.mpr hj, e⟩
  · rintro ⟨j, hj, e⟩
    exact ⟨j, dedup_mem.mp hj, e⟩
theorem SetM.perm {P : Program} {w : World} {h : Heap} {a : Addr} {ks ks' : List L2.Key} (R : SetM P w h a ks) (p : ks.Perm ks') : SetM P w h a ks' := by
  obtain ⟨o, es, ep, t, ho, hx, hd, g, pk, nd, r⟩ := R
  exact ⟨o, es, ep, t, ho, hx, hd, g, pk.trans p, p.nodup_iff.mp nd, r⟩
theorem SetM.setOf {P : Program} {w : World} {h : Heap} {a : Addr} {ks : List L2.Key} (R : SetM P w h a ks) : ∃ S, h.SetOf (mixKind P w) a S ks.length := by
  classical
  obtain ⟨o, es, ep, t, ho, hx, hd, g, pk, nd, hb, hf, hr, hl⟩ := R
  refine ⟨fun k => decide (k ∈ ks), o, es, ep, t, ho, hx, hd, goodM_elems g, fun k => ?_, hb, hf, ?_⟩
  · rw [decide_eq_true_eq, ← pk.mem_iff]
    exact goodM_mem g k
  · have := pk.length_eq
    rw [List.length_map, Array.length_toList] at this
    exact this
/-- set(xs), then what follows -/
theorem set_made (hc : X.calm = true) {l : Addr} {ks : List Key} {pins : List (Addr × Obj)} {σ : L2.St} {H1 : Hp} {s1 : Shared} {Q : Value → Shared → Prop} (I1 : L2.Inv X pins σ H1 s1) (hq : SqL X.K H1 l (ks.map fun k => kV (kx k))) (hz : ks.length + 1 < scanBound)
    (h : ∀ (h' : Heap) (tk : Nat), SetM X.prog X.w h' s1.heap.objs.size ((dedup ks).map kx) → L2.Inv X pins σ H1 { s1 with heap := h', toks := tk } → Q (.ref s1.heap.objs.size) { s1 with heap := h', toks := tk }) :
    wpAny (model X.prog X.w) X.A (PySem.call (.type "set") [.ref l]) Q X.xe s1 := by
  obtain ⟨its, r, pl, hz'⟩ := I1.list hq
  have hlen : its.length = ks.length := by rw [← r.length, List.length_map]
  have hsz : its.toArray.size = ks.length := by rw [List.size_toArray, hlen]
  refine call_setM (kk := ks.map kx) (I1.ok.hd hc) pl.isList (by rw [List.length_map, hsz]) (fun i v hv => ?_) (by rw [hsz]; exact hz) fun h' tk hS hk => ?_
  · have hv' : its[i]? = some v := by rw [← hv]; simp
    have hi : i < ks.length := by rw [← hlen]; exact (List.getElem?_eq_some_iff.mp hv').1
    obtain ⟨u, h1, h2⟩ := r.get (i := i) (x := kV (kx ks[i])) (by simp [hi])
    rw [hv'] at h1
    cases h1
    obtain ⟨k1, k2⟩ := kx_key h2
    exact ⟨kx ks[i], by simp [hi], kV_is h2, k1, k2⟩
  · rw [hsz] at hS
    exact h h' tk (hS.perm (memK_perm ks _ (Nat.le_refl _))) (I1.kept fun b o e => hk b o (Heap.lt_size e) e)
theorem dedup_len : ∀ ks : List Key, (dedup ks).length ≤ ks.length
  | [] => Nat.le_refl _
  | j :: r => by
    have := dedup_len r
    unfold dedup
    split
    · simp only [List.length_cons]; omega
    · simp only [List.length_cons]; omega
/-- the members' texts -/
def txV (v : Value) : Str := match kyV v with
  | .inr x => x
  | _ => Str.empty
def itV (v : Value) : Int := match kyV v with
  | .inl x => x
  | _ => 0
theorem members_s {P : Program} {w : World} : ∀ {vs : List Value}, (∀ v ∈ vs, (mixKind P w).is (kyV v) v = true ∧ ∃ x, kyV v = .inr x) → StrsAre vs (vs.map txV)
  | [], _ => .nil
  | v :: vs, h => by
    obtain ⟨h1, x, h2⟩ := h v List.mem_cons_self
    rw [h2] at h1
    have : ∃ t, v = .str x t := by
      rcases keyIs_shape (show L2.keyIs (.inr x) v = true from h1) with ⟨i, t, e1, e2⟩ | ⟨y, t, e1, e2⟩
      · cases e1
      · cases e1; exact ⟨t, e2⟩
    obtain ⟨t, rfl⟩ := this
    exact .cons x t (members_s fun u hu => h u (List.mem_cons_of_mem _ hu))
theorem members_i {P : Program} {w : World} : ∀ {vs : List Value}, (∀ v ∈ vs, (mixKind P w).is (kyV v) v = true ∧ ∃ x, kyV v = .inl x) → IntsAre vs (vs.map itV)
  | [], _ => .nil
  | v :: vs, h => by
    obtain ⟨h1, x, h2⟩ := h v List.mem_cons_self
    rw [h2] at h1
    have : ∃ t, v = .int x t := by
      rcases keyIs_shape (show L2.keyIs (.inl x) v = true from h1) with ⟨i, t, e1, e2⟩ | ⟨y, t, e1, e2⟩
      · cases e1; exact ⟨t, e2⟩
      · cases e1
    obtain ⟨t, rfl⟩ := this
    exact .cons x t (members_i fun u hu => h u (List.mem_cons_of_mem _ hu))
/-- the list that a sort has made -/
theorem sort_laid {pins : List (Addr × Obj)} {σ : L2.St} {H : Hp} {s0 s2 : Shared} {out : Array Value} {c : Nat} {ys : List V} {vs : List Value} (I : L2.Inv X pins σ H s0) (k : ∀ b o, s0.heap.get? b = some o → s2.heap.get? b = some o) (sz : s0.heap.objs.size ≤ s2.heap.objs.size) (g : s2.gens = s0.gens) (o : s2.os = s0.os)
    (rv : Vals ys out.toList) (hz : ys.length ≤ sizeLine) (hv : (sortedHeap (s2.heap.push (seqObj "list" vs.toArray 0)) s2.heap.objs.size vs out).get? s2.heap.objs.size = some (seqObj "list" out c)) :
    H s2.heap.objs.size = none ∧ L2.Inv X pins σ (upd H s2.heap.objs.size (.lst ys)) { s2 with heap := sortedHeap (s2.heap.push (seqObj "list" vs.toArray 0)) s2.heap.objs.size vs out } := by
  have hn : H s2.heap.objs.size = none := I.hok.fresh sz
  have kk : ∀ b u, s0.heap.get? b = some u → (sortedHeap (s2.heap.push (seqObj "list" vs.toArray 0)) s2.heap.objs.size vs out).get? b = some u := fun b u e => by
    have q := k b u e
    have hlt := Heap.lt_size q
    rw [sortedHeap_old (Nat.ne_of_lt hlt) (by rw [size_push']; exact Nat.lt_succ_of_lt hlt)]
    exact Heap.get?_push_of_some _ q
  refine ⟨hn, I.call' (ch := []) o (Un.laid kk sz hn) (I.hok.laid kk sz ⟨hz, out.toList, c, rv, by rw [Array.toArray_toList]; exact hv⟩) (by show AllBare s2.gens; rw [g]; exact I.bare) (fun _ z => nomatch z)⟩
theorem pe_lenSetD (hK : W.K = X.K) {a : Expr} {ra : List SV → Mem → Rs KD} {p p2 q pos : Pos} (hc : X.calm = true) (hg : Gl X "len") (hm : X.mg "len" = none) (hg2 : Gl X "set") (hm2 : X.mg "set" = none) (ha : PE X a (LK W WW ra)) (hs : noStar a = true) :
    PE X (.Call (.Name "len" p) [.Call (.Name "set" p2) [a] [] q] [] pos) (LK W WW fun σ M => (ra σ M).bw.bind fun d M => ppLset [d] M) := by
  refine ⟨fun pins s σ H Q I ⟨Fr, ρ, G, σs, M, r, z⟩ => ?_⟩
  have h : LB W WW (fun σ M => (ra σ M).bw) σ H _ := ⟨Fr, ρ, G, σs, M, r, Aft.bind (RA := RRb W) z⟩
  refine Call_ (ld_blt I hg hm boot_len ?_)
  refine PyProof.Rows.callWith_builtin1 (PyProof.Rows.args_cons ?_ rfl) rfl rfl
  refine Call_ (ld_blt I hg2 hm2 boot_set ?_)
  refine PyProof.Rows.callWith_type1 (PyProof.Rows.args_cons (thn ((pe_bw ha).run pins s σ H _ I h) fun v s1 ⟨x, H1, I1, r1, q1⟩ => PyProof.Rows.args_nil ?_) (star_cons hs)) (star_cons hs) rfl
  obtain ⟨ρ1, G1, M1, d, hr1, hg1, rl, bz, q1⟩ := q1
  have q1 : Aft W WW Fr (RRk W Fr) ρ1 G1 σs σ (ppLset [d] M1) Q := q1
  unfold ppLset at q1
  dsimp only at q1
  cases e1 : lstOf d M1 with
  | none => rw [e1] at q1; exact q1.elim
  | some ys =>
    rw [e1] at q1
    simp only [Option.bind] at q1
    cases e2 : keysOf ys with
    | none => rw [e2] at q1; exact q1.elim
    | some ks =>
      rw [e2] at q1
      dsimp only at q1
      split at q1
      · rename_i hz
        obtain ⟨l, vs, rfl, hq, _, fa⟩ := look_lst rl bz e1
        obtain ⟨ev, ok, _⟩ := keys_of fa e2
        subst ev
        cases r1
        refine set_made hc I1 (hK ▸ hq) (by unfold scanBound; omega) fun h' tk hS I2 => ?_
        refine PyProof.Rows.args_nil ?_
        obtain ⟨S, o, es, ep, t, ho, hex, hd, _, _, _, hf, hn⟩ := hS.setOf
        rw [List.length_map] at hn
        refine call_len_set ho hex hd hf (by have := (dedup_len ks); rw [hn]; omega) ⟨.int (dedup ks).length, H1, I2.tok _, ⟨_, by rw [hn]⟩, q1.one rl rfl⟩
      · exact q1.elim
theorem pe_sortedSetD (hK : W.K = X.K) (hu : X.A.units + 64 < cLine) {a : Expr} {ra : List SV → Mem → Rs KD} {p p2 q pos : Pos} (hc : X.calm = true) (hg : Gl X "sorted") (hm : X.mg "sorted" = none) (hg2 : Gl X "set") (hm2 : X.mg "set" = none) (ha : PE X a (LK W WW ra)) (hs : noStar a = true) :
    PE X (.Call (.Name "sorted" p) [.Call (.Name "set" p2) [a] [] q] [] pos) (LK W WW fun σ M => (ra σ M).bw.bind fun d M => ppSset [d] M) := by
  refine ⟨fun pins s σ H Q I ⟨Fr, ρ, G, σs, M, r, z⟩ => ?_⟩
  have h : LB W WW (fun σ M => (ra σ M).bw) σ H _ := ⟨Fr, ρ, G, σs, M, r, Aft.bind (RA := RRb W) z⟩
  refine Call_ (ld_blt I hg hm boot_sorted ?_)
  refine PyProof.Rows.callWith_builtin1 (PyProof.Rows.args_cons ?_ rfl) rfl rfl
  refine Call_ (ld_blt I hg2 hm2 boot_set ?_)
  refine PyProof.Rows.callWith_type1 (PyProof.Rows.args_cons (thn ((pe_bw ha).run pins s σ H _ I h) fun v s1 ⟨x, H1, I1, r1, q1⟩ => PyProof.Rows.args_nil ?_) (star_cons hs)) (star_cons hs) rfl
  obtain ⟨ρ1, G1, M1, d, hr1, hg1, rl, bz, q1⟩ := q1
  have q1 : Aft W WW Fr (RRk W Fr) ρ1 G1 σs σ (ppSset [d] M1) Q := q1
  unfold ppSset at q1
  dsimp only at q1
  cases e1 : lstOf d M1 with
  | none => rw [e1] at q1; exact q1.elim
  | some ys =>
    rw [e1] at q1
    simp only [Option.bind] at q1
    cases e2 : keysOf ys with
    | none => rw [e2] at q1; exact q1.elim
    | some ks =>
      rw [e2] at q1
      dsimp only at q1
      split at q1
      · rename_i hz
        cases e3 : sortD ((dedup ks).map kD) with
        | none => rw [e3] at q1; exact q1.elim
        | some ys' =>
          rw [e3] at q1
          obtain ⟨l, vs, rfl, hq, _, fa⟩ := look_lst rl bz e1
          obtain ⟨ev, ok, _⟩ := keys_of fa e2
          subst ev
          cases r1
          have hdl := dedup_len ks
          refine set_made hc I1 (hK ▸ hq) (by unfold scanBound; omega) fun h' tk hS I2 => ?_
          refine PyProof.Rows.args_nil ?_
          obtain ⟨ey, sh, hs0, hs'⟩ := sortD_ok e3
          have okd : ∀ k ∈ dedup ks, OkK k := fun k hk => ok k (dedup_mem.mp hk)
          have mem : ∀ y ∈ ys', ∃ k ∈ dedup ks, y = kD k := fun y hy => by
            rw [ey, sortDs_eq] at hy
            obtain ⟨k, hk, e⟩ := List.mem_map.mp ((sortG_perm _).mem_iff.mp hy)
            exact ⟨k, hk, e.symm⟩
          have fz : Fzs W ρ1 G1 ys' (ys'.map dV) := by
            have : ∀ {l : List VM.D}, (∀ y ∈ l, ∃ k ∈ dedup ks, y = kD k) → Fzs W ρ1 G1 l (l.map dV) := by
              intro l
              induction l with
              | nil => exact fun _ => .nil
              | cons y l ih =>
                intro h
                obtain ⟨k, hk, e⟩ := h y List.mem_cons_self
                refine .cons ?_ (ih fun z hz => h z (List.mem_cons_of_mem _ hz))
                rw [e, dV_k]
                exact OkS.key (okd k hk)
            exact this mem
          have hyl : ys'.length = (dedup ks).length := by rw [ey, sortDs_eq, (sortG_perm _).length_eq, List.length_map]
          have out : ∀ l : Addr, H1 l = none → Q (.ref l) (upd H1 l (.lst (ys'.map dV))) := fun l hl2 =>
            q1.new rl hl2 ⟨_, rfl, by rw [hyl]; have : line = 2 ^ 24 := rfl; omega, fz⟩
          obtain ⟨o, es, ep, t, ho, hex, hd, g, pk, nd, hb, hf, hr, hl⟩ := hS
          refine Calls.call_function_entry PyProof.Rows.kind_sorted PyProof.Rows.plain_sorted PyProof.Rows.entry_sorted (PyProof.Rows.args_sorted1 _) ?_
          unfold Builtin.«sorted»
          refine wpAny_bind (m := checkCount "sorted" 1 1 _) (wpAny_pure ?_)
          refine wpAny_bind (collect_set (A := X.A.in1) (I1.ok.hd hc) ⟨o, ho, hex.1, hd⟩ hf hb hr hl fun s2 vs k1 hz2 g1 o1 pm => ?_)
          have hvl : vs.length = (dedup ks).length := by
            have h1 := pm.length_eq
            have h2 := pk.length_eq
            rw [List.length_map] at h1 h2
            rw [List.length_map] at h2
            omega
          have gv : ∀ v ∈ vs, (mixKind X.prog X.w).is (kyV v) v = true := fun v hv => by
            obtain ⟨e, he, q⟩ := List.mem_map.mp (pm.mem_iff.mp hv)
            rw [← q]
            exact (g e he).1
          have pv : (vs.map kyV).Perm ((dedup ks).map kx) := by
            have q := pm.map kyV
            rw [List.map_map] at q
            exact q.trans pk
          refine wpAny_bind (wpAny_newList ?_ (by rw [hvl, sizeLine_eq]; omega))
          have hoL : (s2.heap.push (seqObj "list" vs.toArray 0)).get? s2.heap.objs.size = some (seqObj "list" vs.toArray 0) := Heap.get?_push_size _ rfl
          rcases keys_kind hs' with ⟨is, e4⟩ | ⟨ss, e4⟩
          · have hall : ∀ v ∈ vs, ∃ x, kyV v = .inl x := fun v hv => by
              have m := pv.mem_iff.mp (List.mem_map.mpr ⟨v, hv, rfl⟩)
              rw [e4, List.map_map] at m
              obtain ⟨i, _, e⟩ := List.mem_map.mp m
              exact ⟨i, e.symm⟩
            have hI := members_i (P := X.prog) (w := X.w) fun v hv => ⟨gv v hv, hall v hv⟩
            have pn : (vs.map itV).Perm is := by
              have q := pv.map (fun k : L2.Key => match k with
                | .inl x => x
                | _ => (0 : Int))
              rw [e4, List.map_map, List.map_map, List.map_map] at q
              have e5 : ∀ l : List Int, l.map (((fun k : L2.Key => match k with
                | .inl x => x
                | _ => (0 : Int)) ∘ kx) ∘ Key.i) = l := fun l => List.map_id l
              rw [e5] at q
              exact q
            refine wpAny_bind (wpAny_holding (wpAny_call_entry PyProof.Rows.slot_list_sort ⟨_, hoL, rfl⟩ PyProof.Rows.entry_list_sort
              (list_sort_tree (s := { s2 with heap := s2.heap.push (seqObj "list" vs.toArray 0) }) hoL hI (by rw [hvl]; omega) fun out' ns' a1 a2 a3 => ⟨_, rfl, ?_⟩) (PyProof.Rows.args_list_sort _)))
            obtain ⟨c, hc'⟩ := sortedHeap_at (vs := vs) (out := out') hoL
            have em : ns'.map V.int = ys'.map dV := by
              rw [ey, e4, List.map_map]
              exact sorted_ints (a2.trans pn) a3
            obtain ⟨hn, J⟩ := sort_laid (X := X) (ys := ns'.map V.int) I2 k1 hz2 g1 o1 (vals_of_ints a1) (by rw [em, List.length_map, hyl, sizeLine_eq]; omega) hc'
            rw [em] at J
            exact wpAny_pure ⟨_, rfl, .ref s2.heap.objs.size, _, J, rfl, out _ hn⟩
          · have hall : ∀ v ∈ vs, ∃ x, kyV v = .inr x := fun v hv => by
              have m := pv.mem_iff.mp (List.mem_map.mpr ⟨v, hv, rfl⟩)
              rw [e4, List.map_map] at m
              obtain ⟨i, _, e⟩ := List.mem_map.mp m
              exact ⟨tx i, e.symm⟩
            have hS := members_s (P := X.prog) (w := X.w) fun v hv => ⟨gv v hv, hall v hv⟩
            have pn : (vs.map txV).Perm (ss.map tx) := by
              have q := pv.map (fun k : L2.Key => match k with
                | .inr x => x
                | _ => Str.empty)
              rw [e4, List.map_map, List.map_map, List.map_map] at q
              exact q
            refine wpAny_bind (wpAny_holding (wpAny_call_entry PyProof.Rows.slot_list_sort ⟨_, hoL, rfl⟩ PyProof.Rows.entry_list_sort
              (list_sort_treeK strKind_oneLt (s := { s2 with heap := s2.heap.push (seqObj "list" vs.toArray 0) }) hoL hS.keysOf (fun v₁ v₂ rest e => keyKind_strs (by rw [← e]; exact hS)) (by rw [hvl]; omega) fun st' hp hs => ⟨_, rfl, ?_⟩) (PyProof.Rows.args_list_sort _)))
            obtain ⟨zs, z1, z2, z3⟩ := sorted_out_str hS hp hs
            obtain ⟨c, hc'⟩ := sortedHeap_at (vs := vs) (out := (arrOf st').map (·.2)) hoL
            have em : zs.map V.str = ys'.map dV := by
              rw [ey, e4, List.map_map]
              exact sorted_strs (z2.trans pn) z3
            obtain ⟨hn, J⟩ := sort_laid (X := X) (ys := zs.map V.str) I2 k1 hz2 g1 o1 (vals_of_strs z1) (by rw [em, List.length_map, hyl, sizeLine_eq]; omega) hc'
            rw [em] at J
            exact wpAny_pure ⟨_, rfl, .ref s2.heap.objs.size, _, J, rfl, out _ hn⟩
      · exact q1.elim
end
end VM
/-! VMZ: f-strings, isinstance of two types, x in range(..). -/
namespace VM
open PySem L2 PySem.Spec PyProof.Rows
section
variable {T : Tab} {Φ : Hot → Nat → List VM.D → Mem → Rs KD} {Γ : Tx} {nm : Nm} {n : Nat} {N : List Str} {sc : Scope} {hot : Hot} {xa : Option Addr} {WW : WX} {X : Cx} {W : Wd}
theorem gl_of {sc : Scope} (c : Cok T Φ Γ nm n N sc hot xa WW X) {x : Str} (h : gloC sc x = true) : Gl X x := by unfold Gl Env.kindOf; rw [c.sc]; exact gloC_ok h
theorem txtOf_fmt {Fr : Hp} {ρ : List Addr} {G H : Hp} {σs : List SV} {M : Mem} {σ : L2.St} {d : VM.D} {x : V} {s : List Nat} (r : Rel W Fr ρ G σs M σ H) (b : Bz W ρ G σs σ d x) (e : txtOf d = some s) : ((∃ y : Str, x = .str y ∧ y.length ≤ sizeLine ∧ y = tx s) ∨ ∃ i : Int, x = .int i ∧ i.natAbs.log2 < 1920 ∧ (toString i : Str) = tx s) ∧ OkS s := by
  unfold txtOf at e
  split at e
  · cases e
    obtain ⟨ev, oa⟩ := b.str r
    exact ⟨.inl ⟨_, ev, by rw [tx_len, line_eq]; exact Nat.le_of_lt oa.1, rfl⟩, oa⟩
  · rename_i i
    split at e
    · rename_i h
      cases e
      exact ⟨.inr ⟨i, b.int r, log_ok h, tx_int i⟩, (intS_ok h).1⟩
    · cases e
  · cases e
/-- a part of an f-string -/
def fsP : Expr → Option Expr
  | .FormattedValue e k none _ => if k = -1 then some e else none
  | .Constant (.str s) k p => some (.Constant (.str s) k p)
  | _ => none
def fsPs : List Expr → Option (List Expr)
  | [] => some []
  | e :: r => (match fsP e, fsPs r with
    | some a, some b => some (a :: b)
    | _, _ => none)
/-- written parts are written -/
def fsK : E → List Expr → Bool
  | .cons a as, p :: ps => (match p with
    | .Constant (.str _) _ _ => (match a with
      | .c (.str _) => true
      | _ => false)
    | _ => true) && fsK as ps
  | .nil, [] => true
  | _, _ => false
theorem fs_parts : ∀ {as : E} {es ps : List Expr}, Ves T Φ nm hot X xa WW as es → fsPs ps = some es → fsK as ps = true →
    ∃ ts, PJ X ps ts ∧ ∀ (Fr : Hp) (ρ : List Addr) (G : Hp) (σs : List SV) (M : Mem) (σ : L2.St) (H : Hp) (acc : List Nat) (Q : List Nat → Hp → Prop) (R : Str → Hp → Prop), (∀ s H1, Q s H1 → R (tx s) H1) → Rel (wd X nm xa) Fr ρ G σs M σ H → OkS acc →
      Aft (wd X nm xa) WW Fr (fun _ _ _ _ _ a b => a = b ∧ OkS a) ρ G σs σ (evf T (Φ hot) hot as acc σs M) Q → tJs ts (tx acc) σ H R
  | as, [], ps, h, e, _ => by
    cases h
    cases ps with
    | nil =>
      refine ⟨[], .nil, fun Fr ρ G σs M σ H acc Q R hR r oa q => ?_⟩
      simp only [evf] at q
      exact hR acc H (q.here r ⟨rfl, oa⟩)
    | cons p ps =>
      simp only [fsPs] at e
      split at e <;> cases e
  | as, e :: es, ps, h, e', fk => by
    cases h with
    | @cons a as _ _ h1 h2 =>
      cases ps with
      | nil => cases e'
      | cons p ps =>
        simp only [fsPs] at e'
        split at e'
        · rename_i a0 b0 q1 q2
          cases e'
          simp only [fsK, Bool.and_eq_true] at fk
          obtain ⟨ts, hp, hq⟩ := fs_parts h2 q2 fk.2
          have main : ∀ {tt : TE}, PE X p tt → (∀ (σ : L2.St) (H : Hp) (R : VK), LB (wd X nm xa) WW (fun σ M => (ev T (Φ hot) hot a σ M).bw) σ H (fun x H1 => ∃ (Fr : Hp) (ρ1 : List Addr) (G1 : Hp) (σs : List SV) (M1 : Mem) (d : VM.D) (s : List Nat), Rel (wd X nm xa) Fr ρ1 G1 σs M1 σ H1 ∧ Bz (wd X nm xa) ρ1 G1 σs σ d x ∧ txtOf d = some s ∧ R (.str (tx s)) H1) → tt σ H R) →
              ∃ ts, PJ X (p :: ps) ts ∧ ∀ (Fr : Hp) (ρ : List Addr) (G : Hp) (σs : List SV) (M : Mem) (σ : L2.St) (H : Hp) (acc : List Nat) (Q : List Nat → Hp → Prop) (R : Str → Hp → Prop), (∀ s H1, Q s H1 → R (tx s) H1) → Rel (wd X nm xa) Fr ρ G σs M σ H → OkS acc →
                Aft (wd X nm xa) WW Fr (fun _ _ _ _ _ a b => a = b ∧ OkS a) ρ G σs σ (evf T (Φ hot) hot (.cons a as) acc σs M) Q → tJs ts (tx acc) σ H R := fun {tt} hpe hread => by
            refine ⟨tt :: ts, .cons hpe hp, fun Fr ρ G σs M σ H acc Q R hR r oa q => ?_⟩
            simp only [evf] at q
            show tt σ H _
            refine hread σ H _ ⟨Fr, ρ, G, σs, M, r, (Aft.bind (RA := RRb _) q).weaker ?_⟩
            rintro x H1 ⟨ρ1, G1, M1, d, hr1, hg1, r1, k1, q1⟩
            dsimp only at q1
            cases e2 : txtOf d with
            | none => rw [e2] at q1; exact q1.elim
            | some s =>
              rw [e2] at q1
              dsimp only at q1
              split at q1
              · rename_i hl
                have os := (txtOf_fmt r1 k1 e2).2
                refine ⟨Fr, ρ1, G1, σs, M1, d, s, r1, k1, e2, tx s, rfl, ?_, ?_⟩
                · rw [tx_app, tx_len, List.length_append, line_eq]; omega
                · rw [tx_app]
                  exact hq Fr ρ1 G1 σs M1 σ H1 (acc ++ s) Q R hR r1 (oa.app os hl) q1
              · exact q1.elim
          unfold fsP at q1
          split at q1
          · split at q1
            · rename_i hk
              cases q1
              subst hk
              refine main (pe_fmt (pe_bw h1)) fun σ H R h => ?_
              obtain ⟨Fr, ρ, G, σs, M, r, q⟩ := h
              refine ⟨Fr, ρ, G, σs, M, r, q.weaker ?_⟩
              rintro x H1 ⟨Fr1, ρ1, G1, σs1, M1, d, s, r1, k1, e2, q1⟩
              rcases (txtOf_fmt r1 k1 e2).1 with ⟨y, e3, e4, e5⟩ | ⟨i, e3, e4, e5⟩
              · exact .inl ⟨y, e3, e4, by rw [e5]; exact q1⟩
              · exact .inr ⟨i, e3, e4, by rw [e5]; exact q1⟩
            · cases q1
          · cases q1
            have fk1 := fk.1
            dsimp only at fk1
            split at fk1
            · rename_i t0
              refine ⟨_ :: ts, .cons (pe_bw h1) hp, fun Fr ρ G σs M σ H acc Q R hR r oa q => ?_⟩
              simp only [evf, ev, ok1, Rs.bw, Rs.bind, txtOf] at q
              split at q
              · rename_i hl
                refine ⟨Fr, ρ, G, σs, M, r, ?_⟩
                simp only [ev, ok1, Rs.bw]
                intro ρ' G' v H' hr hg r' k'
                obtain ⟨ev', os⟩ := Bz.str r' k'
                refine ⟨tx t0, ev', ?_, ?_⟩
                · rw [tx_app, tx_len, List.length_append, line_eq]; omega
                · rw [tx_app]
                  exact hq Fr ρ' G' σs M σ H' (acc ++ t0) Q R hR r' (oa.app os hl) (q.from hr hg)
              · exact q.elim
            · cases fk1
          · cases q1
        · cases e'
theorem v_fs {as : E} {es ps : List Expr} {pos : Pos} (h : Ves T Φ nm hot X xa WW as es) (e : fsPs ps = some es) (fk : fsK as ps = true) (h2 : 2 ≤ ps.length) :
    PE X (.JoinedStr ps pos) (LK (wd X nm xa) WW fun σ M => (evf T (Φ hot) hot as [] σ M).bind fun s M => ok1 (.str s) M) := by
  obtain ⟨ts, hp, hq⟩ := fs_parts h e fk
  match ps, h2 with
  | v1 :: v2 :: rest, _ =>
    refine PE.weak (pe_joined hp) fun σ H Q ⟨Fr, ρ, G, σs, M, r, q⟩ => ?_
    have q := Aft.bind (RA := fun _ _ _ _ _ a b => a = b ∧ OkS a) q
    refine hq Fr ρ G σs M σ H [] _ (fun out H1 => Q (.str out) H1) (fun s H1 hm => ?_) r ⟨by decide, fun c hc => by cases hc⟩ q
    obtain ⟨ρ1, G1, M1, d, hr1, hg1, r1, ⟨e1, oa⟩, q1⟩ := hm
    subst e1
    exact Aft.one q1 r1 (.mkS oa)
/-- isinstance(x, (t, u)) -/
theorem v_isi2 (c : Cok T Φ Γ nm n N sc hot xa WW X) {x : Expr} {t u : Ty} {z1 z2 : String} {p1 p2 p3 p4 pos : Pos} {cx : Nat} {ra : List SV → Mem → Rs KD} (hg : gloC sc "isinstance" = true) (hs : noStar x = true) (ha : PE X x (LK (wd X nm xa) WW ra)) (h1 : tyS t = some z1) (h2 : tyS u = some z2)
    (g1 : gloC sc (Str.ofString z1) = true ∧ plainN (Str.ofString z1) = true) (g2 : gloC sc (Str.ofString z2) = true ∧ plainN (Str.ofString z2) = true) :
    PE X (.Call (.Name "isinstance" p1) [x, .Tuple [.Name (Str.ofString z1) p2, .Name (Str.ofString z2) p3] cx p4] [] pos) (LK (wd X nm xa) WW fun σ M => (ra σ M).bw.bind fun x M => okB (isI2 M x t u) M) := by
  have blt : ∀ {t : Ty} {z : String} {p : Pos}, tyS t = some z → gloC sc (Str.ofString z) = true ∧ plainN (Str.ofString z) = true → PE X (.Name (Str.ofString z) p) (tC (.ty z)) := fun {t z p} ht g => by
    have hv : bootBuiltins (Str.ofString z) = some (.type z) ∧ Str.ofString z ∈ bis := by
      cases t <;> simp only [tyS, Option.some.injEq, reduceCtorEq] at ht
      all_goals (subst ht; exact ⟨by decide +kernel, by decide +kernel⟩)
    exact pe_bltn (gl_of c g.1) (c.sk.free _ hv.2) hv.1 rfl (plainN_ok g.2).2.2 (plainN_ok g.2).1
  have ht : PE X (.Tuple [.Name (Str.ofString z1) p2, .Name (Str.ofString z2) p3] cx p4) _ := pe_tup (pa_cons (blt h1 g1) (pa_cons (blt h2 g2) pa_nil (star_cons rfl)) (star_cons rfl))
  refine PE.weak (pe_callB call_isiT (gl_of c hg) (c.sk.free _ (by decide +kernel)) (by decide +kernel) (pa_cons (pe_bw ha) (pa_cons ht pa_nil) (star_cons hs)) (by decide +kernel) (by decide +kernel) (star_cons hs) (star_any rfl)) fun σ H Q ⟨Fr, ρ, G, σs, M, r, q⟩ => ⟨Fr, ρ, G, σs, M, r, (Aft.bind (RA := RRb _) q).weaker ?_⟩
  rintro v H1 ⟨ρ1, G1, M1, d, hr1, hg1, r1, k1, q1⟩
  refine ⟨by rw [line_eq]; show 2 ≤ line; decide, fun tp htp => ?_⟩
  have r2 := r1.push htp (ho := .tup [.ty z1, .ty z2])
  obtain ⟨b, hb, q2⟩ := q1.okB r2
  unfold isI2 at hb
  obtain ⟨k, hk, eb⟩ := Option.map_eq_some_iff.mp hb
  have ty := tyX_of (K := X.K) rfl r2.gh (r2.look k1) hk
  refine ⟨v, tp, _, _, [.type z1, .type z2], b, rfl, upd_same, .cons (.ty _) (.cons (.ty _) .nil), ty, ?_, q2⟩
  unfold PySem.W.kitAny
  rw [kit_tn X.K k t h1]
  cases e1 : isTn k t with
  | true => rw [← eb, e1]; rfl
  | false =>
    unfold PySem.W.kitAny
    rw [kit_tn X.K k u h2]
    cases e2 : isTn k u with
    | true => rw [← eb, e1, e2]; rfl
    | false => rw [← eb, e1, e2]; rfl
/-- x in range(a, b), x not in range(a, b) -/
theorem op_notIn_rng : OpR X (compareOp .NotIn) (fun x y H Q => ∃ i a lo hi, x = V.int i ∧ y = V.ref a ∧ H a = some (.rng lo hi) ∧ Q (.bl (!decide (lo ≤ i ∧ i < hi))) H) := by
  intro pins s σ H x y v u Q I rx ry h
  obtain ⟨i, a, lo, hi, rfl, rfl, ha, q⟩ := h
  obtain ⟨k, rfl⟩ := rx
  obtain rfl : u = Value.ref a := ry
  obtain ⟨t1, t2, t3, ho⟩ := I.hok a _ ha
  show wpAny _ _ (do return Value.bool (!(← contains (Value.ref a) (Value.int i k)))) _ _ s
  refine wpAny_bind (wpAny_contains_slot (T := "range") ⟨_, ho, rfl⟩ PySem.F.slot_range_contains (call_meets PySem.F.slot_range_contains ⟨_, ho, rfl⟩ PySem.F.entry_range_contains (PySem.F.args_range_contains_2 _ _) (q_contains a lo hi i t1 t2 t3 k)
    ⟨ho, wpAny_truthy_bool (wpAny_pure ⟨.bl _, H, I, rfl, ?_⟩)⟩))
  rw [place1]
  exact q
theorem v_inr {neg : Bool} (c : Cok T Φ Γ nm n N sc none xa WW X) {x e f : Expr} {a b d : E} {p1 p2 pos : Pos} (hg : gloC sc "range" = true) (h1 : noStar e = true) (h2 : noStar f = true) (ha : PE X x (LK (wd X nm xa) WW fun σ M => ev T (Φ none) none a σ M)) (hb : PE X e (LK (wd X nm xa) WW fun σ M => ev T (Φ none) none b σ M)) (hd : PE X f (LK (wd X nm xa) WW fun σ M => ev T (Φ none) none d σ M)) :
    PE X (.Compare x [if neg then .NotIn else .In] [.Call (.Name "range" p1) [e, f] [] p2] pos) (LK (wd X nm xa) WW fun σ M => (evb T (Φ none) none (.cons a (.cons b (.cons d .nil))) σ M).bind fun ds M => prim (.inr neg) ds M) ∧
    PT X (.Compare x [if neg then .NotIn else .In] [.Call (.Name "range" p1) [e, f] [] p2] pos) (LT (wd X nm xa) WW fun σ M => ((evb T (Φ none) none (.cons a (.cons b (.cons d .nil))) σ M).bind fun ds M => prim (.inr neg) ds M).bl) := by
  have hr := pe_callTy (p := p1) (pos := p2) (cr_range2 (X := X)) (gl_of c hg) (c.sk.free _ (by decide +kernel)) (by decide +kernel) (pa_cons (pe_bw hb) (pa_cons (pe_bw hd) pa_nil (star_cons h2)) (star_cons h1)) (by decide +kernel) (by decide +kernel) (star_cons h1) (star_any (by simp [h2]))
  have main : ∀ {r : R2} {op : CmpOp}, OpR X (compareOp op) r → behindInMarks op (.Call (.Name "range" p1) [e, f] [] p2) = false → (∀ (i lo hi : Int) (p : Addr) (H : Hp) (Q : VK), H p = some (.rng lo hi) → Q (.bl (if neg then !decide (lo ≤ i ∧ i < hi) else decide (lo ≤ i ∧ i < hi))) H → r (.int i) (.ref p) H Q) →
      PE X (.Compare x [op] [.Call (.Name "range" p1) [e, f] [] p2] pos) (LK (wd X nm xa) WW fun σ M => (evb T (Φ none) none (.cons a (.cons b (.cons d .nil))) σ M).bind fun ds M => prim (.inr neg) ds M) ∧
      PT X (.Compare x [op] [.Call (.Name "range" p1) [e, f] [] p2] pos) (LT (wd X nm xa) WW fun σ M => ((evb T (Φ none) none (.cons a (.cons b (.cons d .nil))) σ M).bind fun ds M => prim (.inr neg) ds M).bl) := fun {r op} ho hm hr' => by
    refine (fun (rd : ∀ (σ : L2.St) (H : Hp) (Q : VK), LK (wd X nm xa) WW (fun σ M => (evb T (Φ none) none (.cons a (.cons b (.cons d .nil))) σ M).bind fun ds M => prim (.inr neg) ds M) σ H Q → tOp r (LB (wd X nm xa) WW fun σ M => (ev T (Φ none) none a σ M).bw) (tCB (fun vs H Q => ∃ i j, vs = [V.int i, V.int j] ∧ ∀ p, H p = none → Q (.ref p) (upd H p (.rng i j))) (tCons (LB (wd X nm xa) WW fun σ M => (ev T (Φ none) none b σ M).bw) (tCons (LB (wd X nm xa) WW fun σ M => (ev T (Φ none) none d σ M).bw) tNil))) σ H Q) => ⟨PE.weak (pe_cmpR ho (pe_bw ha) hr hm) rd, PT.weak (pt_cmpR ho (pe_bw ha) hr hm) fun σ H Q ⟨Fr, ρ, G, σs, M, r0, q⟩ => rd σ H _ ⟨Fr, ρ, G, σs, M, r0, q.of_bl.bl⟩⟩) ?_
    rintro σ H Q ⟨Fr, ρ, G, σs, M, r0, q⟩
    simp only [evb, rs_bind, rs_ok, prim, ppInr] at q
    refine ⟨Fr, ρ, G, σs, M, r0, (Aft.bind (RA := RRb _) q).weaker ?_⟩
    rintro v1 H1 ⟨ρ1, G1, M1, d1, hr1, hg1, r1, k1, q1⟩
    refine ⟨Fr, ρ1, G1, σs, M1, r1, (Aft.bind (RA := RRb _) q1).weaker ?_⟩
    rintro v2 H2 ⟨ρ2, G2, M2, d2, hr2, hg2, r2, k2, q2⟩
    refine ⟨Fr, ρ2, G2, σs, M2, r2, (Aft.bind (RA := RRb _) q2).weaker ?_⟩
    rintro v3 H3 ⟨ρ3, G3, M3, d3, hr3, hg3, r3, k3, q3⟩
    dsimp only at q3
    split at q3
    · rename_i i lo hi heq
      simp only [List.cons.injEq, and_true] at heq
      obtain ⟨rfl, rfl, rfl⟩ := heq
      have e1 : v1 = .int i := (k1.mono (hr2.trans hr3) (hg2.trans hg3)).int r3
      have e2 : v2 = .int lo := (k2.mono hr3 hg3).int r3
      have e3 : v3 = .int hi := k3.int r3
      subst e1 e2 e3
      exact ⟨lo, hi, rfl, fun p hp => hr' i lo hi p _ _ upd_same (q3.one (r3.push hp) rfl)⟩
    · exact q3.elim
  cases neg with
  | false => exact main op_in_rng rfl fun i lo hi p H Q h q => ⟨i, p, lo, hi, rfl, rfl, h, q⟩
  | true => exact main op_notIn_rng rfl fun i lo hi p H Q h q => ⟨i, p, lo, hi, rfl, rfl, h, q⟩
/-- xs.extend(ys) of a shared list -/
theorem s_ext {o e : Expr} {ap cp pos : Pos} {ro re : List SV → Mem → Rs KD} (ho : PE X o (LK W WW ro)) (he : PE X e (LK W WW re)) (hc : noCall o = true) (hl : (ap.endLine == cp.line) = true) (hs : noStar e = true) :
    PS X (.Expr (.Call (.Attribute o "extend" ap) [e] [] cp) pos) (LS W WW fun σ M => (ro σ M).on σ fun r M => (match r with
      | ⟨.f, .cell j⟩ => (match M.getD j .non with
        | .lst _ => (re σ M).bw.on σ fun d M => (match M.getD j .non, deref M d with
          | .lst xs, .lst ys => if xs.length + ys.length < line then .nx σ (M.set j (.lst (xs ++ ys))) else .stk
          | _, _ => .stk)
        | _ => .stk)
      | _ => .stk)) := by
  refine PS.weak (ps_expr (pe_bm PySem.F.plainAttrs_list PySem.F.slot_list_extend PySem.F.type_list_extend mt_extend ho (pa_cons (pe_bw he) pa_nil (star_cons hs)) (base_ok hc) (by rw [star_cons hs]; rfl) hl (star_cons hs) (star_any rfl)) rfl) fun D σ H ⟨Fr, ρ, G, σs, M, r, q⟩ => ⟨Fr, ρ, G, σs, M, r, (AftS.on (RA := RRk W Fr) q).weaker ?_⟩
  rintro x H1 ⟨ρ1, G1, M1, kd, hr, hg, r1, k1, q1⟩
  have at_ : ∀ {ρ' : List Addr} {G' : Hp} {M' : Mem} {H' : Hp} {j : Nat} {a : Addr} {xs : List VM.D}, Rel W Fr ρ' G' σs M' σ H' → ρ'[j]? = some a → M'.getD j .non = .lst xs → ∃ vs, H' a = some (.lst vs) ∧ xs.length < line ∧ Fzs W ρ' G' xs vs := fun {ρ' G' M' H' j a xs} r' e1 e2 => by
    have hj : j < M'.length := by rw [r'.len]; exact (List.getElem?_eq_some_iff.mp e1).1
    have e3 : M'[j]? = some (.lst xs) := by
      rw [List.getElem?_eq_getElem hj]
      simp only [List.getD, List.getElem?_eq_getElem hj, Option.getD_some] at e2
      rw [e2]
    obtain ⟨ho, b1, c, _⟩ := r'.mem j a _ e1 e3
    obtain ⟨vs, rfl, l, f⟩ := c
    exact ⟨vs, b1, l, f⟩
  split at q1
  · rename_i j
    have k1 : Fz W ρ1 G1 (.cell j) x := k1
    unfold Fz at k1
    obtain ⟨a, rfl, ej⟩ := k1
    split at q1
    · rename_i xs0 e0
      obtain ⟨vs0, b0, _, _⟩ := at_ r1 ej e0
      refine ⟨.inl ⟨rfl, vs0, .of b0⟩, Fr, ρ1, G1, σs, M1, r1, (AftS.on (RA := RRb W) q1).weaker ?_⟩
      rintro y H2 ⟨ρ2, G2, M2, d, hr2, hg2, r2, k2, q2⟩
      split at q2
      · rename_i xs ys e1 e2
        obtain ⟨vs1, b1, l1, f1⟩ := at_ r2 (hr2 _ _ ej) e1
        split at q2
        · rename_i hlen
          have l := r2.look k2
          rw [e2] at l
          obtain ⟨b, zs, rfl, hb, lb, fb⟩ := l
          refine ⟨a, b, vs1, zs, rfl, rfl, b1, hb, by rw [← f1.length, ← fb.length, line_eq]; omega, ?_⟩
          exact q2 ρ2 G2 σ _ (Rle.refl _) (Hle.refl _) (r2.cell_w (hr2 _ _ ej) (nlk e1 rfl) ⟨_, rfl, by rw [List.length_append]; exact hlen, f1.append fb⟩)
        · exact q2.elim
      · exact q2.elim
    · exact q1.elim
  · exact q1.elim
end
end VM
/-! VM10: the checker, expressions. -/
namespace VM
open PySem L2 PySem.Spec PyProof.Rows

def pfS : Pf → Str
  | .len => "len" | .sum => "sum" | .abs => "abs" | .int => "int" | .divmod => "divmod" | .all => "all" | .list => "list" | .tuple => "tuple" | .max => "max" | .min => "min" | .sorted => "sorted"
def tyC (Γ : Tx) (sc : Scope) (t : Ty) (y : Str) : Bool :=
  match t with
  | .cls c => decide (Γ.cs[c]? = some y) && (gloC sc y && plainN y)
  | .kls c => decide (Γ.ks[c]? = some y) && (gloC sc y && plainN y)
  | t => (match tyS t with
    | some z => decide (y = Str.ofString z) && (gloC sc y && plainN y)
    | none => false)
def ownP (N : List Str) (own : List Nat) : List (Str × Nat) := own.map fun i => (N.getD i "", i)
theorem ownP_snd (N : List Str) (own : List Nat) : (ownP N own).map (·.2) = own := by
  unfold ownP
  rw [List.map_map]
  exact List.map_id own
/-- a name that a block's target may be -/
def locB (scope rs : Scope) (x : Str) : Bool :=
  match rs.names.lookup x with
  | some .local => true
  | some .cell => (match scope.names.lookup x with
    | some .cell => true
    | _ => false)
  | _ => false
/-- the text of a walk by zip, enumerate, reversed, or over signs: what is walked -/
def ikC (sc : Scope) (k : Ik) (tg iter : Expr) : Option (List Expr) :=
  match k with
  | .zip => (match tg, iter with
    | .Tuple _ _ _, .Call (.Name x _) [a, b] [] _ => if x = "zip" ∧ gloC sc "zip" = true ∧ noStar a = true ∧ noStar b = true then some [a, b] else none
    | _, _ => none)
  | .enu => (match tg, iter with
    | .Tuple _ _ _, .Call (.Name x _) [a] [] _ => if x = "enumerate" ∧ gloC sc "enumerate" = true ∧ noStar a = true then some [a] else none
    | _, _ => none)
  | .rev => (match iter with
    | .Call (.Name x _) [a] [] _ => if x = "reversed" ∧ gloC sc "reversed" = true ∧ noStar a = true then some [a] else none
    | _ => none)
  | .sgn => if notSet iter = true ∧ noStar iter = true then some [iter] else none
theorem ikC_ok {sc : Scope} {k : Ik} {tg iter : Expr} {es : List Expr} (h : ikC sc k tg iter = some es) : IkA sc k tg iter es ∧ (∀ env x, foldedSetIterable iter env x = pure x) := by
  unfold ikC at h
  cases k with
  | zip =>
    dsimp only at h
    split at h
    · split at h
      · rename_i hh
        obtain ⟨rfl, h2, h3, h4⟩ := hh
        cases h
        exact ⟨.zip h2 h3 h4, fun _ _ => rfl⟩
      · cases h
    · cases h
  | enu =>
    dsimp only at h
    split at h
    · split at h
      · rename_i hh
        obtain ⟨rfl, h2, h3⟩ := hh
        cases h
        exact ⟨.enu h2 h3, fun _ _ => rfl⟩
      · cases h
    · cases h
  | rev =>
    dsimp only at h
    split at h
    · split at h
      · rename_i hh
        obtain ⟨rfl, h2, h3⟩ := hh
        cases h
        exact ⟨.rev h2 h3, fun _ _ => rfl⟩
      · cases h
    · cases h
  | sgn =>
    dsimp only at h
    split at h
    · rename_i hh
      cases h
      exact ⟨.sgn hh.1, fun env x => folded_ok hh.1 env x⟩
    · cases h
def dSl (lo hi : Bool) (e : Expr) : Option (List Expr) :=
  match e with
  | .Subscript x (.Slice l h none _) _ => (match lo, hi, l, h with
    | false, false, none, none => some [x]
    | true, false, some l, none => some [x, l]
    | false, true, none, some h => some [x, h]
    | _, _, _, _ => none)
  | _ => none
def isM1 (e : Expr) : Bool :=
  match e with
  | .UnaryOp .USub (.Constant (.int 1) _ _) _ => true
  | _ => false
def dRv (e : Expr) : Option (List Expr) :=
  match e with
  | .Subscript x (.Slice none none (some s) _) _ => if isM1 s then some [x] else none
  | _ => none
def dC1 (f : Str) (sc : Scope) (e : Expr) : Option (List Expr) :=
  match e with
  | .Call (.Name g _) [x] [] _ => if g = f ∧ gloC sc f = true ∧ noStar x = true then some [x] else none
  | _ => none
def dS1 (f : Str) (sc : Scope) (e : Expr) : Option (List Expr) :=
  match e with
  | .Call (.Name g _) [.Call (.Name h _) [x] [] _] [] _ => if g = f ∧ h = "set" ∧ gloC sc f = true ∧ gloC sc "set" = true ∧ noStar x = true then some [x] else none
  | _ => none
def irO (neg : Bool) : CmpOp := if neg then .NotIn else .In
def dIr (neg : Bool) (sc : Scope) (e : Expr) : Option (List Expr) :=
  match e with
  | .Compare x [op] [.Call (.Name g _) [a, b] [] _] _ => if op = irO neg ∧ g = "range" ∧ gloC sc "range" = true ∧ noStar a = true ∧ noStar b = true then some [x, a, b] else none
  | _ => none
def tyC2 (sc : Scope) (t : Ty) (y : Str) : Bool :=
  match tyS t with
  | some z => decide (y = Str.ofString z) && (gloC sc y && plainN y)
  | none => false
/-- the parts of a built-in's use -/
def dPr (p : Pp) (sc : Scope) (e : Expr) : Option (List Expr) :=
  match p with
  | .sl lo hi => dSl lo hi e
  | .rvl => dRv e
  | .dct1 => dC1 "dict" sc e
  | .str1 => dC1 "str" sc e
  | .sset => dS1 "sorted" sc e
  | .lset => dS1 "len" sc e
  | .inr neg => dIr neg sc e
  | _ => none
mutual
def chkE (Γ : Tx) (N : List Str) : E → Scope → Expr → Bool
  | .v i, sc, e => (match e with
    | .Name x _ => decide (N[i]? = some x) && (visC sc x && plainN x)
    | _ => false)
  | .c d, _, e => (match e with
    | .Constant k _ _ => constC d k
    | _ => false)
  | .g g, sc, e => (match e with
    | .Name x _ => decide (Γ.gl[g]? = some x) && (gloC sc x && plainN x)
    | _ => false)
  | .bin o a b, sc, e => (match e with
    | .BinOp x op y _ => decide (op = opA o) && (chkE Γ N a sc x && chkE Γ N b sc y)
    | _ => false)
  | .neg a, sc, e => (match e with
    | .UnaryOp .USub x _ => chkE Γ N a sc x
    | _ => false)
  | .not a, sc, e => (match e with
    | .UnaryOp .Not x _ => chkE Γ N a sc x
    | _ => false)
  | .and a b, sc, e => (match e with
    | .BoolOp .And [x, y] _ => chkE Γ N a sc x && chkE Γ N b sc y
    | .BoolOp .And (x :: y :: z :: r) p => chkE Γ N a sc x && chkE Γ N b sc (.BoolOp .And (y :: z :: r) p)
    | _ => false)
  | .or a b, sc, e => (match e with
    | .BoolOp .Or [x, y] _ => chkE Γ N a sc x && chkE Γ N b sc y
    | .BoolOp .Or (x :: y :: z :: r) p => chkE Γ N a sc x && chkE Γ N b sc (.BoolOp .Or (y :: z :: r) p)
    | _ => false)
  | .cmp o a b, sc, e => (match e with
    | .Compare x [op] [y] _ => decide (op = cpA o) && (!behindInMarks (cpA o) y && (chkE Γ N a sc x && chkE Γ N b sc y))
    | _ => false)
  | .chn o o' a b c, sc, e => (match e with
    | .Compare x [op, op'] [y, z] _ => decide (op = cpA o) && (decide (op' = cpA o') && (!lastMarks [cpA o, cpA o'] [y, z] && (chkE Γ N a sc x && (chkE Γ N b sc y && chkE Γ N c sc z))))
    | _ => false)
  | .ife t a b, sc, e => (match e with
    | .IfExp x y z _ => chkE Γ N t sc x && (chkE Γ N a sc y && chkE Γ N b sc z)
    | _ => false)
  | .call f as, sc, e => (match e with
    | .Call (.Name x _) [] [] _ => (match Γ.fs[f]? with
      | some (y, _) => decide (x = y) && (gloC sc x && (plainN x && as.isNil))
      | none => false)
    | .Call (.Name x _) (a :: es) [] _ => (match Γ.fs[f]? with
      | some (y, _) => decide (x = y) && (gloC sc x && (plainN x && (noStar a && (es.all noStar && chkL Γ N as sc (a :: es)))))
      | none => false)
    | _ => false)
  | .bf p as, sc, e => (match e with
    | .Call (.Name x _) (a :: es) [] _ => decide (x = pfS p) && (gloC sc x && (noStar a && (es.all noStar && chkL Γ N as sc (a :: es))))
    | _ => false)
  | .isi a t, sc, e => (match e with
    | .Call (.Name f _) [x, .Name y _] [] _ => decide (f = "isinstance") && (gloC sc f && (noStar x && (chkE Γ N a sc x && tyC Γ sc t y)))
    | _ => false)
  | .ix a i, sc, e => (match e with
    | .Subscript x y _ => noSlice y && (chkE Γ N a sc x && chkE Γ N i sc y)
    | _ => false)
  | .tup as, sc, e => (match e with
    | .Tuple es _ _ => chkL Γ N as sc es
    | _ => false)
  | .lst as, sc, e => (match e with
    | .List es _ => chkL Γ N as sc es
    | _ => false)
  | .dct0, _, e => (match e with
    | .Dict [] [] _ => true
    | _ => false)
  | .lc own t it c el, sc, e => (match e with
    | .ListComp elt [⟨tg, iter, ifs, 0⟩] scope _ => notSet iter && (chkE Γ N it sc iter && (blkC N sc scope (ownP N own) && (chkT N (locB scope (relS scope sc)) t tg && (t.is.all (fun j => decide (j ∈ own)) &&
      ((match ifs with
        | [] => c.isNil
        | [x] => !c.isNil && chkE Γ N c (relS scope sc) x
        | _ => false) && chkE Γ N el (relS scope sc) elt)))))
    | _ => false)
  | .lcr own t as c el, sc, e => (match e with
    | .ListComp elt [⟨tg, .Call (.Name f _) args [] _, ifs, 0⟩] scope _ => decide (f = "range") && (gloC sc f && ((match args with
        | [x] => noStar x
        | [x, y] => noStar x && noStar y
        | _ => false) && (chkL Γ N as sc args && (blkC N sc scope (ownP N own) && (chkT N (locB scope (relS scope sc)) t tg && (t.is.all (fun j => decide (j ∈ own)) &&
      ((match ifs with
        | [] => c.isNil
        | [x] => !c.isNil && chkE Γ N c (relS scope sc) x
        | _ => false) && chkE Γ N el (relS scope sc) elt)))))))
    | _ => false)
  | .cel a, sc, e => noComp e && chkE Γ N a sc e
  | .rgl a b, sc, e => (match e with
    | .Call (.Name f _) [.Call (.Name g _) [x, y] [] _] [] _ => decide (f = "list") && (decide (g = "range") && (gloC sc "list" && (gloC sc "range" && (noStar x && (noStar y && (chkE Γ N a sc x && chkE Γ N b sc y))))))
    | _ => false)
  | .pr p as, sc, e => (match dPr p sc e with
    | some es => chkL Γ N as sc es
    | none => false)
  | .dsp ks as, sc, e => (match e with
    | .Dict keys es _ => kysC ks keys && (decide (keys.length = es.length) && (decide (0 < keys.length) && (decide (keys.length ≤ 15) && chkL Γ N as sc es)))
    | _ => false)
  | .sl3 a l h, sc, e => (match e with
    | .Subscript x (.Slice (some y) (some z) none _) _ => chkE Γ N a sc x && (chkE Γ N l sc y && chkE Γ N h sc z)
    | _ => false)
  | .pm p o as, sc, e => (match e with
    | .Call (.Attribute x m ap) (a :: es) [] cp => decide (m = pmS p) && (noCall x && ((ap.endLine == cp.line) && ((a :: es).all noStar && (decide ((a :: es).length < 20) && (chkE Γ N o sc x && (chkL Γ N as sc (a :: es) && (match p with
      | .get => decide (es.length < 2)
      | .tm _ => es.isEmpty
      | _ => true)))))))
    | _ => false)
  | .att a f, sc, e => (match e with
    | .Attribute x m _ => decide (Γ.fd[f]? = some m) && (decide (m ≠ "") && (noCall x && chkE Γ N a sc x))
    | _ => false)
  | .meth o m as, sc, e => (match e with
    | .Call (.Attribute x f ap) es [] cp => decide (Γ.ms[m]? = some f) && (noCall x && ((ap.endLine == cp.line) && (es.all noStar && (decide (es.length < 20) && (chkE Γ N o sc x && chkL Γ N as sc es)))))
    | _ => false)
  | .mk _ k as, sc, e => (match e with
    | .Call (.Name x _) es [] _ => decide (Γ.ks[k]? = some x) && (gloC sc x && (plainN x && (es.all noStar && chkL Γ N as sc es)))
    | _ => false)
  | .sup k as, sc, e => (match e with
    | .Call (.Attribute (.Name x _) f ap) (a :: es) [] cp => decide (Γ.ks[k]? = some x) && (decide (f = "__init__") && (gloC sc x && (plainN x && ((ap.endLine == cp.line) && (noStar a && (es.all noStar && (decide ((a :: es).length < 20) && chkL Γ N as sc (a :: es))))))))
    | _ => false)
  | .gf f, sc, e => (match e with
    | .Name x _ => (match Γ.fs[f]? with
      | some (y, _) => decide (x = y) && (gloC sc x && plainN x)
      | none => false)
    | _ => false)
  | .lci k own t as c el, sc, e => (match e with
    | .ListComp elt [⟨tg, iter, ifs, 0⟩] scope _ => (match ikC sc k tg iter with
      | some es => chkL Γ N as sc es && (blkC N sc scope (ownP N own) && (chkT N (locB scope (relS scope sc)) t tg && (t.is.all (fun j => decide (j ∈ own)) &&
      ((match ifs with
        | [] => c.isNil
        | [x] => !c.isNil && chkE Γ N c (relS scope sc) x
        | _ => false) && chkE Γ N el (relS scope sc) elt))))
      | none => false)
    | _ => false)
  | .fs as, sc, e => (match e with
    | .JoinedStr ps _ => (match fsPs ps with
      | some es => decide (2 ≤ ps.length) && (fsK as ps && chkL Γ N as sc es)
      | none => false)
    | _ => false)
  | .isi2 a t u, sc, e => (match e with
    | .Call (.Name f _) [x, .Tuple [.Name y _, .Name z _] _ _] [] _ => decide (f = "isinstance") && (gloC sc f && (noStar x && (chkE Γ N a sc x && (tyC2 sc t y && tyC2 sc u z))))
    | _ => false)
  | .lcd own t a c el, sc, e => (match e with
    | .ListComp elt [⟨tg, iter, ifs, 0⟩] scope _ => notSet iter && (chkE Γ N a sc iter && (blkC N sc scope (ownP N own) && (chkT N (locB scope (relS scope sc)) t tg && (t.is.all (fun j => decide (j ∈ own)) &&
      ((match ifs with
        | [] => c.isNil
        | [x] => !c.isNil && chkE Γ N c (relS scope sc) x
        | _ => false) && chkE Γ N el (relS scope sc) elt)))))
    | _ => false)
  | .cv fs f as, sc, e => (match e with
    | .Call (.Subscript x y p) (a :: es) [] _ => fs.all (fun f => match Γ.fs[f]? with
      | some (z, _) => plainN z
      | none => false) && (chkE Γ N f sc (.Subscript x y p) && (noStar a && (es.all noStar && chkL Γ N as sc (a :: es))))
    | _ => false)
  | .nil, _, _ => false
  | .cons _ _, _, _ => false
def chkL (Γ : Tx) (N : List Str) : E → Scope → List Expr → Bool
  | .nil, _, es => es.isEmpty
  | .cons a as, sc, es => (match es with
    | e :: es => noStar e && (chkE Γ N a sc e && chkL Γ N as sc es)
    | _ => false)
  | _, _, _ => false
end
/-! equations of the check -/
theorem chkE_v {Γ N i sc e} : chkE Γ N (.v i) sc e = ((match e with
    | .Name x _ => decide (N[i]? = some x) && (visC sc x && plainN x)
    | _ => false)) := by rfl
theorem chkE_c {Γ N d w1 e} : chkE Γ N (.c d) w1 e = ((match e with
    | .Constant k _ _ => constC d k
    | _ => false)) := by rfl
theorem chkE_g {Γ N g sc e} : chkE Γ N (.g g) sc e = ((match e with
    | .Name x _ => decide (Γ.gl[g]? = some x) && (gloC sc x && plainN x)
    | _ => false)) := by rfl
theorem chkE_bin {Γ N o a b sc e} : chkE Γ N (.bin o a b) sc e = ((match e with
    | .BinOp x op y _ => decide (op = opA o) && (chkE Γ N a sc x && chkE Γ N b sc y)
    | _ => false)) := by rfl
theorem chkE_neg {Γ N a sc e} : chkE Γ N (.neg a) sc e = ((match e with
    | .UnaryOp .USub x _ => chkE Γ N a sc x
    | _ => false)) := by rfl
theorem chkE_not {Γ N a sc e} : chkE Γ N (.not a) sc e = ((match e with
    | .UnaryOp .Not x _ => chkE Γ N a sc x
    | _ => false)) := by rfl
theorem chkE_and {Γ N a b sc e} : chkE Γ N (.and a b) sc e = ((match e with
    | .BoolOp .And [x, y] _ => chkE Γ N a sc x && chkE Γ N b sc y
    | .BoolOp .And (x :: y :: z :: r) p => chkE Γ N a sc x && chkE Γ N b sc (.BoolOp .And (y :: z :: r) p)
    | _ => false)) := by rfl
theorem chkE_or {Γ N a b sc e} : chkE Γ N (.or a b) sc e = ((match e with
    | .BoolOp .Or [x, y] _ => chkE Γ N a sc x && chkE Γ N b sc y
    | .BoolOp .Or (x :: y :: z :: r) p => chkE Γ N a sc x && chkE Γ N b sc (.BoolOp .Or (y :: z :: r) p)
    | _ => false)) := by rfl
theorem chkE_cmp {Γ N o a b sc e} : chkE Γ N (.cmp o a b) sc e = ((match e with
    | .Compare x [op] [y] _ => decide (op = cpA o) && (!behindInMarks (cpA o) y && (chkE Γ N a sc x && chkE Γ N b sc y))
    | _ => false)) := by rfl
theorem chkE_chn {Γ N o o' a b c sc e} : chkE Γ N (.chn o o' a b c) sc e = ((match e with
    | .Compare x [op, op'] [y, z] _ => decide (op = cpA o) && (decide (op' = cpA o') && (!lastMarks [cpA o, cpA o'] [y, z] && (chkE Γ N a sc x && (chkE Γ N b sc y && chkE Γ N c sc z))))
    | _ => false)) := by rfl
theorem chkE_ife {Γ N t a b sc e} : chkE Γ N (.ife t a b) sc e = ((match e with
    | .IfExp x y z _ => chkE Γ N t sc x && (chkE Γ N a sc y && chkE Γ N b sc z)
    | _ => false)) := by rfl
theorem chkE_call {Γ N f as sc e} : chkE Γ N (.call f as) sc e = ((match e with
    | .Call (.Name x _) [] [] _ => (match Γ.fs[f]? with
      | some (y, _) => decide (x = y) && (gloC sc x && (plainN x && as.isNil))
      | none => false)
    | .Call (.Name x _) (a :: es) [] _ => (match Γ.fs[f]? with
      | some (y, _) => decide (x = y) && (gloC sc x && (plainN x && (noStar a && (es.all noStar && chkL Γ N as sc (a :: es)))))
      | none => false)
    | _ => false)) := by rfl
theorem chkE_bf {Γ N p as sc e} : chkE Γ N (.bf p as) sc e = ((match e with
    | .Call (.Name x _) (a :: es) [] _ => decide (x = pfS p) && (gloC sc x && (noStar a && (es.all noStar && chkL Γ N as sc (a :: es))))
    | _ => false)) := by rfl
theorem chkE_isi {Γ N a t sc e} : chkE Γ N (.isi a t) sc e = ((match e with
    | .Call (.Name f _) [x, .Name y _] [] _ => decide (f = "isinstance") && (gloC sc f && (noStar x && (chkE Γ N a sc x && tyC Γ sc t y)))
    | _ => false)) := by rfl
theorem chkE_ix {Γ N a i sc e} : chkE Γ N (.ix a i) sc e = ((match e with
    | .Subscript x y _ => noSlice y && (chkE Γ N a sc x && chkE Γ N i sc y)
    | _ => false)) := by rfl
theorem chkE_tup {Γ N as sc e} : chkE Γ N (.tup as) sc e = ((match e with
    | .Tuple es _ _ => chkL Γ N as sc es
    | _ => false)) := by rfl
theorem chkE_lst {Γ N as sc e} : chkE Γ N (.lst as) sc e = ((match e with
    | .List es _ => chkL Γ N as sc es
    | _ => false)) := by rfl
theorem chkE_dct0 {Γ N w1 e} : chkE Γ N .dct0 w1 e = ((match e with
    | .Dict [] [] _ => true
    | _ => false)) := by rfl
theorem chkE_lc {Γ N own t it c el sc e} : chkE Γ N (.lc own t it c el) sc e = ((match e with
    | .ListComp elt [⟨tg, iter, ifs, 0⟩] scope _ => notSet iter && (chkE Γ N it sc iter && (blkC N sc scope (ownP N own) && (chkT N (locB scope (relS scope sc)) t tg && (t.is.all (fun j => decide (j ∈ own)) &&
      ((match ifs with
        | [] => c.isNil
        | [x] => !c.isNil && chkE Γ N c (relS scope sc) x
        | _ => false) && chkE Γ N el (relS scope sc) elt)))))
    | _ => false)) := by rfl
theorem chkE_lcr {Γ N own t as c el sc e} : chkE Γ N (.lcr own t as c el) sc e = ((match e with
    | .ListComp elt [⟨tg, .Call (.Name f _) args [] _, ifs, 0⟩] scope _ => decide (f = "range") && (gloC sc f && ((match args with
        | [x] => noStar x
        | [x, y] => noStar x && noStar y
        | _ => false) && (chkL Γ N as sc args && (blkC N sc scope (ownP N own) && (chkT N (locB scope (relS scope sc)) t tg && (t.is.all (fun j => decide (j ∈ own)) &&
      ((match ifs with
        | [] => c.isNil
        | [x] => !c.isNil && chkE Γ N c (relS scope sc) x
        | _ => false) && chkE Γ N el (relS scope sc) elt)))))))
    | _ => false)) := by rfl
theorem chkE_cel {Γ N a sc e} : chkE Γ N (.cel a) sc e = (noComp e && chkE Γ N a sc e) := by rfl
theorem chkE_rgl {Γ N a b sc e} : chkE Γ N (.rgl a b) sc e = ((match e with
    | .Call (.Name f _) [.Call (.Name g _) [x, y] [] _] [] _ => decide (f = "list") && (decide (g = "range") && (gloC sc "list" && (gloC sc "range" && (noStar x && (noStar y && (chkE Γ N a sc x && chkE Γ N b sc y))))))
    | _ => false)) := by rfl
theorem chkE_pr {Γ N p as sc e} : chkE Γ N (.pr p as) sc e = ((match dPr p sc e with
    | some es => chkL Γ N as sc es
    | none => false)) := by rfl
theorem chkE_dsp {Γ N ks as sc e} : chkE Γ N (.dsp ks as) sc e = ((match e with
    | .Dict keys es _ => kysC ks keys && (decide (keys.length = es.length) && (decide (0 < keys.length) && (decide (keys.length ≤ 15) && chkL Γ N as sc es)))
    | _ => false)) := by rfl
theorem chkE_sl3 {Γ N a l h sc e} : chkE Γ N (.sl3 a l h) sc e = ((match e with
    | .Subscript x (.Slice (some y) (some z) none _) _ => chkE Γ N a sc x && (chkE Γ N l sc y && chkE Γ N h sc z)
    | _ => false)) := by rfl
theorem chkE_pm {Γ N p o as sc e} : chkE Γ N (.pm p o as) sc e = ((match e with
    | .Call (.Attribute x m ap) (a :: es) [] cp => decide (m = pmS p) && (noCall x && ((ap.endLine == cp.line) && ((a :: es).all noStar && (decide ((a :: es).length < 20) && (chkE Γ N o sc x && (chkL Γ N as sc (a :: es) && (match p with
      | .get => decide (es.length < 2)
      | .tm _ => es.isEmpty
      | _ => true)))))))
    | _ => false)) := by rfl
theorem chkE_att {Γ N a f sc e} : chkE Γ N (.att a f) sc e = ((match e with
    | .Attribute x m _ => decide (Γ.fd[f]? = some m) && (decide (m ≠ "") && (noCall x && chkE Γ N a sc x))
    | _ => false)) := by rfl
theorem chkE_meth {Γ N o m as sc e} : chkE Γ N (.meth o m as) sc e = ((match e with
    | .Call (.Attribute x f ap) es [] cp => decide (Γ.ms[m]? = some f) && (noCall x && ((ap.endLine == cp.line) && (es.all noStar && (decide (es.length < 20) && (chkE Γ N o sc x && chkL Γ N as sc es)))))
    | _ => false)) := by rfl
theorem chkE_mk {Γ N w1 k as sc e} : chkE Γ N (.mk w1 k as) sc e = ((match e with
    | .Call (.Name x _) es [] _ => decide (Γ.ks[k]? = some x) && (gloC sc x && (plainN x && (es.all noStar && chkL Γ N as sc es)))
    | _ => false)) := by rfl
theorem chkE_sup {Γ N k as sc e} : chkE Γ N (.sup k as) sc e = ((match e with
    | .Call (.Attribute (.Name x _) f ap) (a :: es) [] cp => decide (Γ.ks[k]? = some x) && (decide (f = "__init__") && (gloC sc x && (plainN x && ((ap.endLine == cp.line) && (noStar a && (es.all noStar && (decide ((a :: es).length < 20) && chkL Γ N as sc (a :: es))))))))
    | _ => false)) := by rfl
theorem chkE_gf {Γ N f sc e} : chkE Γ N (.gf f) sc e = ((match e with
    | .Name x _ => (match Γ.fs[f]? with
      | some (y, _) => decide (x = y) && (gloC sc x && plainN x)
      | none => false)
    | _ => false)) := by rfl
theorem chkE_lci {Γ N k own t as c el sc e} : chkE Γ N (.lci k own t as c el) sc e = ((match e with
    | .ListComp elt [⟨tg, iter, ifs, 0⟩] scope _ => (match ikC sc k tg iter with
      | some es => chkL Γ N as sc es && (blkC N sc scope (ownP N own) && (chkT N (locB scope (relS scope sc)) t tg && (t.is.all (fun j => decide (j ∈ own)) &&
      ((match ifs with
        | [] => c.isNil
        | [x] => !c.isNil && chkE Γ N c (relS scope sc) x
        | _ => false) && chkE Γ N el (relS scope sc) elt))))
      | none => false)
    | _ => false)) := by rfl
theorem chkE_fs {Γ N as sc e} : chkE Γ N (.fs as) sc e = ((match e with
    | .JoinedStr ps _ => (match fsPs ps with
      | some es => decide (2 ≤ ps.length) && (fsK as ps && chkL Γ N as sc es)
      | none => false)
    | _ => false)) := by rfl
theorem chkE_isi2 {Γ N a t u sc e} : chkE Γ N (.isi2 a t u) sc e = ((match e with
    | .Call (.Name f _) [x, .Tuple [.Name y _, .Name z _] _ _] [] _ => decide (f = "isinstance") && (gloC sc f && (noStar x && (chkE Γ N a sc x && (tyC2 sc t y && tyC2 sc u z))))
    | _ => false)) := by rfl
theorem chkE_lcd {Γ N own t a c el sc e} : chkE Γ N (.lcd own t a c el) sc e = ((match e with
    | .ListComp elt [⟨tg, iter, ifs, 0⟩] scope _ => notSet iter && (chkE Γ N a sc iter && (blkC N sc scope (ownP N own) && (chkT N (locB scope (relS scope sc)) t tg && (t.is.all (fun j => decide (j ∈ own)) &&
      ((match ifs with
        | [] => c.isNil
        | [x] => !c.isNil && chkE Γ N c (relS scope sc) x
        | _ => false) && chkE Γ N el (relS scope sc) elt)))))
    | _ => false)) := by rfl
theorem chkE_nil {Γ N w1 w2} : chkE Γ N .nil w1 w2 = (false) := by rfl
theorem chkE_cons {Γ N w1 w2 w3 w4} : chkE Γ N (.cons w1 w2) w3 w4 = (false) := by rfl
theorem chkE_cv {Γ N fs f as sc e} : chkE Γ N (.cv fs f as) sc e = ((match e with
    | .Call (.Subscript x y p) (a :: es) [] _ => fs.all (fun f => match Γ.fs[f]? with
      | some (z, _) => plainN z
      | none => false) && (chkE Γ N f sc (.Subscript x y p) && (noStar a && (es.all noStar && chkL Γ N as sc (a :: es))))
    | _ => false)) := by rfl
theorem chkL_nil {Γ N sc es} : chkL Γ N .nil sc es = es.isEmpty := by rfl
theorem chkL_cons {Γ N a as sc es} : chkL Γ N (.cons a as) sc es = (match es with
    | e :: es => noStar e && (chkE Γ N a sc e && chkL Γ N as sc es)
    | _ => false) := by rfl
section
variable {T : Tab} {Φ : Hot → Nat → List D → Mem → Rs KD} {Γ : Tx} {nm : Nm} {n : Nat} {N : List Str} {hot : Hot}
/-- what is shown of an expression -/
structure Ve (T : Tab) (Φ : Hot → Nat → List D → Mem → Rs KD) (nm : Nm) (hot : Hot) (X : Cx) (xa : Option Addr) (WW : WX) (e : E) (ast : Expr) : Prop where
  pe : PE X ast (LK (wd X nm xa) WW fun σ M => ev T (Φ hot) hot e σ M)
  pt : PT X ast (LT (wd X nm xa) WW fun σ M => (ev T (Φ hot) hot e σ M).bl)
  pw : ∀ op vs pos, ast = .BoolOp op vs pos → PW X ast (LT (wd X nm xa) WW fun σ M => (ev T (Φ hot) hot e σ M).bl)
structure Va (T : Tab) (Φ : Hot → Nat → List D → Mem → Rs KD) (nm : Nm) (hot : Hot) (X : Cx) (xa : Option Addr) (WW : WX) (e : E) (asts : List Expr) : Prop where
  f : PA X asts (LA (wd X nm xa) WW fun σ M => evs T (Φ hot) hot e σ M)
  b : PA X asts (LAb (wd X nm xa) WW fun σ M => evb T (Φ hot) hot e σ M)
  l : Ves T Φ nm hot X xa WW e asts
section
variable {X : Cx} {xa : Option Addr} {WW : WX} {e : E} {ast : Expr}
theorem Ve.mk1 (h : PE X ast (LK (wd X nm xa) WW fun σ M => ev T (Φ hot) hot e σ M)) (he : ∀ whole, isTrue ast X.env whole = (do let v ← whole; standAt ast.pos; holding [v] (truthy v))) (nb : ∀ op vs pos, ast ≠ .BoolOp op vs pos) : Ve T Φ nm hot X xa WW e ast :=
  ⟨h, t_val h he, fun op vs pos z => absurd z (nb op vs pos)⟩
theorem le_false {t : TE} (h : ∀ σ H Q, ¬ t σ H Q) : PE X ast t := ⟨fun _ _ σ H Q _ z => (h σ H Q z).elim⟩
theorem v_isi {sc : Scope} (c : Cok T Φ Γ nm n N sc hot xa WW X) {x : Expr} {y : Str} {t : Ty} {p1 p2 pos : Pos} {ra : List SV → Mem → Rs KD} (hg : gloC sc "isinstance" = true) (hs : noStar x = true) (ha : PE X x (LK (wd X nm xa) WW ra)) (ht : tyC Γ sc t y = true) :
    PE X (.Call (.Name "isinstance" p1) [x, .Name y p2] [] pos) (LK (wd X nm xa) WW fun σ M => (ra σ M).bw.bind fun x M => okB (isInst T hot M x t) M) := by
  have main : ∀ {tv : V} {u : Value}, IsTy Γ nm t tv u → PE X (.Name y p2) (tC tv) → PE X (.Call (.Name "isinstance" p1) [x, .Name y p2] [] pos) (LK (wd X nm xa) WW fun σ M => (ra σ M).bw.bind fun x M => okB (isInst T hot M x t) M) := fun {tv u} it pt => by
    refine PE.weak (pe_callB (c_isi c it) (gl_of c hg) (c.sk.free _ (by decide +kernel)) (by decide +kernel) (pa_cons (pe_bw ha) (pa_cons pt pa_nil) (star_cons hs)) (by decide +kernel) (by decide +kernel) (star_cons hs) (star_any rfl)) fun σ H Q ⟨Fr, ρ, G, σs, M, r, q⟩ => ⟨Fr, ρ, G, σs, M, r, (Aft.bind (RA := RRb _) q).weaker ?_⟩
    rintro v H1 ⟨ρ1, G1, M1, d, hr1, hg1, r1, k1, q1⟩
    exact ⟨v, Fr, ρ1, G1, σs, M1, σ, d, rfl, r1, k1, q1⟩
  have blt : ∀ {z : String}, tyS t = some z → (t = .cls 0 → False) → bootBuiltins (Str.ofString z) = some (.type z) → y = Str.ofString z → gloC sc y = true → plainN y = true → Str.ofString z ∈ bis → PE X (.Name y p2) (tC (.ty z)) := fun {z} _ _ hv hy g pl hm => by
    subst hy
    exact pe_bltn (gl_of c g) (c.sk.free _ hm) hv rfl (plainN_ok pl).2.2 (plainN_ok pl).1
  cases t with
  | cls k =>
    simp only [tyC, Bool.and_eq_true, decide_eq_true_eq] at ht
    obtain ⟨h1, h2, h3⟩ := ht
    exact main ⟨⟨y, h1, h3⟩, rfl, rfl⟩ (pe_glob (gl_of c h2) (c.sk.cl k y h1 h3).1 rfl (plainN_ok h3).1)
  | kls k =>
    simp only [tyC, Bool.and_eq_true, decide_eq_true_eq] at ht
    obtain ⟨h1, h2, h3⟩ := ht
    exact main ⟨⟨y, h1, h3⟩, rfl, rfl⟩ (pe_glob (gl_of c h2) (c.sk.kl k y h1 h3).2.1 rfl (plainN_ok h3).1)
  | _ =>
    simp only [tyC, tyS, Bool.and_eq_true, decide_eq_true_eq] at ht
    obtain ⟨h1, h2, h3⟩ := ht
    exact main ⟨_, rfl, rfl, rfl⟩ (blt rfl (fun z => nomatch z) (by decide +kernel) h1 h2 h3 (by decide +kernel))
theorem v_rgl {sc : Scope} (c : Cok T Φ Γ nm n N sc hot xa WW X) {a b : Expr} {p1 p2 p3 p4 : Pos} {ra rb : List SV → Mem → Rs KD} (h1 : gloC sc "list" = true) (h2 : gloC sc "range" = true) (h3 : noStar a = true) (h4 : noStar b = true) (ha : PE X a (LK (wd X nm xa) WW ra)) (hb : PE X b (LK (wd X nm xa) WW rb)) :
    PE X (.Call (.Name "list" p1) [.Call (.Name "range" p2) [a, b] [] p3] [] p4) (LK (wd X nm xa) WW fun σ M => if hot.isSome then .stk else (ra σ M).bw.bind fun x M => (rb σ M).bw.bind fun y M => okLs (rngL [x, y]) M) := by
  cases hot with
  | some k => exact le_false fun σ H Q ⟨Fr, ρ, G, σs, M, r, q⟩ => q
  | none =>
    refine PE.weak (pe_listRg c.mode.2.1 (gl_of c h1) (c.sk.free _ (by decide +kernel)) (prg_2 (gl_of c h2) (c.sk.free _ (by decide +kernel)) (pe_bw ha) (pe_bw hb) (star_cons h3) (star_cons h4) (by rw [star_cons h4]; rfl)) rfl) fun σ H Q ⟨Fr, ρ, G, σs, M, r, q⟩ => ⟨Fr, ρ, G, σs, M, r, (Aft.bind (RA := RRb _) q).weaker ?_⟩
    rintro x H1 ⟨ρ1, G1, M1, d, hr1, hg1, r1, k1, q1⟩
    refine ⟨Fr, ρ1, G1, σs, M1, r1, (Aft.bind (RA := RRb _) q1).weaker ?_⟩
    rintro y H2 ⟨ρ2, G2, M2, e, hr2, hg2, r2, k2, q2a⟩
    have k1' : Bz (wd X nm xa) ρ2 G2 σs σ d x := k1.elim (fun k => .inl (k.mono hr2 hg2)) .inr
    have q2 : Aft (wd X nm xa) WW Fr (RRk (wd X nm xa) Fr) ρ2 G2 σs σ (okLs (rngL [d, e]) M2) Q := q2a
    clear q2a q1
    have key : ∃ i j : Int, d = .int i ∧ e = .int j ∧ (i.natAbs < 2 ^ 60 ∧ j.natAbs < 2 ^ 60) ∧ (j - i).toNat < line ∧ rngL [d, e] = some (upTo (fun k => i + (k : Int)) (j - i).toNat) := by
      cases z : rngL [d, e] with
      | none => rw [z] at q2; exact q2.elim
      | some xs =>
        simp only [rngL] at z
        split at z
        · rename_i ys hys
          unfold rng2 at hys
          split at hys
          · rename_i i j
            split at hys
            · rename_i hij
              cases hys
              split at z
              · rename_i hl
                cases z
                exact ⟨i, j, rfl, rfl, hij, by rw [upTo_len] at hl; exact hl, rfl⟩
              · cases z
            · cases hys
          · cases hys
        · cases z
    obtain ⟨i, j, rfl, rfl, hij, hl, ek⟩ := key
    rw [ek] at q2
    refine ⟨i, j, k1'.int r2, k2.int r2, ⟨by omega, by omega, by omega, by omega, by have : line = 2 ^ 24 := rfl; omega⟩, fun p hp => ?_⟩
    refine Aft.new (d := .lst (upTo (fun k => i + (k : Int)) (j - i).toNat)) q2 r2 hp ⟨_, rfl, by rw [upTo_len]; exact hl, ?_⟩
    have all : ∀ l : List Nat, Fzs (wd X nm xa) ρ2 G2 (l.map fun k : Nat => VM.D.int (i + (k : Int))) (l.map fun k : Nat => V.int (i + (k : Int))) := fun l => by
      induction l with
      | nil => exact .nil
      | cons x l ih => exact .cons (show _ = _ from rfl) ih
    exact all _
theorem v_bf {sc : Scope} (c : Cok T Φ Γ nm n N sc hot xa WW X) {p : Pf} {a : Expr} {es : List Expr} {p1 pos : Pos} {rs : List SV → Mem → Rs (List D)} (hg : gloC sc (pfS p) = true) (hs : noStar a = true) (hss : es.all noStar = true) (h : PA X (a :: es) (LAb (wd X nm xa) WW rs)) :
    PE X (.Call (.Name (pfS p) p1) (a :: es) [] pos) (LK (wd X nm xa) WW fun σ M => if hot.isSome && !pfHot p then .stk else (rs σ M).bind fun ds M => pf p ds M) := by
  by_cases hh : (hot.isSome && !pfHot p) = true
  · exact le_false fun σ H Q ⟨Fr, ρ, G, σs, M, r, q⟩ => by
      dsimp only at q
      rw [if_pos hh] at q
      exact q.elim
  · have e : (fun (σ : List SV) (M : Mem) => if hot.isSome && !pfHot p then Rs.stk else (rs σ M).bind fun ds M => pf p ds M) = fun σ M => (rs σ M).bind fun ds M => pf p ds M := by
      funext σ M
      rw [if_neg hh]
    rw [e]
    have calm : pfHot p = false → X.calm = true := fun z => by
      cases hot with
      | none => exact c.mode.2.1
      | some k => rw [z] at hh; simp at hh
    cases p with
    | len => exact vb_call (c_len rfl) (gl_of c hg) (c.sk.free _ (by decide +kernel)) (by decide +kernel) (by decide +kernel) hs hss h
    | abs => exact vb_call c_abs (gl_of c hg) (c.sk.free _ (by decide +kernel)) (by decide +kernel) (by decide +kernel) hs hss h
    | divmod => exact vb_call c_divmod (gl_of c hg) (c.sk.free _ (by decide +kernel)) (by decide +kernel) (by decide +kernel) hs hss h
    | sum => exact vb_call (c_sum rfl (calm rfl)) (gl_of c hg) (c.sk.free _ (by decide +kernel)) (by decide +kernel) (by decide +kernel) hs hss h
    | all => exact vb_call (c_all rfl (calm rfl)) (gl_of c hg) (c.sk.free _ (by decide +kernel)) (by decide +kernel) (by decide +kernel) hs hss h
    | max => exact vb_call (c_max rfl (calm rfl)) (gl_of c hg) (c.sk.free _ (by decide +kernel)) (by decide +kernel) (by decide +kernel) hs hss h
    | min => exact vb_call (c_min rfl (calm rfl)) (gl_of c hg) (c.sk.free _ (by decide +kernel)) (by decide +kernel) (by decide +kernel) hs hss h
    | sorted => exact vb_call (c_sorted rfl c.un (calm rfl)) (gl_of c hg) (c.sk.free _ (by decide +kernel)) (by decide +kernel) (by decide +kernel) hs hss h
    | list => exact vt_call (c_list rfl (calm rfl)) (gl_of c hg) (c.sk.free _ (by decide +kernel)) (by decide +kernel) (by decide +kernel) hs hss h
    | tuple => exact vt_call (c_tuple rfl) (gl_of c hg) (c.sk.free _ (by decide +kernel)) (by decide +kernel) (by decide +kernel) hs hss h
    | int => exact vt_call c_int (gl_of c hg) (c.sk.free _ (by decide +kernel)) (by decide +kernel) (by decide +kernel) hs hss h
end
end
end VM
/-! VM11: every checked expression. -/
namespace VM
open PySem L2 PySem.Spec PyProof.Rows
section
variable {T : Tab} {Φ : Hot → Nat → List D → Mem → Rs KD} {Γ : Tx} {nm : Nm} {n : Nat} {N : List Str} {hot : Hot}
/-- a test over a statement -/
def VeAll (T : Tab) (Φ : Hot → Nat → List D → Mem → Rs KD) (Γ : Tx) (nm : Nm) (n : Nat) (N : List Str) (hot : Hot) (e : E) : Prop :=
  (∀ (X : Cx) (sc : Scope) (xa : Option Addr) (WW : WX), Cok T Φ Γ nm n N sc hot xa WW X → ∀ ast, chkE Γ N e sc ast = true → Ve T Φ nm hot X xa WW e ast) ∧
  (∀ (X : Cx) (sc : Scope) (xa : Option Addr) (WW : WX), Cok T Φ Γ nm n N sc hot xa WW X → ∀ asts, chkL Γ N e sc asts = true → Va T Φ nm hot X xa WW e asts)
theorem noL {e : E} (h : ∀ (sc : Scope) (asts : List Expr), chkL Γ N e sc asts = false) : ∀ (X : Cx) (sc : Scope) (xa : Option Addr) (WW : WX), Cok T Φ Γ nm n N sc hot xa WW X → ∀ asts, chkL Γ N e sc asts = true → Va T Φ nm hot X xa WW e asts :=
  fun _ sc _ _ _ asts k => by rw [h sc asts] at k; cases k
/-- the machine's turn of a comprehension -/
abbrev elF (T : Tab) (Φ : Nat → List D → Mem → Rs KD) (hot : Hot) (cd el : E) : List SV → Mem → Rs (Option D) := fun τ M => if cd.isNil then (ev T Φ hot el τ M).fz.bind fun y M => .ok (some y) M
  else (ev T Φ hot cd τ M).bl.bind fun k M => if k then (ev T Φ hot el τ M).fz.bind fun y M => .ok (some y) M else .ok none M
theorem lc_e {own : List Nat} {t : Tg} {cd el : E} (ihc : VeAll T Φ Γ nm n N hot cd) (ihe : VeAll T Φ Γ nm n N hot el) {X : Cx} {sc : Scope} {xa : Option Addr} {WW : WX} (c : Cok T Φ Γ nm n N sc hot xa WW X) {tg elt : Expr} {ifs : List Expr} {scope : Scope}
    (h4 : chkT N (locB scope (relS scope sc)) t tg = true) (h6 : (match ifs with
        | [] => cd.isNil
        | [x] => !cd.isNil && chkE Γ N cd (relS scope sc) x
        | _ => false) = true) (h7 : chkE Γ N el (relS scope sc) elt = true) (L : Addr) (fr : Frm X L) : LcE X WW (wd X nm xa) L tg elt ifs scope t (elF T (Φ hot) hot cd el) := by
  refine ⟨fun s H C cl fp E => ?_, ?_⟩
  · have hsc : (compEnvC scope cl C X.env).scope = relS scope sc := by rw [← c.sc]; rfl
    refine vg (X := blkX X s H scope (compEnvC scope cl C X.env) fp E) (loc := locB scope (relS scope sc)) c.N c.nd (fun x hx => ?_) c.calm.blk rfl t tg h4
    unfold locB at hx
    split at hx
    · rename_i e
      have e' : (compEnvC scope cl C X.env).scope.names.lookup x = some .local := by rw [hsc]; exact e
      exact ⟨.inl e', .inr e'⟩
    · rename_i e
      split at hx
      · rename_i e2
        exact ⟨.inr (show (compEnvC scope cl C X.env).scope.names.lookup x = some .cell by rw [hsc]; exact e), .inl (show (scope.names.lookup x == some NameKind.cell) = true by rw [e2]; rfl)⟩
      · cases hx
    · cases hx
  · split at h6
    · have hc : cd.isNil = true := h6
      refine ⟨fun _ => tYes, fun σ => LF (wd X nm xa) (outW WW σ) fun τ M => (ev T (Φ hot) hot el τ M).fz, fun σ => ?_, fun σ s H C cl fp E toE => ⟨pts_nil, pe_fz (ihe.1 _ _ xa _ (c.blk fr σ scope s H C cl fp E toE) _ h7).pe⟩⟩
      unfold elF
      simp only [hc, if_true]
      exact el_one _
    · simp only [Bool.and_eq_true, Bool.not_eq_true'] at h6
      obtain ⟨hc, h6⟩ := h6
      refine ⟨fun σ => LT (wd X nm xa) (outW WW σ) fun τ M => (ev T (Φ hot) hot cd τ M).bl, fun σ => LF (wd X nm xa) (outW WW σ) fun τ M => (ev T (Φ hot) hot el τ M).fz, fun σ => ?_,
        fun σ s H C cl fp E toE => ⟨pts_one (ihc.1 _ _ xa _ (c.blk fr σ scope s H C cl fp E toE) _ h6).pt, pe_fz (ihe.1 _ _ xa _ (c.blk fr σ scope s H C cl fp E toE) _ h7).pe⟩⟩
      unfold elF
      simp only [hc, Bool.false_eq_true, if_false]
      exact el_if _ _
    · cases h6
theorem lcp {own : List Nat} {t : Tg} {it cd el : E} (iht : VeAll T Φ Γ nm n N hot it) (ihc : VeAll T Φ Γ nm n N hot cd) (ihe : VeAll T Φ Γ nm n N hot el) {X : Cx} {sc : Scope} {xa : Option Addr} {WW : WX} (c : Cok T Φ Γ nm n N sc hot xa WW X) {tg elt iter : Expr} {ifs : List Expr} {scope : Scope} {pos : Pos}
    (h : chkE Γ N (.lc own t it cd el) sc (.ListComp elt [⟨tg, iter, ifs, 0⟩] scope pos) = true) : LcP X WW iter tg elt ifs scope (ownP N own) (LK (wd X nm xa) WW fun σ M => ev T (Φ hot) hot (.lc own t it cd el) σ M) := by
  simp only [chkE_lc, Bool.and_eq_true] at h
  obtain ⟨h1, h2, h3, h4, h5, h6, h7⟩ := h
  have hb : BlkOk X.N X.env.scope scope (ownP N own) := by rw [c.N, c.sc]; exact blkOk_by h3
  have hto : ∀ j ∈ t.is, j ∈ (ownP N own).map (·.2) := fun j hj => by
    rw [ownP_snd]
    exact of_decide_eq_true (List.all_eq_true.mp h5 j hj)
  have := v_lc c (iht.1 X sc xa WW c _ h2).pe hb (lc_e (own := own) ihc ihe c h4 h6 h7) hto (folded_ok h1 X.env) (own := own) (ownP_snd N own).symm
  simp only [ev]
  exact this
theorem evb_len {sc : Scope} : ∀ {as : E} {es : List Expr} {Φ : Nat → List D → Mem → Rs KD} {σ : List SV} {M M' : Mem} {ds : List D}, chkL Γ N as sc es = true → evb T Φ hot as σ M = .ok ds M' → ds.length = es.length := by
  intro as
  induction as with
  | cons a as _ ih =>
    intro es Φ σ M M' ds h e
    simp only [chkL_cons] at h
    split at h
    · simp only [Bool.and_eq_true] at h
      simp only [evb] at e
      cases e1 : (ev T Φ hot a σ M).bw with
      | ok d M1 =>
        rw [e1] at e
        simp only [Rs.bind] at e
        cases e2 : evb T Φ hot as σ M1 with
        | ok ds' M2 =>
          rw [e2] at e
          simp only [Rs.ok.injEq] at e
          obtain ⟨rfl, _⟩ := e
          simp [ih h.2.2 e2]
        | ex C M2 => rw [e2] at e; cases e
        | stk => rw [e2] at e; cases e
      | ex C M1 => rw [e1] at e; cases e
      | stk => rw [e1] at e; cases e
    · cases h
  | nil =>
    intro es Φ σ M M' ds h e
    simp only [chkL_nil, List.isEmpty_iff] at h
    subst h
    simp only [evb, Rs.ok.injEq] at e
    rw [← e.1]
    rfl
  | _ => intro es Φ σ M M' ds h e; exact Bool.noConfusion (show false = true from h)
theorem lcp_r {own : List Nat} {t : Tg} {as cd el : E} (iht : VeAll T Φ Γ nm n N hot as) (ihc : VeAll T Φ Γ nm n N hot cd) (ihe : VeAll T Φ Γ nm n N hot el) {X : Cx} {sc : Scope} {xa : Option Addr} {WW : WX} (c : Cok T Φ Γ nm n N sc hot xa WW X) {tg elt : Expr} {f : Str} {args : List Expr} {ifs : List Expr} {scope : Scope} {p1 p2 pos : Pos}
    (h : chkE Γ N (.lcr own t as cd el) sc (.ListComp elt [⟨tg, .Call (.Name f p1) args [] p2, ifs, 0⟩] scope pos) = true) : LcP X WW (.Call (.Name f p1) args [] p2) tg elt ifs scope (ownP N own) (LK (wd X nm xa) WW fun σ M => ev T (Φ hot) hot (.lcr own t as cd el) σ M) := by
  simp only [chkE_lcr, Bool.and_eq_true, decide_eq_true_eq] at h
  obtain ⟨hf, h1, ha, h2, h3, h4, h5, h6, h7⟩ := h
  subst hf
  have hb : BlkOk X.N X.env.scope scope (ownP N own) := by rw [c.N, c.sc]; exact blkOk_by h3
  have hto : ∀ j ∈ t.is, j ∈ (ownP N own).map (·.2) := fun j hj => by
    rw [ownP_snd]
    exact of_decide_eq_true (List.all_eq_true.mp h5 j hj)
  split at ha
  · have := v_lcr1 (p1 := p1) (p2 := p2) c h1 ha (iht.2 X sc xa WW c _ h2).b hb (lc_e (own := own) ihc ihe c h4 h6 h7) hto (own := own) (ownP_snd N own).symm fun σ M ds M' e => evb_len h2 e
    simp only [ev]
    exact this
  · simp only [Bool.and_eq_true] at ha
    have := v_lcr2 (p1 := p1) (p2 := p2) c h1 ha.1 ha.2 (iht.2 X sc xa WW c _ h2).b hb (lc_e (own := own) ihc ihe c h4 h6 h7) hto (own := own) (ownP_snd N own).symm fun σ M ds M' e => evb_len h2 e
    simp only [ev]
    exact this
  · cases ha
theorem ve_stk {X : Cx} {xa : Option Addr} {WW : WX} {e : E} {ast : Expr} (h : ∀ σ M, ev T (Φ hot) hot e σ M = .stk) : Ve T Φ nm hot X xa WW e ast :=
  ⟨⟨fun _ _ σ H Q _ ⟨Fr, ρ, G, σs, M, r, q⟩ => by dsimp only at q; rw [h] at q; exact q.elim⟩, ⟨fun _ _ σ H Q _ ⟨Fr, ρ, G, σs, M, r, q⟩ => by dsimp only at q; rw [h] at q; exact q.elim⟩, fun _ _ _ _ => ⟨fun _ _ _ σ H Q _ ⟨Fr, ρ, G, σs, M, r, q⟩ => by dsimp only at q; rw [h] at q; exact q.elim⟩⟩
theorem no_args {hot : Hot} {sc : Scope} {as : E} {es : List Expr} (h : chkL Γ N as sc es = true) (hz : es = []) : (fun σ M => evs T (Φ hot) hot as σ M) = fun _ M => .ok [] M := by
  subst hz
  cases as with
  | nil => funext σ M; simp only [evs]
  | cons a b => exact Bool.noConfusion (show false = true from h)
  | _ => exact Bool.noConfusion (show false = true from h)
theorem lab_mono {W : Wd} {WW : WX} {ras : List SV → Mem → Rs (List D)} : ∀ σ H (P P' : List V → Hp → Prop), (∀ x H, P x H → P' x H) → LAb W WW ras σ H P → LAb W WW ras σ H P' := fun σ H P P' k ⟨Fr, ρ, G, σs, M, r, h⟩ => ⟨Fr, ρ, G, σs, M, r, h.weaker k⟩
theorem la_mono {W : Wd} {WW : WX} {ras : List SV → Mem → Rs (List D)} : ∀ σ H (P P' : List V → Hp → Prop), (∀ x H, P x H → P' x H) → LA W WW ras σ H P → LA W WW ras σ H P' := fun σ H P P' k ⟨Fr, ρ, G, σs, M, r, h⟩ => ⟨Fr, ρ, G, σs, M, r, h.weaker k⟩
/-- one thing that is walked, looked at -/
theorem one_b {X : Cx} {xa : Option Addr} {WW : WX} {as : E} {es : List Expr} (l : Ves T Φ nm hot X xa WW as es) : ∀ e, es = [e] → ∃ te, PE X e te ∧ ∀ σ H (Q : List V → Hp → Prop) (Q' : VK), (∀ x H1, Q [x] H1 → Q' x H1) → LAb (wd X nm xa) WW (fun σ M => evb T (Φ hot) hot as σ M) σ H Q → te σ H Q' := fun e he => by
  subst he
  obtain ⟨a, rfl, i⟩ := l.one
  refine ⟨_, pe_bw i, fun σ H Q Q' k ⟨Fr, ρ, G, σs, M, r, q⟩ => ⟨Fr, ρ, G, σs, M, r, ?_⟩⟩
  simp only [evb, rs_ok] at q
  refine (Aft.bind (RA := RRb _) q).weaker ?_
  rintro x H1 ⟨ρ1, G1, M1, d, hr1, hg1, r1, k1, q1⟩
  refine k _ _ (q1 ρ1 G1 [x] H1 (Rle.refl _) (Hle.refl _) r1 ?_)
  unfold RRbs Bzs
  exact ⟨x, [], rfl, k1, by unfold Bzs; rfl⟩
theorem one_f {X : Cx} {xa : Option Addr} {WW : WX} {as : E} {es : List Expr} (l : Ves T Φ nm hot X xa WW as es) : ∀ e, es = [e] → ∃ te, PE X e te ∧ ∀ σ H (Q : List V → Hp → Prop) (Q' : VK), (∀ x H1, Q [x] H1 → Q' x H1) → LA (wd X nm xa) WW (fun σ M => evs T (Φ hot) hot as σ M) σ H Q → te σ H Q' := fun e he => by
  subst he
  obtain ⟨a, rfl, i⟩ := l.one
  refine ⟨_, pe_fz i, fun σ H Q Q' k ⟨Fr, ρ, G, σs, M, r, q⟩ => ⟨Fr, ρ, G, σs, M, r, ?_⟩⟩
  simp only [evs, rs_ok] at q
  refine (Aft.bind (RA := RRf _) q).weaker ?_
  rintro x H1 ⟨ρ1, G1, M1, d, hr1, hg1, r1, k1, q1⟩
  exact k _ _ (q1 ρ1 G1 [x] H1 (Rle.refl _) (Hle.refl _) r1 (.one k1))
theorem lcp_i {k : Ik} {own : List Nat} {t : Tg} {as cd el : E} (iht : VeAll T Φ Γ nm n N hot as) (ihc : VeAll T Φ Γ nm n N hot cd) (ihe : VeAll T Φ Γ nm n N hot el) {X : Cx} {sc : Scope} {xa : Option Addr} {WW : WX} (c : Cok T Φ Γ nm n N sc hot xa WW X) {tg elt iter : Expr} {ifs : List Expr} {scope : Scope} {pos : Pos}
    (h : chkE Γ N (.lci k own t as cd el) sc (.ListComp elt [⟨tg, iter, ifs, 0⟩] scope pos) = true) : LcP X WW iter tg elt ifs scope (ownP N own) (LK (wd X nm xa) WW fun σ M => ev T (Φ hot) hot (.lci k own t as cd el) σ M) := by
  simp only [chkE_lci] at h
  split at h
  · rename_i es hk
    simp only [Bool.and_eq_true] at h
    obtain ⟨h2, h3, h4, h5, h6, h7⟩ := h
    obtain ⟨hi, hf⟩ := ikC_ok hk
    have hb : BlkOk X.N X.env.scope scope (ownP N own) := by rw [c.N, c.sc]; exact blkOk_by h3
    have hto : ∀ j ∈ t.is, j ∈ (ownP N own).map (·.2) := fun j hj => by
      rw [ownP_snd]
      exact of_decide_eq_true (List.all_eq_true.mp h5 j hj)
    have va := iht.2 X sc xa WW c _ h2
    cases hot with
    | some kk =>
      obtain ⟨L, fr, hx⟩ := c.fx
      obtain ⟨hg, tt, te, eo, h2⟩ := lc_e (own := own) ihc ihe c h4 h6 h7 L fr
      refine ⟨fun σ H R => False, _, tt, te, L, fr, hx, ?_, hb, hg, fun σ s H C cl fp E k => (h2 σ s H C cl fp E k).1, fun σ s H C cl fp E k => (h2 σ s H C cl fp E k).2, fun x => hf _ x, .inl fun σ H Q ⟨Fr, ρ, G, σs, M, r, q⟩ => ?_⟩
      · exact ⟨fun _ _ _ _ _ _ h => h.elim⟩
      · simp only [ev, Option.isSome_some, Bool.or_true, if_true] at q
        exact q.elim
    | none =>
      have hpi := pi_K c hi va.b (one_b va.l) lab_mono
      have := v_lci c hpi hb (lc_e (own := own) ihc ihe c h4 h6 h7) hto (fun x => hf _ x) (own := own) (ownP_snd N own).symm
      simp only [ev, Option.isSome_none, Bool.or_false]
      exact this
  · cases h
theorem lcp_d {own : List Nat} {t : Tg} {a cd el : E} (iht : VeAll T Φ Γ nm n N hot a) (ihc : VeAll T Φ Γ nm n N hot cd) (ihe : VeAll T Φ Γ nm n N hot el) {X : Cx} {sc : Scope} {xa : Option Addr} {WW : WX} (c : Cok T Φ Γ nm n N sc hot xa WW X) {tg elt iter : Expr} {ifs : List Expr} {scope : Scope} {pos : Pos}
    (h : chkE Γ N (.lcd own t a cd el) sc (.ListComp elt [⟨tg, iter, ifs, 0⟩] scope pos) = true) : LcP X WW iter tg elt ifs scope (ownP N own) (LK (wd X nm xa) WW fun σ M => ev T (Φ hot) hot (.lcd own t a cd el) σ M) := by
  simp only [chkE_lcd, Bool.and_eq_true] at h
  obtain ⟨h1, h2, h3, h4, h5, h6, h7⟩ := h
  have hb : BlkOk X.N X.env.scope scope (ownP N own) := by rw [c.N, c.sc]; exact blkOk_by h3
  have hto : ∀ j ∈ t.is, j ∈ (ownP N own).map (·.2) := fun j hj => by
    rw [ownP_snd]
    exact of_decide_eq_true (List.all_eq_true.mp h5 j hj)
  cases hot with
  | some kk =>
    obtain ⟨L, fr, hx⟩ := c.fx
    obtain ⟨hg, tt, te, eo, h2⟩ := lc_e (own := own) ihc ihe c h4 h6 h7 L fr
    refine ⟨fun σ H R => False, _, tt, te, L, fr, hx, ?_, hb, hg, fun σ s H C cl fp E k => (h2 σ s H C cl fp E k).1, fun σ s H C cl fp E k => (h2 σ s H C cl fp E k).2, folded_ok h1 X.env, .inl fun σ H Q ⟨Fr, ρ, G, σs, M, r, q⟩ => ?_⟩
    · exact ⟨fun _ _ _ _ _ _ h => h.elim⟩
    · simp only [ev, Option.isSome_some, Bool.or_true, if_true] at q
      exact q.elim
  | none =>
    have := v_lcd c (iht.1 X sc xa WW c _ h2).pe hb (lc_e (own := own) ihc ihe c h4 h6 h7) hto (folded_ok h1 X.env) (own := own) (ownP_snd N own).symm
    simp only [ev, Option.isSome_none, Bool.or_false]
    exact this
theorem ve (e : E) : VeAll T Φ Γ nm n N hot e := by
  induction e with
  | v i =>
    refine ⟨fun X sc xa WW c ast h => ?_, noL fun _ _ => rfl⟩
    simp only [chkE_v] at h
    split at h
    · simp only [decide_eq_true_eq, Bool.and_eq_true] at h
      exact .mk1 (v_var c h.1 h.2.1 h.2.2) (fun _ => rfl) (fun _ _ _ z => nomatch z)
    · cases h
  | c d =>
    refine ⟨fun X sc xa WW c ast h => ?_, noL fun _ _ => rfl⟩
    simp only [chkE_c] at h
    split at h
    · exact .mk1 (by simp only [ev]; exact v_const h) (fun _ => rfl) (fun _ _ _ z => nomatch z)
    · cases h
  | g g =>
    refine ⟨fun X sc xa WW c ast h => ?_, noL fun _ _ => rfl⟩
    simp only [chkE_g] at h
    split at h
    · simp only [decide_eq_true_eq, Bool.and_eq_true] at h
      exact .mk1 (v_glob c h.1 h.2.1 h.2.2) (fun _ => rfl) (fun _ _ _ z => nomatch z)
    · cases h
  | bin o a b iha ihb =>
    refine ⟨fun X sc xa WW c ast h => ?_, noL fun _ _ => rfl⟩
    simp only [chkE_bin] at h
    split at h
    · simp only [decide_eq_true_eq, Bool.and_eq_true] at h
      obtain ⟨h1, h2, h3⟩ := h
      subst h1
      exact .mk1 (by simp only [ev]; exact v_bin rfl (iha.1 X sc xa WW c _ h2).pe (ihb.1 X sc xa WW c _ h3).pe) (fun _ => rfl) (fun _ _ _ z => nomatch z)
    · cases h
  | neg a iha =>
    refine ⟨fun X sc xa WW c ast h => ?_, noL fun _ _ => rfl⟩
    simp only [chkE_neg] at h
    split at h
    · exact .mk1 (by simp only [ev]; exact v_neg (iha.1 X sc xa WW c _ h).pe) (fun _ => rfl) (fun _ _ _ z => nomatch z)
    · cases h
  | not a iha =>
    refine ⟨fun X sc xa WW c ast h => ?_, noL fun _ _ => rfl⟩
    simp only [chkE_not] at h
    split at h
    · have i := iha.1 X sc xa WW c _ h
      exact ⟨by simp only [ev]; exact v_not i.pe, by simp only [ev]; exact t_not i.pt, fun _ _ _ z => nomatch z⟩
    · cases h
  | and a b iha ihb =>
    refine ⟨fun X sc xa WW c ast h => ?_, noL fun _ _ => rfl⟩
    simp only [chkE_and] at h
    split at h
    · simp only [Bool.and_eq_true] at h
      have i := iha.1 X sc xa WW c _ h.1
      have j := ihb.1 X sc xa WW c _ h.2
      have w := w_and (pos := ‹Pos›) i.pt (pw_and1 (pos := ‹Pos›) j.pt)
      exact ⟨by simp only [ev]; exact v_and i.pe (pe_one j.pe), by simp only [ev]; exact w.pt, fun _ _ _ _ => by simp only [ev]; exact w⟩
    · simp only [Bool.and_eq_true] at h
      have i := iha.1 X sc xa WW c _ h.1
      have j := ihb.1 X sc xa WW c _ h.2
      have w := w_and i.pt (j.pw _ _ _ rfl)
      exact ⟨by simp only [ev]; exact v_and i.pe j.pe, by simp only [ev]; exact w.pt, fun _ _ _ _ => by simp only [ev]; exact w⟩
    · cases h
  | or a b iha ihb =>
    refine ⟨fun X sc xa WW c ast h => ?_, noL fun _ _ => rfl⟩
    simp only [chkE_or] at h
    split at h
    · simp only [Bool.and_eq_true] at h
      have i := iha.1 X sc xa WW c _ h.1
      have j := ihb.1 X sc xa WW c _ h.2
      have w := w_or (pos := ‹Pos›) i.pt (pw_or1 (pos := ‹Pos›) j.pt)
      exact ⟨by simp only [ev]; exact v_or i.pe (pe_one j.pe), by simp only [ev]; exact w.pt, fun _ _ _ _ => by simp only [ev]; exact w⟩
    · simp only [Bool.and_eq_true] at h
      have i := iha.1 X sc xa WW c _ h.1
      have j := ihb.1 X sc xa WW c _ h.2
      have w := w_or i.pt (j.pw _ _ _ rfl)
      exact ⟨by simp only [ev]; exact v_or i.pe j.pe, by simp only [ev]; exact w.pt, fun _ _ _ _ => by simp only [ev]; exact w⟩
    · cases h
  | cmp o a b iha ihb =>
    refine ⟨fun X sc xa WW c ast h => ?_, noL fun _ _ => rfl⟩
    simp only [chkE_cmp] at h
    split at h
    · simp only [Bool.and_eq_true, decide_eq_true_eq, Bool.not_eq_true'] at h
      obtain ⟨h1, h2, h3, h4⟩ := h
      subst h1
      have i := (iha.1 X sc xa WW c _ h3).pe
      have j := (ihb.1 X sc xa WW c _ h4).pe
      exact ⟨by simp only [ev]; exact v_cmp rfl c.un h2 i j, by simp only [ev]; exact t_cmp rfl c.un h2 i j, fun _ _ _ z => nomatch z⟩
    · cases h
  | chn o o' a b d iha ihb ihd =>
    refine ⟨fun X sc xa WW c ast h => ?_, noL fun _ _ => rfl⟩
    simp only [chkE_chn] at h
    split at h
    · simp only [Bool.and_eq_true, decide_eq_true_eq, Bool.not_eq_true'] at h
      obtain ⟨h1, h2, h3, h4, h5, h6⟩ := h
      subst h1 h2
      have i := (iha.1 X sc xa WW c _ h4).pe
      have j := (ihb.1 X sc xa WW c _ h5).pe
      have k := (ihd.1 X sc xa WW c _ h6).pe
      exact ⟨by simp only [ev]; exact v_chn rfl c.un h3 i j k, by simp only [ev]; exact t_chn rfl c.un h3 i j k, fun _ _ _ z => nomatch z⟩
    · cases h
  | ife t a b iht iha ihb =>
    refine ⟨fun X sc xa WW c ast h => ?_, noL fun _ _ => rfl⟩
    simp only [chkE_ife] at h
    split at h
    · simp only [Bool.and_eq_true] at h
      obtain ⟨h1, h2, h3⟩ := h
      have i := iht.1 X sc xa WW c _ h1
      have j := iha.1 X sc xa WW c _ h2
      have k := ihb.1 X sc xa WW c _ h3
      exact ⟨by simp only [ev]; exact v_ife i.pt j.pe k.pe, by simp only [ev]; exact t_ife i.pt j.pt k.pt, fun _ _ _ z => nomatch z⟩
    · cases h
  | call f as ih =>
    refine ⟨fun X sc xa WW c ast h => ?_, noL fun _ _ => rfl⟩
    simp only [chkE_call] at h
    split at h
    · split at h
      · rename_i y ps hf
        simp only [decide_eq_true_eq, Bool.and_eq_true] at h
        obtain ⟨h1, h2, h3, h4⟩ := h
        subst h1
        cases as with
        | nil =>
          refine .mk1 ?_ (fun _ => rfl) (fun _ _ _ z => nomatch z)
          simp only [ev]
          cases hot with
          | some k => exact le_false fun σ H Q ⟨Fr, ρ, G, σs, M, r, q⟩ => q
          | none =>
            have e : (fun (σ : List SV) (M : Mem) => if ((none : Hot).isSome && E.nil.isNil) = true then Rs.stk else (evs T (Φ none) none .nil σ M).bind fun ds M => Φ none f ds M) = fun _ M => Φ none f [] M := by
              funext σ M
              simp only [evs, rs_ok, Option.isSome_none, Bool.false_and, Bool.false_eq_true, if_false]
            rw [e]
            exact v_call0 c hf h2 h3
        | _ => cases h4
      · cases h
    · split at h
      · rename_i y ps hf
        simp only [decide_eq_true_eq, Bool.and_eq_true] at h
        obtain ⟨h1, h2, h3, h4, h5, h6⟩ := h
        subst h1
        refine .mk1 ?_ (fun _ => rfl) (fun _ _ _ z => nomatch z)
        have e : (fun (σ : List SV) (M : Mem) => ev T (Φ hot) hot (.call f as) σ M) = fun σ M => (evs T (Φ hot) hot as σ M).bind fun ds M => Φ hot f ds M := by
          have hn : as.isNil = false := by cases as <;> first | rfl | (exact Bool.noConfusion (show false = true from h6))
          funext σ M
          simp only [ev, hn, Bool.and_false, Bool.false_eq_true, if_false]
        rw [e]
        exact v_call c hf h2 h3 h4 h5 (ih.2 X sc xa WW c _ h6).f
      · cases h
    · cases h
  | bf p as ih =>
    refine ⟨fun X sc xa WW c ast h => ?_, noL fun _ _ => rfl⟩
    simp only [chkE_bf] at h
    split at h
    · simp only [decide_eq_true_eq, Bool.and_eq_true] at h
      obtain ⟨h1, h2, h3, h4, h5⟩ := h
      subst h1
      exact .mk1 (by simp only [ev]; exact v_bf c h2 h3 h4 (ih.2 X sc xa WW c _ h5).b) (fun _ => rfl) (fun _ _ _ z => nomatch z)
    · cases h
  | isi a t iha =>
    refine ⟨fun X sc xa WW c ast h => ?_, noL fun _ _ => rfl⟩
    simp only [chkE_isi] at h
    split at h
    · simp only [decide_eq_true_eq, Bool.and_eq_true] at h
      obtain ⟨h1, h2, h3, h4, h5⟩ := h
      subst h1
      exact .mk1 (by simp only [ev]; exact v_isi c h2 h3 (iha.1 X sc xa WW c _ h4).pe h5) (fun _ => rfl) (fun _ _ _ z => nomatch z)
    · cases h
  | ix a i iha ihi =>
    refine ⟨fun X sc xa WW c ast h => ?_, noL fun _ _ => rfl⟩
    simp only [chkE_ix] at h
    split at h
    · simp only [Bool.and_eq_true] at h
      obtain ⟨h1, h2, h3⟩ := h
      exact .mk1 (by simp only [ev]; exact v_ix rfl c.un h1 (iha.1 X sc xa WW c _ h2).pe (ihi.1 X sc xa WW c _ h3).pe) (fun _ => rfl) (fun _ _ _ z => nomatch z)
    · cases h
  | tup as ih =>
    refine ⟨fun X sc xa WW c ast h => ?_, noL fun _ _ => rfl⟩
    simp only [chkE_tup] at h
    split at h
    · exact .mk1 (by simp only [ev]; exact v_tup (ih.2 X sc xa WW c _ h).f) (fun _ => rfl) (fun _ _ _ z => nomatch z)
    · cases h
  | lst as ih =>
    refine ⟨fun X sc xa WW c ast h => ?_, noL fun _ _ => rfl⟩
    simp only [chkE_lst] at h
    split at h
    · exact .mk1 (by simp only [ev]; exact v_lst (ih.2 X sc xa WW c _ h).f) (fun _ => rfl) (fun _ _ _ z => nomatch z)
    · cases h
  | dct0 =>
    refine ⟨fun X sc xa WW c ast h => ?_, noL fun _ _ => rfl⟩
    simp only [chkE_dct0] at h
    split at h
    · exact .mk1 (by simp only [ev]; exact v_dct0) (fun _ => rfl) (fun _ _ _ z => nomatch z)
    · cases h
  | lc own t it cd el ihit ihc ihe =>
    refine ⟨fun X sc xa WW c ast h => ?_, noL fun _ _ => rfl⟩
    have h' := h
    simp only [chkE_lc] at h
    split at h
    · exact .mk1 ((lcp ihit ihc ihe c h').pe c) (fun _ => rfl) (fun _ _ _ z => nomatch z)
    · cases h
  | lcr own t as cd el ihas ihc ihe =>
    refine ⟨fun X sc xa WW c ast h => ?_, noL fun _ _ => rfl⟩
    have h' := h
    simp only [chkE_lcr] at h
    split at h
    · exact .mk1 ((lcp_r ihas ihc ihe c h').pe c) (fun _ => rfl) (fun _ _ _ z => nomatch z)
    · cases h
  | rgl a b iha ihb =>
    refine ⟨fun X sc xa WW c ast h => ?_, noL fun _ _ => rfl⟩
    simp only [chkE_rgl] at h
    split at h
    · simp only [decide_eq_true_eq, Bool.and_eq_true] at h
      obtain ⟨h1, h2, h3, h4, h5, h6, h7, h8⟩ := h
      subst h1 h2
      exact .mk1 (by simp only [ev]; exact v_rgl c h3 h4 h5 h6 (iha.1 X sc xa WW c _ h7).pe (ihb.1 X sc xa WW c _ h8).pe) (fun _ => rfl) (fun _ _ _ z => nomatch z)
    · cases h
  | pr p as ih =>
    refine ⟨fun X sc xa WW c ast h => ?_, noL fun _ _ => rfl⟩
    cases hot with
    | some k =>
      exact ve_stk fun σ M => by simp only [ev, Option.isSome_some, if_true]
    | none =>
      have e : (fun (σ : List SV) (M : Mem) => ev T (Φ none) none (.pr p as) σ M) = fun σ M => (evb T (Φ none) none as σ M).bind fun ds M => prim p ds M := by
        funext σ M
        simp only [ev, Option.isSome_none, Bool.false_eq_true, if_false]
      simp only [chkE_pr] at h
      split at h
      · rename_i es hd
        cases p with
        | sl lo hi =>
          have hd : dSl lo hi ast = some es := hd
          unfold dSl at hd
          split at hd
          · split at hd
            · cases hd
              obtain ⟨a, rfl, i⟩ := (ih.2 X sc xa WW c _ h).l.one
              exact .mk1 (by rw [e]; exact v_sl0 c i) (fun _ => rfl) (fun _ _ _ z => nomatch z)
            · cases hd
              obtain ⟨a, b, rfl, i, j⟩ := (ih.2 X sc xa WW c _ h).l.two
              exact .mk1 (by rw [e]; exact v_slL c i j) (fun _ => rfl) (fun _ _ _ z => nomatch z)
            · cases hd
              obtain ⟨a, b, rfl, i, j⟩ := (ih.2 X sc xa WW c _ h).l.two
              exact .mk1 (by rw [e]; exact v_slH c i j) (fun _ => rfl) (fun _ _ _ z => nomatch z)
            · cases hd
          · cases hd
        | rvl =>
          have hd : dRv ast = some es := hd
          unfold dRv at hd
          split at hd
          · split at hd
            · rename_i hm
              cases hd
              unfold isM1 at hm
              split at hm
              · obtain ⟨a, rfl, i⟩ := (ih.2 X sc xa WW c _ h).l.one
                exact .mk1 (by rw [e]; exact v_rvl c i) (fun _ => rfl) (fun _ _ _ z => nomatch z)
              · cases hm
            · cases hd
          · cases hd
        | dct1 =>
          have hz : dC1 "dict" sc ast = some es := hd
          clear hd
          unfold dC1 at hz
          split at hz
          · split at hz
            · rename_i hh
              obtain ⟨h1, h2, h3⟩ := hh
              subst h1
              have hz := Option.some.inj hz
              subst hz
              refine .mk1 ?_ (fun _ => rfl) (fun _ _ _ z => nomatch z)
              rw [e]
              exact vt_call (c_dict rfl c.mode.2.1) (gl_of c h2) (c.sk.free _ (by decide +kernel)) (by decide +kernel) (by decide +kernel) h3 rfl (ih.2 X sc xa WW c _ h).b
            · cases hz
          · cases hz
        | str1 =>
          have hz : dC1 "str" sc ast = some es := hd
          clear hd
          unfold dC1 at hz
          split at hz
          · split at hz
            · rename_i hh
              obtain ⟨h1, h2, h3⟩ := hh
              subst h1
              have hz := Option.some.inj hz
              subst hz
              refine .mk1 ?_ (fun _ => rfl) (fun _ _ _ z => nomatch z)
              rw [e]
              exact vt_call c_str (gl_of c h2) (c.sk.free _ (by decide +kernel)) (by decide +kernel) (by decide +kernel) h3 rfl (ih.2 X sc xa WW c _ h).b
            · cases hz
          · cases hz
        | sset =>
          have hz : dS1 "sorted" sc ast = some es := hd
          clear hd
          unfold dS1 at hz
          split at hz
          · split at hz
            · rename_i hh
              obtain ⟨h1, h2, h3, h4, h5⟩ := hh
              subst h1 h2
              have hz := Option.some.inj hz
              subst hz
              obtain ⟨a, rfl, i⟩ := (ih.2 X sc xa WW c _ h).l.one
              refine .mk1 ?_ (fun _ => rfl) (fun _ _ _ z => nomatch z)
              rw [e]
              simp only [evb, rs_bind, rs_ok, prim]
              exact pe_sortedSetD rfl c.un c.mode.2.1 (gl_of c h3) (c.sk.free _ (by decide +kernel)) (gl_of c h4) (c.sk.free _ (by decide +kernel)) i h5
            · cases hz
          · cases hz
        | lset =>
          have hz : dS1 "len" sc ast = some es := hd
          clear hd
          unfold dS1 at hz
          split at hz
          · split at hz
            · rename_i hh
              obtain ⟨h1, h2, h3, h4, h5⟩ := hh
              subst h1 h2
              have hz := Option.some.inj hz
              subst hz
              obtain ⟨a, rfl, i⟩ := (ih.2 X sc xa WW c _ h).l.one
              refine .mk1 ?_ (fun _ => rfl) (fun _ _ _ z => nomatch z)
              rw [e]
              simp only [evb, rs_bind, rs_ok, prim]
              exact pe_lenSetD rfl c.mode.2.1 (gl_of c h3) (c.sk.free _ (by decide +kernel)) (gl_of c h4) (c.sk.free _ (by decide +kernel)) i h5
            · cases hz
          · cases hz
        | inr neg =>
          have hz : dIr neg sc ast = some es := hd
          clear hd
          unfold dIr at hz
          split at hz
          · split at hz
            · rename_i hh
              obtain ⟨h1, h2, h3, h4, h5⟩ := hh
              subst h1 h2
              have hz := Option.some.inj hz
              subst hz
              obtain ⟨a, b, d, rfl, i, j, k⟩ := (ih.2 X sc xa WW c _ h).l.three
              exact ⟨by rw [e]; exact (v_inr (neg := neg) c h3 h4 h5 i j k).1, by
                have e2 : (fun (σ : List SV) (M : Mem) => (ev T (Φ none) none (.pr (.inr neg) (.cons a (.cons b (.cons d .nil)))) σ M).bl) = fun σ M => ((evb T (Φ none) none (.cons a (.cons b (.cons d .nil))) σ M).bind fun ds M => prim (.inr neg) ds M).bl := by
                  funext σ M
                  have := congrFun (congrFun e σ) M
                  exact congrArg Rs.bl this
                rw [e2]; exact (v_inr (neg := neg) c h3 h4 h5 i j k).2, fun _ _ _ z => nomatch z⟩
            · cases hz
          · cases hz
        | _ => cases hd
      · cases h
  | fs as ih =>
    refine ⟨fun X sc xa WW c ast h => ?_, noL fun _ _ => rfl⟩
    simp only [chkE_fs] at h
    split at h
    · split at h
      · rename_i es hd
        simp only [decide_eq_true_eq, Bool.and_eq_true] at h
        obtain ⟨h1, h2, h3⟩ := h
        refine .mk1 ?_ (fun _ => rfl) (fun _ _ _ z => nomatch z)
        simp only [ev]
        exact v_fs (ih.2 X sc xa WW c _ h3).l hd h2 h1
      · cases h
    · cases h
  | isi2 a t u iha =>
    refine ⟨fun X sc xa WW c ast h => ?_, noL fun _ _ => rfl⟩
    simp only [chkE_isi2] at h
    split at h
    · simp only [decide_eq_true_eq, Bool.and_eq_true] at h
      obtain ⟨h1, h2, h3, h4, h5, h6⟩ := h
      subst h1
      unfold tyC2 at h5 h6
      cases e1 : tyS t with
      | none => rw [e1] at h5; cases h5
      | some z1 =>
        cases e2 : tyS u with
        | none => rw [e2] at h6; cases h6
        | some z2 =>
          rw [e1] at h5
          rw [e2] at h6
          simp only [decide_eq_true_eq, Bool.and_eq_true] at h5 h6
          obtain ⟨rfl, g1⟩ := h5
          obtain ⟨rfl, g2⟩ := h6
          exact .mk1 (by simp only [ev]; exact v_isi2 c h2 h3 (iha.1 X sc xa WW c _ h4).pe e1 e2 g1 g2) (fun _ => rfl) (fun _ _ _ z => nomatch z)
    · cases h
  | dsp ks as ih =>
    refine ⟨fun X sc xa WW c ast h => ?_, noL fun _ _ => rfl⟩
    simp only [chkE_dsp] at h
    split at h
    · simp only [decide_eq_true_eq, Bool.and_eq_true] at h
      obtain ⟨h1, h2, h3, h4, h5⟩ := h
      refine .mk1 ?_ (fun _ => rfl) (fun _ _ _ z => nomatch z)
      simp only [ev]
      cases hot with
      | some k => exact le_false fun σ H Q ⟨Fr, ρ, G, σs, M, r, q⟩ => q
      | none =>
        simp only [Option.isSome_none, Bool.false_eq_true, if_false]
        exact v_dsp c (ih.2 X sc xa WW c _ h5).l h1 h2 (fun z => by rw [z] at h3; cases h3) h4
    · cases h
  | sl3 a l b iha ihl ihb =>
    refine ⟨fun X sc xa WW c ast h => ?_, noL fun _ _ => rfl⟩
    simp only [chkE_sl3] at h
    split at h
    · simp only [Bool.and_eq_true] at h
      obtain ⟨h1, h2, h3⟩ := h
      refine .mk1 ?_ (fun _ => rfl) (fun _ _ _ z => nomatch z)
      simp only [ev]
      cases hot with
      | some k => exact le_false fun σ H Q ⟨Fr, ρ, G, σs, M, r, q⟩ => q
      | none =>
        simp only [Option.isSome_none, Bool.false_eq_true, if_false]
        exact v_sl3 c (iha.1 X sc xa WW c _ h1).pe (ihl.1 X sc xa WW c _ h2).pe (ihb.1 X sc xa WW c _ h3).pe
    · cases h
  | pm p o as iho ih =>
    refine ⟨fun X sc xa WW c ast h => ?_, noL fun _ _ => rfl⟩
    simp only [chkE_pm] at h
    split at h
    · rename_i x m ap a es cp
      simp only [decide_eq_true_eq, Bool.and_eq_true] at h
      obtain ⟨h1, h2, h3, h4, h5, h6, h7, h8⟩ := h
      subst h1
      refine .mk1 ?_ (fun _ => rfl) (fun _ _ _ z => nomatch z)
      simp only [ev]
      have io := (iho.1 X sc xa WW c _ h6).pe
      have ia := ih.2 X sc xa WW c _ h7
      cases p with
      | get =>
        cases es with
        | nil =>
          obtain ⟨a', rfl, i⟩ := ia.l.one
          have := v_get1 (ap := ap) (cp := cp) c.un io i h2 h3 (by simpa using h4)
          refine PE.weak this fun σ H Q ⟨Fr, ρ, G, σs, M, r, q⟩ => ⟨Fr, ρ, G, σs, M, r, ?_⟩
          simp only [evb, rs_bind, rs_ok] at q
          exact q
        | cons b es =>
          cases es with
          | nil =>
            obtain ⟨a', b', rfl, i, j⟩ := ia.l.two
            have h4' : noStar a = true ∧ noStar b = true := by simpa using h4
            have := v_get2 (ap := ap) (cp := cp) c.un io i j h2 h3 h4'.1 h4'.2
            refine PE.weak this fun σ H Q ⟨Fr, ρ, G, σs, M, r, q⟩ => ⟨Fr, ρ, G, σs, M, r, ?_⟩
            simp only [evb, rs_bind, rs_ok] at q
            exact q
          | cons _ _ =>
            simp only [List.length_cons, decide_eq_true_eq] at h8
            omega
      | lidx => exact v_lidx io ia.b h2 h3 h4 h5
      | lcnt => exact v_lcnt io ia.b h2 h3 h4 h5
      | pop => exact v_pop io ia.b h2 h3 h4 h5
      | tm m =>
        cases es with
        | nil =>
          obtain ⟨a', rfl, i⟩ := ia.l.one
          have := v_tm (m := m) (ap := ap) (cp := cp) io i h2 h3 (by simpa using h4)
          refine PE.weak this fun σ H Q ⟨Fr, ρ, G, σs, M, r, q⟩ => ⟨Fr, ρ, G, σs, M, r, ?_⟩
          simp only [evb, rs_bind, rs_ok] at q
          exact q
        | cons _ _ => cases h8
    · cases h
  | att a f iha =>
    refine ⟨fun X sc xa WW c ast h => ?_, noL fun _ _ => rfl⟩
    simp only [chkE_att] at h
    split at h
    · simp only [decide_eq_true_eq, Bool.and_eq_true] at h
      obtain ⟨h1, h2, h3, h4⟩ := h
      exact .mk1 (by simp only [ev]; exact v_att c h1 h2 h3 (iha.1 X sc xa WW c _ h4).pe) (fun _ => rfl) (fun _ _ _ z => nomatch z)
    · cases h
  | meth o m as iho ih =>
    refine ⟨fun X sc xa WW c ast h => ?_, noL fun _ _ => rfl⟩
    simp only [chkE_meth] at h
    split at h
    · simp only [decide_eq_true_eq, Bool.and_eq_true] at h
      obtain ⟨h1, h2, h3, h4, h5, h6, h7⟩ := h
      refine .mk1 ?_ (fun _ => rfl) (fun _ _ _ z => nomatch z)
      simp only [ev]
      cases hot with
      | some k => exact le_false fun σ H Q ⟨Fr, ρ, G, σs, M, r, q⟩ => q
      | none =>
        simp only [Option.isSome_none, Bool.false_eq_true, if_false]
        exact v_meth c h1 h2 h3 h4 h5 (no_args h7) (iho.1 X sc xa WW c _ h6).pe (ih.2 X sc xa WW c _ h7).f
    · cases h
  | mk v k as ih =>
    refine ⟨fun X sc xa WW c ast h => ?_, noL fun _ _ => rfl⟩
    simp only [chkE_mk] at h
    split at h
    · simp only [decide_eq_true_eq, Bool.and_eq_true] at h
      obtain ⟨h1, h2, h3, h4, h5⟩ := h
      refine .mk1 ?_ (fun _ => rfl) (fun _ _ _ z => nomatch z)
      simp only [ev]
      cases hot with
      | some k => exact le_false fun σ H Q ⟨Fr, ρ, G, σs, M, r, q⟩ => q
      | none =>
        simp only [Option.isSome_none, Bool.false_eq_true, if_false]
        exact v_mk c h1 h2 h3 h4 (no_args h5) (ih.2 X sc xa WW c _ h5).f
    · cases h
  | sup k as ih =>
    refine ⟨fun X sc xa WW c ast h => ?_, noL fun _ _ => rfl⟩
    simp only [chkE_sup] at h
    split at h
    · simp only [decide_eq_true_eq, Bool.and_eq_true] at h
      obtain ⟨h1, h2, h3, h4, h5, h6, h7, h8, h9⟩ := h
      subst h2
      refine .mk1 ?_ (fun _ => rfl) (fun _ _ _ z => nomatch z)
      simp only [ev]
      cases hot with
      | some k => exact le_false fun σ H Q ⟨Fr, ρ, G, σs, M, r, q⟩ => q
      | none =>
        simp only [Option.isSome_none, Bool.false_eq_true, if_false]
        exact v_sup c h1 h3 h4 h5 h6 h7 h8 (ih.2 X sc xa WW c _ h9).f
    · cases h
  | gf f =>
    refine ⟨fun X sc xa WW c ast h => ?_, noL fun _ _ => rfl⟩
    simp only [chkE_gf] at h
    split at h
    · split at h
      · rename_i y ps hf
        simp only [decide_eq_true_eq, Bool.and_eq_true] at h
        obtain ⟨h1, h2, h3⟩ := h
        subst h1
        exact .mk1 (by simp only [ev]; exact v_gf c hf h2 h3) (fun _ => rfl) (fun _ _ _ z => nomatch z)
      · cases h
    · cases h
  | cv fs f as ihf ih =>
    refine ⟨fun X sc xa WW c ast h => ?_, noL fun _ _ => rfl⟩
    simp only [chkE_cv] at h
    split at h
    · rename_i x y p a es pos
      simp only [Bool.and_eq_true] at h
      obtain ⟨h1, h2, h3, h4, h5⟩ := h
      refine .mk1 ?_ (fun _ => rfl) (fun _ _ _ z => nomatch z)
      simp only [ev]
      cases hot with
      | some k => exact le_false fun σ H Q ⟨Fr, ρ, G, σs, M, r, q⟩ => q
      | none =>
        simp only [Option.isSome_none, Bool.false_eq_true, if_false]
        refine v_cv c (fs := fs) (fun f hf => ?_) h3 h4 (ihf.1 X sc xa WW c _ h2).pe (ih.2 X sc xa WW c _ h5).f
        have := List.all_eq_true.mp h1 f hf
        split at this
        · rename_i z ps e
          exact ⟨z, ps, e, this⟩
        · cases this
    · cases h
  | lci k own t as cd el ihas ihc ihe =>
    refine ⟨fun X sc xa WW c ast h => ?_, noL fun _ _ => rfl⟩
    have h' := h
    simp only [chkE_lci] at h
    split at h
    · exact .mk1 ((lcp_i ihas ihc ihe c h').pe c) (fun _ => rfl) (fun _ _ _ z => nomatch z)
    · cases h
  | lcd own t a cd el iha ihc ihe =>
    refine ⟨fun X sc xa WW c ast h => ?_, noL fun _ _ => rfl⟩
    have h' := h
    simp only [chkE_lcd] at h
    split at h
    · exact .mk1 ((lcp_d iha ihc ihe c h').pe c) (fun _ => rfl) (fun _ _ _ z => nomatch z)
    · cases h
  | cel a iha =>
    refine ⟨fun X sc xa WW c ast h => ?_, noL fun _ _ => rfl⟩
    simp only [chkE_cel, Bool.and_eq_true] at h
    have i := iha.1 X sc xa WW c _ h.2
    refine ⟨PE.weak i.pe fun σ H Q ⟨Fr, ρ, G, σs, M, r, q⟩ => ⟨Fr, ρ, G, σs, M, r, aft_cel (by simpa only [ev] using q)⟩, ⟨fun pins s σ H Q I ⟨Fr, ρ, G, σs, M, r, q⟩ => i.pt.run pins s σ H Q I ⟨Fr, ρ, G, σs, M, r, aft_celb (by simpa only [ev] using q)⟩⟩, fun op vs pos e => ?_⟩
    have j := i.pw op vs pos e
    exact ⟨fun whole pins s σ H Q I ⟨Fr, ρ, G, σs, M, r, q⟩ => j.run whole pins s σ H Q I ⟨Fr, ρ, G, σs, M, r, aft_celb (by simpa only [ev] using q)⟩⟩
  | nil =>
    refine ⟨fun X sc xa WW c ast h => by exact Bool.noConfusion (show false = true from h), fun X sc xa WW c asts h => ?_⟩
    simp only [chkL_nil, List.isEmpty_iff] at h
    subst h
    exact ⟨by simp only [evs]; exact va_nil, by simp only [evb]; exact vb_nil, .nil⟩
  | cons a as iha ihs =>
    refine ⟨fun X sc xa WW c ast h => by exact Bool.noConfusion (show false = true from h), fun X sc xa WW c asts h => ?_⟩
    simp only [chkL_cons] at h
    split at h
    · simp only [Bool.and_eq_true] at h
      obtain ⟨h1, h2, h3⟩ := h
      have i := (iha.1 X sc xa WW c _ h2).pe
      have j := ihs.2 X sc xa WW c _ h3
      exact ⟨by simp only [evs]; exact va_cons h1 i j.f, by simp only [evb]; exact vb_cons h1 i j.b, .cons i j.l⟩
    · cases h
end
end VM
/-! VM12: every checked statement. -/
namespace VM
open PySem L2 PySem.Spec PyProof.Rows

/-- the comprehension's own store -/
def swB (sc scope : Scope) (x : Str) (l : Bool) : Bool := (match sc.names.lookup x with
  | some .local => true
  | _ => false) && (l && !(scope.names.any fun (n, k) => n == x && (k == .local || k == .cell)))
def C.isHnd : C → Bool
  | .hnd _ _ _ _ => true
  | _ => false
def C.isFrz : C → Bool
  | .frz _ => true
  | _ => false
/-- a, b = c, d: two local names of a row -/
def isLoc (sc : Scope) (x : Str) : Bool := match sc.names.lookup x with
  | some .local => true
  | _ => false
def parN (sc : Scope) (x y : Str) (l : Bool) (a b : Expr) : Bool := isLoc sc x && (isLoc sc y && (decide (x ≠ y) && (l && (noStar a && (noStar b && (!([a, b].all (foldedForSure 8)) && !([a, b].all (constantsAlone 8))))))))
theorem isLoc_ok {sc : Scope} {x : Str} (h : isLoc sc x = true) : sc.names.lookup x = some .local := by
  unfold isLoc at h
  split at h
  · assumption
  · cases h
theorem parStores {x y : Str} {px py pt p2 : Pos} {kt k2 : Nat} {a b : Expr} {env : Env} (hk : env.scope.kind = .function) (h : parN env.scope x y (py.line == px.line) a b = true) : swappedStores [.Tuple [.Name x px, .Name y py] kt pt] (.Tuple [a, b] k2 p2) env = pure (some [x, y]) := by
  unfold parN at h
  simp only [Bool.and_eq_true, decide_eq_true_eq, Bool.not_eq_true'] at h
  obtain ⟨h1, h2, h3, h4, h5, h6, h7, h8⟩ := h
  have hb : env.blockKind = .function := by unfold Env.blockKind; rw [hk]; rfl
  have e1 : env.kindOf x = some .local := isLoc_ok h1
  have e2 : env.kindOf y = some .local := isLoc_ok h2
  have ns : ([a, b].any fun | .Starred .. => true | _ => false) = false := by
    have na : ∀ e : Expr, noStar e = true → (match e with | .Starred .. => true | _ => false) = false := fun e h => by cases e <;> first | rfl | cases h
    simp only [List.any_cons, List.any_nil, Bool.or_false]
    have := na a h5
    have := na b h6
    simp_all
  have q2 : (y == x) = false := by rw [beq_eq_false_iff_ne]; exact Ne.symm h3
  have ne : ([x, y] : List Str).eraseDups = [x, y] := by
    simp [List.eraseDups, List.eraseDupsBy, List.eraseDupsBy.loop, q2]
  have h4 : py.line = px.line := eq_of_beq h4
  unfold swappedStores
  simp only [List.length_cons, List.length_nil, hb, ns, h7, h8, Bool.false_eq_true, if_false]
  simp [e1, e2, h4, ne, Expr.pos]
  intro h
  exfalso
  rcases h with h | h
  · cases a <;> first | cases h5; done | cases h
  · cases b <;> first | cases h6; done | cases h
mutual
def chk1 (Γ : Tx) (N : List Str) (sc : Scope) : C → Stmt → Bool
  | .nop, s => (match s with
    | .Pass _ => true
    | _ => false)
  | .mutO k i as, s => (match s with
    | .Expr (.Call (.Attribute (.Name x _) m ap) es [] cp) _ => decide (N[i]? = some x) && (visC sc x && (plainN x && (decide (m = muS k) && ((ap.endLine == cp.line) && (es.all noStar && (decide (es.length < 20) && chkL Γ N as sc es))))))
    | _ => false)
  | .mutC k a as, s => (match s with
    | .Expr (.Call (.Attribute o m ap) es [] cp) _ => noCall o && (chkE Γ N a sc o && (decide (m = muS k) && ((ap.endLine == cp.line) && (es.all noStar && (decide (es.length < 20) && chkL Γ N as sc es)))))
    | _ => false)
  | .ext a e, s => (match s with
    | .Expr (.Call (.Attribute o m ap) [x] [] cp) _ => noCall o && (decide (m = "extend") && ((ap.endLine == cp.line) && (noStar x && (chkE Γ N a sc o && chkE Γ N e sc x))))
    | _ => false)
  | .set _ i e, s => (match s with
    | .Assign [.Name x _] v _ => decide (N[i]? = some x) && (locC sc x && (plainN x && chkE Γ N e sc v))
    | _ => false)
  | .setT t e, s => (match s with
    | .Assign [.Tuple es k p] v _ => chkT N (locC sc) t (.Tuple es k p) && (noComp v && (noTup v && chkE Γ N e sc v))
    | _ => false)
  | .par i j as, s => (match s with
    | .Assign [.Tuple [.Name x px, .Name y py] _ _] (.Tuple [a, b] _ _) _ => parN sc x y (py.line == px.line) a b && (decide (N[i]? = some x) && (decide (N[j]? = some y) && (decide (i ≠ j) && chkL Γ N as sc [a, b])))
    | _ => false)
  | .exp e, s => (match s with
    | .Expr v _ => noComp v && chkE Γ N e sc v
    | _ => false)
  | .ite t a b, s => (match s with
    | .If x as bs _ => chkE Γ N t sc x && (chkC Γ N sc a as && chkC Γ N sc b bs)
    | _ => false)
  | .for t it b, s => (match s with
    | .For tg iter body [] _ => chkT N (locC sc) t tg && (chkC Γ N sc b body && (match it with
      | .e a => notSet iter && chkE Γ N a sc iter
      | .r1 a => (match iter with
        | .Call (.Name f _) [x] [] _ => decide (f = "range") && (gloC sc f && (noStar x && chkE Γ N a sc x))
        | _ => false)
      | .r2 a b => (match iter with
        | .Call (.Name f _) [x, y] [] _ => decide (f = "range") && (gloC sc f && (noStar x && (noStar y && (chkE Γ N a sc x && chkE Γ N b sc y))))
        | _ => false)))
    | _ => false)
  | .ret e, s => (match s with
    | .Return (some v) _ => chkE Γ N e sc v
    | .Return none _ => (match e with
      | .c .non => true
      | _ => false)
    | _ => false)
  | .aug i e, s => (match s with
    | .AugAssign (.Name x _) .Add v _ => decide (N[i]? = some x) && (locC sc x && chkE Γ N e sc v)
    | _ => false)
  | .setO i ix e, s => (match s with
    | .Assign [.Subscript (.Name x _) y _] v _ => decide (N[i]? = some x) && (visC sc x && (plainN x && (noSlice y && (noComp v && (noTup v && (chkE Γ N ix sc y && chkE Γ N e sc v))))))
    | _ => false)
  | .setC a ix e, s => (match s with
    | .Assign [.Subscript o y _] v _ => noSlice y && (noComp v && (noTup v && (chkE Γ N a sc o && (chkE Γ N ix sc y && chkE Γ N e sc v))))
    | _ => false)
  | .augO i ix e, s => (match s with
    | .AugAssign (.Subscript (.Name x _) y _) .Add v _ => decide (N[i]? = some x) && (visC sc x && (plainN x && (noSlice y && (chkE Γ N ix sc y && chkE Γ N e sc v))))
    | _ => false)
  | .setA _ a f e, s => (match s with
    | .Assign [.Attribute o x _] v _ => decide (Γ.fd[f]? = some x) && (decide (x ≠ "") && (noComp v && (chkE Γ N a sc o && chkE Γ N e sc v)))
    | _ => false)
  | .whl _ t b, s => (match s with
    | .While x body [] _ => chkE Γ N t sc x && chkC Γ N sc b body
    | _ => false)
  | .fori k t as b, s => (match s with
    | .For tg iter body [] _ => (match ikC sc k tg iter with
      | some es => chkT N (locC sc) t tg && (chkC Γ N sc b body && chkL Γ N as sc es)
      | none => false)
    | _ => false)
  | .rai k, s => (match s with
    | .Raise (some (.Call (.Name x _) [.Constant (.str _) _ _] [] _)) none _ => decide (Γ.cs[k]? = some x) && (gloC sc x && plainN x)
    | _ => false)
  | .try b h, s => (match s with
    | .Try body hds [] [] _ => chkC Γ N sc b body && (chkH Γ N sc h hds || (h.isHnd && chkM Γ N sc h hds))
    | _ => false)
  | _, _ => false
def chkC (Γ : Tx) (N : List Str) (sc : Scope) : C → List Stmt → Bool
  | .nop, ss => ss.isEmpty
  | .seq a b, ss => (match a.isFrz with
    | true => chkC Γ N sc b ss
    | false => (match ss with
      | s :: r => chk1 Γ N sc a s && chkC Γ N sc b r
      | _ => false))
  | _, _ => false
def chkH (Γ : Tx) (N : List Str) (sc : Scope) : C → List ExceptHandler → Bool
  | .hnd k i s r, hs => (match hs, i, r with
    | [.ExceptHandler (some (.Name x _)) (some y) (b :: suite) _], some i, .nop => decide (Γ.cs[k]? = some x) && (gloC sc x && (plainN x && (decide (N[i]? = some y) && ((match sc.names.lookup y with
      | some .local => true
      | _ => false) && chkC Γ N sc s (b :: suite)))))
    | _, _, _ => false)
  | _, _ => false
def chkM (Γ : Tx) (N : List Str) (sc : Scope) : C → List ExceptHandler → Bool
  | .nop, hs => hs.isEmpty
  | .hnd k i s r, hs => (match i, hs with
    | none, .ExceptHandler (some (.Name x _)) none (b :: suite) _ :: hs => decide (Γ.cs[k]? = some x) && (gloC sc x && (plainN x && (chkC Γ N sc s (b :: suite) && chkM Γ N sc r hs)))
    | _, _ => false)
  | _, _ => false
end
theorem chk1_nop {Γ N sc s} : chk1 Γ N sc .nop s = ((match s with
    | .Pass _ => true
    | _ => false)) := by rfl
theorem chk1_mutO {Γ N sc k i as s} : chk1 Γ N sc (.mutO k i as) s = ((match s with
    | .Expr (.Call (.Attribute (.Name x _) m ap) es [] cp) _ => decide (N[i]? = some x) && (visC sc x && (plainN x && (decide (m = muS k) && ((ap.endLine == cp.line) && (es.all noStar && (decide (es.length < 20) && chkL Γ N as sc es))))))
    | _ => false)) := by rfl
theorem chk1_mutC {Γ N sc k a as s} : chk1 Γ N sc (.mutC k a as) s = ((match s with
    | .Expr (.Call (.Attribute o m ap) es [] cp) _ => noCall o && (chkE Γ N a sc o && (decide (m = muS k) && ((ap.endLine == cp.line) && (es.all noStar && (decide (es.length < 20) && chkL Γ N as sc es)))))
    | _ => false)) := by rfl
theorem chk1_ext {Γ N sc a e s} : chk1 Γ N sc (.ext a e) s = ((match s with
    | .Expr (.Call (.Attribute o m ap) [x] [] cp) _ => noCall o && (decide (m = "extend") && ((ap.endLine == cp.line) && (noStar x && (chkE Γ N a sc o && chkE Γ N e sc x))))
    | _ => false)) := by rfl
theorem chk1_set {Γ N sc w1 i e s} : chk1 Γ N sc (.set w1 i e) s = ((match s with
    | .Assign [.Name x _] v _ => decide (N[i]? = some x) && (locC sc x && (plainN x && chkE Γ N e sc v))
    | _ => false)) := by rfl
theorem chk1_setT {Γ N sc t e s} : chk1 Γ N sc (.setT t e) s = ((match s with
    | .Assign [.Tuple es k p] v _ => chkT N (locC sc) t (.Tuple es k p) && (noComp v && (noTup v && chkE Γ N e sc v))
    | _ => false)) := by rfl
theorem chk1_par {Γ N sc i j as s} : chk1 Γ N sc (.par i j as) s = ((match s with
    | .Assign [.Tuple [.Name x px, .Name y py] _ _] (.Tuple [a, b] _ _) _ => parN sc x y (py.line == px.line) a b && (decide (N[i]? = some x) && (decide (N[j]? = some y) && (decide (i ≠ j) && chkL Γ N as sc [a, b])))
    | _ => false)) := by rfl
theorem chk1_exp {Γ N sc e s} : chk1 Γ N sc (.exp e) s = ((match s with
    | .Expr v _ => noComp v && chkE Γ N e sc v
    | _ => false)) := by rfl
theorem chk1_ite {Γ N sc t a b s} : chk1 Γ N sc (.ite t a b) s = ((match s with
    | .If x as bs _ => chkE Γ N t sc x && (chkC Γ N sc a as && chkC Γ N sc b bs)
    | _ => false)) := by rfl
theorem chk1_for {Γ N sc t it b s} : chk1 Γ N sc (.for t it b) s = ((match s with
    | .For tg iter body [] _ => chkT N (locC sc) t tg && (chkC Γ N sc b body && (match it with
      | .e a => notSet iter && chkE Γ N a sc iter
      | .r1 a => (match iter with
        | .Call (.Name f _) [x] [] _ => decide (f = "range") && (gloC sc f && (noStar x && chkE Γ N a sc x))
        | _ => false)
      | .r2 a b => (match iter with
        | .Call (.Name f _) [x, y] [] _ => decide (f = "range") && (gloC sc f && (noStar x && (noStar y && (chkE Γ N a sc x && chkE Γ N b sc y))))
        | _ => false)))
    | _ => false)) := by rfl
theorem chk1_ret {Γ N sc e s} : chk1 Γ N sc (.ret e) s = ((match s with
    | .Return (some v) _ => chkE Γ N e sc v
    | .Return none _ => (match e with
      | .c .non => true
      | _ => false)
    | _ => false)) := by rfl
theorem chk1_aug {Γ N sc i e s} : chk1 Γ N sc (.aug i e) s = ((match s with
    | .AugAssign (.Name x _) .Add v _ => decide (N[i]? = some x) && (locC sc x && chkE Γ N e sc v)
    | _ => false)) := by rfl
theorem chk1_setO {Γ N sc i ix e s} : chk1 Γ N sc (.setO i ix e) s = ((match s with
    | .Assign [.Subscript (.Name x _) y _] v _ => decide (N[i]? = some x) && (visC sc x && (plainN x && (noSlice y && (noComp v && (noTup v && (chkE Γ N ix sc y && chkE Γ N e sc v))))))
    | _ => false)) := by rfl
theorem chk1_setC {Γ N sc a ix e s} : chk1 Γ N sc (.setC a ix e) s = ((match s with
    | .Assign [.Subscript o y _] v _ => noSlice y && (noComp v && (noTup v && (chkE Γ N a sc o && (chkE Γ N ix sc y && chkE Γ N e sc v))))
    | _ => false)) := by rfl
theorem chk1_augO {Γ N sc i ix e s} : chk1 Γ N sc (.augO i ix e) s = ((match s with
    | .AugAssign (.Subscript (.Name x _) y _) .Add v _ => decide (N[i]? = some x) && (visC sc x && (plainN x && (noSlice y && (chkE Γ N ix sc y && chkE Γ N e sc v))))
    | _ => false)) := by rfl
theorem chk1_setA {Γ N sc w1 a f e s} : chk1 Γ N sc (.setA w1 a f e) s = ((match s with
    | .Assign [.Attribute o x _] v _ => decide (Γ.fd[f]? = some x) && (decide (x ≠ "") && (noComp v && (chkE Γ N a sc o && chkE Γ N e sc v)))
    | _ => false)) := by rfl
theorem chk1_whl {Γ N sc w1 t b s} : chk1 Γ N sc (.whl w1 t b) s = ((match s with
    | .While x body [] _ => chkE Γ N t sc x && chkC Γ N sc b body
    | _ => false)) := by rfl
theorem chk1_fori {Γ N sc k t as b s} : chk1 Γ N sc (.fori k t as b) s = ((match s with
    | .For tg iter body [] _ => (match ikC sc k tg iter with
      | some es => chkT N (locC sc) t tg && (chkC Γ N sc b body && chkL Γ N as sc es)
      | none => false)
    | _ => false)) := by rfl
theorem chk1_rai {Γ N sc k s} : chk1 Γ N sc (.rai k) s = ((match s with
    | .Raise (some (.Call (.Name x _) [.Constant (.str _) _ _] [] _)) none _ => decide (Γ.cs[k]? = some x) && (gloC sc x && plainN x)
    | _ => false)) := by rfl
theorem chk1_try {Γ N sc b h s} : chk1 Γ N sc (.try b h) s = ((match s with
    | .Try body hds [] [] _ => chkC Γ N sc b body && (chkH Γ N sc h hds || (h.isHnd && chkM Γ N sc h hds))
    | _ => false)) := by rfl
theorem chkC_nop {Γ N sc ss} : chkC Γ N sc .nop ss = (ss.isEmpty) := by rfl
theorem chkC_seq {Γ N sc a b ss} : chkC Γ N sc (.seq a b) ss = ((match a.isFrz with
    | true => chkC Γ N sc b ss
    | false => (match ss with
      | s :: r => chk1 Γ N sc a s && chkC Γ N sc b r
      | _ => false))) := by rfl
theorem chkH_hnd {Γ N sc k i s r hs} : chkH Γ N sc (.hnd k i s r) hs = ((match hs, i, r with
    | [.ExceptHandler (some (.Name x _)) (some y) (b :: suite) _], some i, .nop => decide (Γ.cs[k]? = some x) && (gloC sc x && (plainN x && (decide (N[i]? = some y) && ((match sc.names.lookup y with
      | some .local => true
      | _ => false) && chkC Γ N sc s (b :: suite)))))
    | _, _, _ => false)) := by rfl
theorem chkM_nop {Γ N sc hs} : chkM Γ N sc .nop hs = (hs.isEmpty) := by rfl
theorem chkM_hnd {Γ N sc k i s r hs} : chkM Γ N sc (.hnd k i s r) hs = ((match i, hs with
    | none, .ExceptHandler (some (.Name x _)) none (b :: suite) _ :: hs => decide (Γ.cs[k]? = some x) && (gloC sc x && (plainN x && (chkC Γ N sc s (b :: suite) && chkM Γ N sc r hs)))
    | _, _ => false)) := by rfl
section
variable {T : Tab} {Φ : Hot → Nat → List D → Mem → Rs KD} {Γ : Tx} {nm : Nm} {n : Nat} {N : List Str}
def Vs1 (T : Tab) (Φ : Hot → Nat → List D → Mem → Rs KD) (Γ : Tx) (nm : Nm) (n : Nat) (N : List Str) (c : C) : Prop :=
  (∀ (hot : Hot) (X : Cx) (sc : Scope) (xa : Option Addr) (WW : WX), Cok T Φ Γ nm n N sc hot xa WW X → FnL WW X → ∀ s, chk1 Γ N sc c s = true → PS X s (LS (wd X nm xa) WW fun σ M => ex T Φ hot c σ M)) ∧
  (∀ (hot : Hot) (X : Cx) (sc : Scope) (xa : Option Addr) (WW : WX), Cok T Φ Γ nm n N sc hot xa WW X → FnL WW X → ∀ ss, chkC Γ N sc c ss = true → PSs X ss (LS (wd X nm xa) WW fun σ M => ex T Φ hot c σ M))
def VsAll (T : Tab) (Φ : Hot → Nat → List D → Mem → Rs KD) (Γ : Tx) (nm : Nm) (n : Nat) (N : List Str) (c : C) : Prop :=
  Vs1 T Φ Γ nm n N c ∧ (match c with
    | .hnd _ _ s _ => Vs1 T Φ Γ nm n N s
    | _ => True) ∧ ∀ (X : Cx) (sc : Scope) (WW : WX), Cok T Φ Γ nm n N sc none none WW X → FnL WW X → ∀ hds, chkM Γ N sc c hds = true → ∃ l, Hds T Φ Γ nm n N sc X hds l ∧ ∀ rb k σ M, hdsR T rb l k σ M = hx T Φ c k σ M
theorem no1 {c : C} (h : ∀ (sc : Scope) (s : Stmt), chk1 Γ N sc c s = false) : ∀ (hot : Hot) (X : Cx) (sc : Scope) (xa : Option Addr) (WW : WX), Cok T Φ Γ nm n N sc hot xa WW X → FnL WW X → ∀ s, chk1 Γ N sc c s = true → PS X s (LS (wd X nm xa) WW fun σ M => ex T Φ hot c σ M) :=
  fun _ _ sc _ _ _ _ s k => by rw [h sc s] at k; cases k
theorem noC {c : C} (h : ∀ (sc : Scope) (s : List Stmt), chkC Γ N sc c s = false) : ∀ (hot : Hot) (X : Cx) (sc : Scope) (xa : Option Addr) (WW : WX), Cok T Φ Γ nm n N sc hot xa WW X → FnL WW X → ∀ s, chkC Γ N sc c s = true → PSs X s (LS (wd X nm xa) WW fun σ M => ex T Φ hot c σ M) :=
  fun _ _ sc _ _ _ _ s k => by rw [h sc s] at k; cases k
theorem noM {c : C} (h : ∀ (sc : Scope) (s : List ExceptHandler), chkM Γ N sc c s = false) : ∀ (X : Cx) (sc : Scope) (WW : WX), Cok T Φ Γ nm n N sc none none WW X → FnL WW X → ∀ hds, chkM Γ N sc c hds = true → ∃ l, Hds T Φ Γ nm n N sc X hds l ∧ ∀ rb k σ M, hdsR T rb l k σ M = hx T Φ c k σ M :=
  fun _ sc _ _ _ hds k => by rw [h sc hds] at k; cases k
theorem ls_false {X : Cx} {s : Stmt} {t : TS} (h : ∀ D σ H, ¬ t D σ H) : PS X s t := ⟨fun _ _ σ H D _ z => (h D σ H z).elim⟩
theorem locT {WW : WX} {X : Cx} {sc : Scope} (hs : X.env.scope = sc) (fl : FnL WW X) : ∀ x, locC sc x = true → Loc X.env.scope x ∧ (X.fn x = true ∨ X.env.scope.names.lookup x = some .local) := fun x h => ⟨by rw [hs]; exact locC_ok h, .inl (fl.fn x)⟩
/-- a name set to a comprehension -/
theorem s_lc {hot : Hot} {X : Cx} {sc : Scope} {xa : Option Addr} {WW : WX} (c : Cok T Φ Γ nm n N sc hot xa WW X) (fl : FnL WW X) {m : Md} {i : Nat} {e : E} {own' : List (Str × Nat)} {x : Str} {elt tg iter : Expr} {ifs : List Expr} {scope : Scope} {p1 p2 p3 : Pos}
    (hi : N[i]? = some x) (hx : locC sc x = true) (pe : PE X (.ListComp elt [⟨tg, iter, ifs, 0⟩] scope p2) (LK (wd X nm xa) WW fun σ M => ev T (Φ hot) hot e σ M)) (lp : LcP X WW iter tg elt ifs scope own' (LK (wd X nm xa) WW fun σ M => ev T (Φ hot) hot e σ M)) :
    PS X (.Assign [.Name x p1] (.ListComp elt [⟨tg, iter, ifs, 0⟩] scope p2) p3) (LS (wd X nm xa) WW fun σ M => ex T Φ hot (.set m i e) σ M) := by
  have hi' : X.N[i]? = some x := by rw [c.N]; exact hi
  have loc := locT c.sc fl x hx
  by_cases hs : swB sc scope x (p1.line == p2.line) = true
  · unfold swB at hs
    simp only [Bool.and_eq_true, Bool.not_eq_true'] at hs
    obtain ⟨s1, s2, s3⟩ := hs
    have hl : sc.names.lookup x = some .local := by split at s1 <;> first | assumption | cases s1
    obtain ⟨wi, g, tt, te, L, fr, hxe, hpi, hb, hg, ht, he, hfo, k⟩ := lp.ex
    have rd : ∀ (D : Ends) σ H, LS (wd X nm xa) WW (fun σ M => ex T Φ hot (.set m i e) σ M) D σ H → LK (wd X nm xa) WW (fun σ M => ev T (Φ hot) hot e σ M) σ H (fun x H1 => gName i x σ H1 D.nx) := fun D σ H ⟨Fr, ρ, G, σs, M, r, q⟩ => by
      refine ⟨Fr, ρ, G, σs, M, r, ?_⟩
      simp only [ex] at q
      refine (AftS.on (RA := RRk (wd X nm xa) Fr) q).weaker ?_
      rintro y H1 ⟨ρ1, G1, M1, a, h1, h2, h3, h4, h5⟩
      exact stored h3 h4 h5
    have ps := ps_setLcX (py := p1) (spos := p3) c.calm fr hxe c.nd hi' (by rw [c.sc]; exact hl) (sw_true fl.kd (by rw [c.sc]; exact hl) s2 s3) hpi hb hg ht he hfo
    rcases k with k | k
    · exact PS.weak ps fun D σ H q => k σ H (fun x H1 => gName i x σ H1 D.nx) (rd D σ H q)
    · exact PS.weak (ps_lock ps) fun D σ H q => k σ H (fun x H1 => gName i x σ H1 D.nx) (rd D σ H q)
  · simp only [ex]
    refine s_set c.nd hi' loc.1 loc.2 ?_ pe
    unfold swapsWith
    have e : X.env.kindOf x = sc.names.lookup x := by unfold Env.kindOf; rw [c.sc]
    have hb : X.env.blockKind = .function := by unfold Env.blockKind; rw [fl.kd]; rfl
    dsimp only
    rw [e, hb]
    show pure ((true && (sc.names.lookup x == some NameKind.local) && (p1.line == p2.line)) && !(scope.names.any fun (n, k) => n == x && (k == .local || k == .cell))) = (pure false : Sem Bool)
    congr 1
    rw [Bool.eq_false_iff]
    intro z
    refine hs ?_
    unfold swB
    simp only [Bool.true_and, Bool.and_eq_true] at z ⊢
    obtain ⟨⟨z1, z2⟩, z3⟩ := z
    refine ⟨?_, z2, z3⟩
    rw [eq_of_beq z1]
theorem vs (c : C) : VsAll T Φ Γ nm n N c := by
  induction c with
  | nop =>
    refine ⟨⟨fun hot X sc xa WW ok fl s h => ?_, fun hot X sc xa WW ok fl ss h => ?_⟩, trivial, fun X sc WW ok fl hds h => ?_⟩
    · simp only [chk1_nop] at h
      split at h
      · simp only [ex]; exact s_pass
      · cases h
    · simp only [chkC_nop, List.isEmpty_iff] at h
      subst h
      simp only [ex]; exact s_nil
    · simp only [chkM_nop, List.isEmpty_iff] at h
      subst h
      exact ⟨[], .nil, fun rb k σ M => by simp only [hx, hdsR]⟩
  | seq a b iha ihb =>
    refine ⟨⟨no1 fun _ _ => rfl, fun hot X sc xa WW ok fl ss h => ?_⟩, trivial, noM fun _ _ => rfl⟩
    simp only [chkC_seq] at h
    split at h
    · rename_i hf
      cases a with
      | frz i =>
        simp only [ex]
        exact s_frz (ihb.1.2 hot X sc xa WW ok fl _ h)
      | _ => cases hf
    · split at h
      · simp only [Bool.and_eq_true] at h
        simp only [ex]
        exact s_cons (iha.1.1 hot X sc xa WW ok fl _ h.1) (ihb.1.2 hot X sc xa WW ok fl _ h.2)
      · cases h
  | mutO k i as =>
    refine ⟨⟨fun hot X sc xa WW ok fl s h => ?_, noC fun _ _ => rfl⟩, trivial, noM fun _ _ => rfl⟩
    simp only [chk1_mutO] at h
    split at h
    · rename_i x p1 m ap es cp p2
      simp only [decide_eq_true_eq, Bool.and_eq_true] at h
      obtain ⟨h1, h2, h3, h4, h5, h6, h7, h8⟩ := h
      subst h4
      simp only [ex]
      exact s_mutO (pe_var (i := i) (by rw [ok.N]; exact h1) (by rw [ok.sc]; exact visC_ok h2) (plainN_ok h3).1 (plainN_ok h3).2.1) ((ve as).2 X sc xa WW ok _ h8).f (no_args h8) rfl h5 h6 h7
    · cases h
  | mutC k a as =>
    refine ⟨⟨fun hot X sc xa WW ok fl s h => ?_, noC fun _ _ => rfl⟩, trivial, noM fun _ _ => rfl⟩
    simp only [chk1_mutC] at h
    split at h
    · rename_i o m ap es cp p2
      simp only [decide_eq_true_eq, Bool.and_eq_true] at h
      obtain ⟨h1, h2, h4, h5, h6, h7, h8⟩ := h
      subst h4
      simp only [ex]
      exact s_mutC ((ve a).1 X sc xa WW ok _ h2).pe ((ve as).2 X sc xa WW ok _ h8).f (no_args h8) h1 h5 h6 h7
    · cases h
  | ext a e =>
    refine ⟨⟨fun hot X sc xa WW ok fl s h => ?_, noC fun _ _ => rfl⟩, trivial, noM fun _ _ => rfl⟩
    simp only [chk1_ext] at h
    split at h
    · rename_i o m ap x cp p2
      simp only [decide_eq_true_eq, Bool.and_eq_true] at h
      obtain ⟨h1, h2, h3, h4, h5, h6⟩ := h
      subst h2
      simp only [ex]
      exact s_ext ((ve a).1 X sc xa WW ok _ h5).pe ((ve e).1 X sc xa WW ok _ h6).pe h1 h3 h4
    · cases h
  | set m i e =>
    refine ⟨⟨fun hot X sc xa WW ok fl s h => ?_, noC fun _ _ => rfl⟩, trivial, noM fun _ _ => rfl⟩
    simp only [chk1_set] at h
    split at h
    · rename_i x p1 v p3
      simp only [decide_eq_true_eq, Bool.and_eq_true] at h
      obtain ⟨h1, h2, h3, h4⟩ := h
      have loc := locT ok.sc fl x h2
      have gen : noComp v = true → PS X (.Assign [.Name x p1] v p3) (LS (wd X nm xa) WW fun σ M => ex T Φ hot (.set m i e) σ M) := fun hn => by
        simp only [ex]
        exact s_set ok.nd (by rw [ok.N]; exact h1) loc.1 loc.2 (noSwap hn _ _ _) ((ve e).1 X sc xa WW ok _ h4).pe
      cases v with
      | ListComp elt gens scope p2 =>
        cases e with
        | lc own t it cd el =>
          have h4' := h4
          simp only [chkE_lc] at h4'
          split at h4'
          · rename_i e1 tg iter ifs sc1 p4 eq
            cases eq
            exact s_lc ok fl h1 h2 ((ve _).1 X sc xa WW ok _ h4).pe (lcp (ve it) (ve cd) (ve el) ok h4)
          · cases h4'
        | lcr own t as cd el =>
          have h4' := h4
          simp only [chkE_lcr] at h4'
          split at h4'
          · rename_i e1 tg f p5 args p6 ifs sc1 p4 eq
            cases eq
            exact s_lc ok fl h1 h2 ((ve _).1 X sc xa WW ok _ h4).pe (lcp_r (ve as) (ve cd) (ve el) ok h4)
          · cases h4'
        | lcd own t a cd el =>
          have h4' := h4
          simp only [chkE_lcd] at h4'
          split at h4'
          · rename_i e1 tg iter ifs sc1 p4 eq
            cases eq
            exact s_lc ok fl h1 h2 ((ve _).1 X sc xa WW ok _ h4).pe (lcp_d (ve a) (ve cd) (ve el) ok h4)
          · cases h4'
        | lci k own t as cd el =>
          have h4' := h4
          simp only [chkE_lci] at h4'
          split at h4'
          · rename_i e1 tg iter ifs sc1 p4 eq
            cases eq
            exact s_lc ok fl h1 h2 ((ve _).1 X sc xa WW ok _ h4).pe (lcp_i (ve as) (ve cd) (ve el) ok h4)
          · cases h4'
        | cel a => exact Bool.noConfusion (show false = true from h4)
        | bin o a b => exact Bool.noConfusion (show false = true from h4)
        | pr p as => cases p <;> exact Bool.noConfusion (show false = true from h4)
        | _ => exact Bool.noConfusion (show false = true from h4)
      | SetComp _ _ _ _ => cases e with
        | pr p as => cases p <;> exact Bool.noConfusion (show false = true from h4)
        | _ => exact Bool.noConfusion (show false = true from h4)
      | DictComp _ _ _ _ _ => cases e with
        | pr p as => cases p <;> exact Bool.noConfusion (show false = true from h4)
        | _ => exact Bool.noConfusion (show false = true from h4)
      | _ => exact gen rfl
    · cases h
  | setT t e =>
    refine ⟨⟨fun hot X sc xa WW ok fl s h => ?_, noC fun _ _ => rfl⟩, trivial, noM fun _ _ => rfl⟩
    simp only [chk1_setT] at h
    split at h
    · rename_i es k p v p3
      simp only [Bool.and_eq_true] at h
      obtain ⟨h1, h2, h3, h4⟩ := h
      have pe := ((ve (T := T) (Φ := Φ) (nm := nm) (n := n) (hot := hot) e).1 X sc xa WW ok _ h4).pe
      have pg := vg (loc := locC sc) (W := wd X nm xa) ok.N ok.nd (locT ok.sc fl) ok.calm rfl t _ h1
      refine PS.weak (ps_asg (pe_fz pe) pg (show swapsWith v (some (.Tuple es k p)) p3.line X.env = pure false from noSwap h2 _ _ _) (noStores h3 _ _)) fun D σ H ⟨Fr, ρ, G, σs, M, r, q⟩ => ⟨Fr, ρ, G, σs, M, r, ?_⟩
      simp only [ex] at q
      refine (AftS.on (RA := RRf _) q).weaker ?_
      rintro y H1 ⟨ρ1, G1, M1, a, h1, h2, h3, h4, h5⟩
      cases hb : t.bind a σs with
      | none => rw [hb] at h5; exact h5.elim
      | some τs =>
        rw [hb] at h5
        exact ⟨Fr, ρ1, G1, σs, M1, a, h3, h4, τs, hb, fun τ r2 _ _ => h5 ρ1 G1 τ H1 (Rle.refl _) (Hle.refl _) r2⟩
    · cases h
  | par i j as =>
    refine ⟨⟨fun hot X sc xa WW ok fl s h => ?_, noC fun _ _ => rfl⟩, trivial, noM fun _ _ => rfl⟩
    simp only [chk1_par] at h
    split at h
    · rename_i x px y py kt pt a b k2 p2 pos
      simp only [decide_eq_true_eq, Bool.and_eq_true] at h
      obtain ⟨h1, h2, h3, h4, h5⟩ := h
      cases hot with
      | some k => exact ls_false fun D σ H ⟨Fr, ρ, G, σs, M, r, q⟩ => by simp only [ex] at q; exact q
      | none =>
        have hq := ok.sc
        have h1' : parN X.env.scope x y (py.line == px.line) a b = true := by rw [hq]; exact h1
        have hl := h1'
        unfold parN at hl
        simp only [Bool.and_eq_true] at hl
        have va := ((ve as).2 X sc xa WW ok _ h5).f
        refine PS.weak (ps_par ok.mode.2.1 ok.nd (by rw [ok.N]; exact h2) (by rw [ok.N]; exact h3) h4 (isLoc_ok hl.1) (isLoc_ok hl.2.1) va (parStores fl.kd h1') (by rfl)) fun D σ H ⟨Fr, ρ, G, σs, M, r, q⟩ => ⟨Fr, ρ, G, σs, M, r, ?_⟩
        simp only [ex] at q
        refine (AftS.on (RA := RRfs (wd X nm xa)) q).weaker ?_
        rintro vs H1 ⟨ρ1, G1, M1, ds, h1, h2, h3, h4, h5⟩
        split at h5
        · rename_i d e
          have h4 : Fzs (wd X nm xa) ρ1 G1 [d, e] vs := h4
          unfold Fzs at h4
          obtain ⟨v, r1, rfl, f1, h4⟩ := h4
          unfold Fzs at h4
          obtain ⟨w, r2, rfl, f2, h4⟩ := h4
          unfold Fzs at h4
          subst h4
          exact ⟨v, w, rfl, h5 ρ1 G1 _ H1 (Rle.refl _) (Hle.refl _) ((h3.setv f1).setv f2)⟩
        · exact h5.elim
    · cases h
  | exp e =>
    refine ⟨⟨fun hot X sc xa WW ok fl s h => ?_, noC fun _ _ => rfl⟩, trivial, noM fun _ _ => rfl⟩
    simp only [chk1_exp] at h
    split at h
    · simp only [Bool.and_eq_true] at h
      simp only [ex]
      exact s_exp (noSwap h.1 _ _ _) ((ve e).1 X sc xa WW ok _ h.2).pe
    · cases h
  | ite t a b iha ihb =>
    refine ⟨⟨fun hot X sc xa WW ok fl s h => ?_, noC fun _ _ => rfl⟩, trivial, noM fun _ _ => rfl⟩
    simp only [chk1_ite] at h
    split at h
    · simp only [Bool.and_eq_true] at h
      obtain ⟨h1, h2, h3⟩ := h
      simp only [ex]
      exact s_ite ((ve t).1 X sc xa WW ok _ h1).pt (iha.1.2 hot X sc xa WW ok fl _ h2) (ihb.1.2 hot X sc xa WW ok fl _ h3)
    · cases h
  | «for» t it b ihb =>
    refine ⟨⟨fun hot X sc xa WW ok fl s h => ?_, noC fun _ _ => rfl⟩, trivial, noM fun _ _ => rfl⟩
    simp only [chk1_for] at h
    split at h
    · rename_i tg iter body p
      simp only [Bool.and_eq_true] at h
      obtain ⟨h1, h2, h3⟩ := h
      have pg := vg (loc := locC sc) (W := wd X nm xa) ok.N ok.nd (locT ok.sc fl) ok.calm rfl t _ h1
      have hb := ihb.1.2 hot X sc xa WW ok fl _ h2
      simp only [ex]
      cases it with
      | e a =>
        simp only [Bool.and_eq_true] at h3
        exact s_for ok fl ((ve a).1 X sc xa WW ok _ h3.2).pe pg hb (folded_ok h3.1 X.env)
      | r1 a =>
        dsimp only at h3
        split at h3
        · simp only [decide_eq_true_eq, Bool.and_eq_true] at h3
          obtain ⟨k1, k2, k3, k4⟩ := h3
          subst k1
          exact s_rng1 ok fl k2 k3 ((ve a).1 X sc xa WW ok _ k4).pe pg hb
        · cases h3
      | r2 a b' =>
        dsimp only at h3
        split at h3
        · simp only [decide_eq_true_eq, Bool.and_eq_true] at h3
          obtain ⟨k1, k2, k3, k4, k5, k6⟩ := h3
          subst k1
          exact s_rng2 ok fl k2 k3 k4 ((ve a).1 X sc xa WW ok _ k5).pe ((ve b').1 X sc xa WW ok _ k6).pe pg hb
        · cases h3
    · cases h
  | ret e =>
    refine ⟨⟨fun hot X sc xa WW ok fl s h => ?_, noC fun _ _ => rfl⟩, trivial, noM fun _ _ => rfl⟩
    simp only [chk1_ret] at h
    split at h
    · simp only [ex]
      exact s_ret ((ve e).1 X sc xa WW ok _ h).pe
    · split at h
      · simp only [ex, ev]
        exact s_retN
      · cases h
    · cases h
  | rai k =>
    refine ⟨⟨fun hot X sc xa WW ok fl s h => ?_, noC fun _ _ => rfl⟩, trivial, noM fun _ _ => rfl⟩
    simp only [chk1_rai] at h
    split at h
    · simp only [decide_eq_true_eq, Bool.and_eq_true] at h
      obtain ⟨h1, h2, h3⟩ := h
      cases hot with
      | some k => exact ls_false fun D σ H ⟨Fr, ρ, G, σs, M, r, q⟩ => by simp only [ex] at q; exact q
      | none =>
        simp only [ex]
        exact s_raise ok fl h1 h2 h3
    · cases h
  | aug i e =>
    refine ⟨⟨fun hot X sc xa WW ok fl s h => ?_, noC fun _ _ => rfl⟩, trivial, noM fun _ _ => rfl⟩
    simp only [chk1_aug] at h
    split at h
    · simp only [decide_eq_true_eq, Bool.and_eq_true] at h
      obtain ⟨h1, h2, h3⟩ := h
      have loc := locT ok.sc fl _ h2
      simp only [ex]
      exact s_aug ok.nd (by rw [ok.N]; exact h1) loc.1 loc.2 ((ve e).1 X sc xa WW ok _ h3).pe
    · cases h
  | setO i ix e =>
    refine ⟨⟨fun hot X sc xa WW ok fl s h => ?_, noC fun _ _ => rfl⟩, trivial, noM fun _ _ => rfl⟩
    simp only [chk1_setO] at h
    split at h
    · simp only [decide_eq_true_eq, Bool.and_eq_true] at h
      obtain ⟨h1, h2, h3, h4, h5, h6, h7, h8⟩ := h
      simp only [ex]
      exact s_setO ok.un (pe_var (i := i) (by rw [ok.N]; exact h1) (by rw [ok.sc]; exact visC_ok h2) (plainN_ok h3).1 (plainN_ok h3).2.1) ((ve ix).1 X sc xa WW ok _ h7).pe ((ve e).1 X sc xa WW ok _ h8).pe h5 h6 h4
    · cases h
  | setC a ix e =>
    refine ⟨⟨fun hot X sc xa WW ok fl s h => ?_, noC fun _ _ => rfl⟩, trivial, noM fun _ _ => rfl⟩
    simp only [chk1_setC] at h
    split at h
    · simp only [decide_eq_true_eq, Bool.and_eq_true] at h
      obtain ⟨h1, h2, h3, h4, h5, h6⟩ := h
      simp only [ex]
      exact s_setC ok.un ((ve a).1 X sc xa WW ok _ h4).pe ((ve ix).1 X sc xa WW ok _ h5).pe ((ve e).1 X sc xa WW ok _ h6).pe h2 h3 h1
    · cases h
  | augO i ix e =>
    refine ⟨⟨fun hot X sc xa WW ok fl s h => ?_, noC fun _ _ => rfl⟩, trivial, noM fun _ _ => rfl⟩
    simp only [chk1_augO] at h
    split at h
    · simp only [decide_eq_true_eq, Bool.and_eq_true] at h
      obtain ⟨h1, h2, h3, h4, h5, h6⟩ := h
      simp only [ex]
      exact s_augO ok.un (pe_var (i := i) (by rw [ok.N]; exact h1) (by rw [ok.sc]; exact visC_ok h2) (plainN_ok h3).1 (plainN_ok h3).2.1) ((ve ix).1 X sc xa WW ok _ h5).pe ((ve e).1 X sc xa WW ok _ h6).pe h4
    · cases h
  | setA m a f e =>
    refine ⟨⟨fun hot X sc xa WW ok fl s h => ?_, noC fun _ _ => rfl⟩, trivial, noM fun _ _ => rfl⟩
    simp only [chk1_setA] at h
    split at h
    · simp only [decide_eq_true_eq, Bool.and_eq_true] at h
      obtain ⟨h1, h2, h3, h4, h5⟩ := h
      simp only [ex]
      exact s_setA ok h1 h2 ((ve a).1 X sc xa WW ok _ h4).pe ((ve e).1 X sc xa WW ok _ h5).pe h3
    · cases h
  | whl m t b ihb =>
    refine ⟨⟨fun hot X sc xa WW ok fl s h => ?_, noC fun _ _ => rfl⟩, trivial, noM fun _ _ => rfl⟩
    simp only [chk1_whl] at h
    split at h
    · simp only [Bool.and_eq_true] at h
      simp only [ex]
      exact s_whl fl ((ve t).1 X sc xa WW ok _ h.1).pt (ihb.1.2 hot X sc xa WW ok fl _ h.2)
    · cases h
  | fori k t as b ihb =>
    refine ⟨⟨fun hot X sc xa WW ok fl s h => ?_, noC fun _ _ => rfl⟩, trivial, noM fun _ _ => rfl⟩
    simp only [chk1_fori] at h
    split at h
    · split at h
      · rename_i es hk
        simp only [Bool.and_eq_true] at h
        obtain ⟨h1, h2, h3⟩ := h
        cases hot with
        | some k => exact ls_false fun D σ H ⟨Fr, ρ, G, σs, M, r, q⟩ => by simp only [ex] at q; exact q
        | none =>
          simp only [ex]
          obtain ⟨hi, hf⟩ := ikC_ok hk
          have va := (ve as).2 X sc xa WW ok _ h3
          exact s_fori ok fl (pi_K ok hi va.f (one_f va.l) la_mono) (vg (loc := locC sc) (W := wd X nm xa) ok.N ok.nd (locT ok.sc fl) ok.calm rfl t _ h1) (ihb.1.2 none X sc xa WW ok fl _ h2) (fun x => hf _ x)
      · cases h
    · cases h
  | frz i => exact ⟨⟨no1 fun _ _ => rfl, noC fun _ _ => rfl⟩, trivial, noM fun _ _ => rfl⟩
  | «try» b h ihb ihh =>
    refine ⟨⟨fun hot X sc xa WW ok fl s k => ?_, noC fun _ _ => rfl⟩, trivial, noM fun _ _ => rfl⟩
    simp only [chk1_try] at k
    split at k
    · rename_i body hds pt
      simp only [Bool.and_eq_true, Bool.or_eq_true] at k
      obtain ⟨k1, k2⟩ := k
      cases hot with
      | some k => exact ls_false fun D σ H ⟨Fr, ρ, G, σs, M, r, q⟩ => by simp only [ex] at q; exact q
      | none =>
        have m1 := ok.mode.1
        subst m1
        rcases k2 with k2 | k2
        case inr =>
          cases h with
          | hnd K i s r =>
            cases hds with
            | nil =>
              exfalso
              cases i <;> exact Bool.noConfusion (show false = true from k2.2)
            | cons h0 hds =>
              obtain ⟨l, hh, hl⟩ := ihh.2.2 X sc WW ok fl _ k2.2
              have t := s_tryMany (pos := pt) (rb := fun σ M => ex T Φ none b σ M) ok fl (fun W' pn xe c2 f2 => ihb.1.2 none _ sc none W' c2 f2 _ k1) hh
              refine PS.weak t fun D σ H ⟨Fr, ρ, G, σs, M, r, q⟩ => ⟨Fr, ρ, G, σs, M, r, ?_⟩
              simp only [hl]
              simp only [ex] at q
              exact q
          | _ => exact Bool.noConfusion (show false = true from k2.1)
        cases h with
        | hnd K i s r =>
          simp only [chkH_hnd] at k2
          split at k2
          · rename_i x np y b0 suite p1 i
            simp only [decide_eq_true_eq, Bool.and_eq_true] at k2
            obtain ⟨e1, e2, e3, e4, e5, e6⟩ := k2
            have ey : sc.names.lookup y = some .local := by split at e5 <;> first | assumption | cases e5
            have t := s_tryAs (pos := pt) (pos' := p1) (np := np) (rb := fun σ M => ex T Φ none b σ M) (rs := fun k σ M => ex T Φ (some k) s σ M) ok fl e1 e2 e3 e4 ey (fun W' pn xe c2 f2 => ihb.1.2 none _ sc none W' c2 f2 _ k1) (fun a oe pn k c2 f2 => ihh.2.1.2 (some k) _ sc (some a) noW c2 f2 _ e6)
            refine PS.weak t fun D σ H ⟨Fr, ρ, G, σs, M, r, q⟩ => ⟨Fr, ρ, G, σs, M, r, ?_⟩
            simp only [ex, hx] at q
            exact q
          · cases k2
        | _ => exact Bool.noConfusion (show false = true from k2)
    · cases k
  | hnd K i s r ihs ihr =>
    refine ⟨⟨no1 fun _ _ => rfl, noC fun _ _ => rfl⟩, ihs.1, fun X sc WW ok fl hds h => ?_⟩
    simp only [chkM_hnd] at h
    split at h
    · rename_i x np b suite p1 hs
      simp only [decide_eq_true_eq, Bool.and_eq_true] at h
      obtain ⟨h1, h2, h3, h4, h5⟩ := h
      obtain ⟨l, hl, e⟩ := ihr.2.2 X sc WW ok fl _ h5
      refine ⟨_, .cons (rs := fun k σ M => ex T Φ (some k) s σ M) h1 h2 h3 (fun a oe pn k c2 f2 => ihs.1.2 (some k) _ sc none noW c2 f2 _ h4) hl, fun rb k σ M => ?_⟩
      simp only [hdsR, hx, e]
      all_goals
        by_cases hb : subC T.up 9 k K = true
        · rw [if_pos hb, if_pos hb]
          cases ex T Φ (some k) s σ M <;> rfl
        · rw [if_neg hb, if_neg hb]
    · cases h
end
end VM
/-! VM13: defs. -/
namespace VM
open PySem L2 PySem.Spec PyProof.Rows
theorem zip_look : ∀ {xs : List Str} {us : List Value} {x : Str}, us.length = xs.length → x ∈ xs → ((xs.zip us).lookup x).isSome = true
  | [], _, _, _, h => by cases h
  | y :: ys, [], _, hl, _ => by cases hl
  | y :: ys, u :: us, x, hl, h => by
    rw [List.zip_cons_cons, List.lookup_cons]
    by_cases e : x = y
    · subst e; simp
    · have : (x == y) = false := by simpa using e
      rw [this]
      exact zip_look (by simpa using hl) ((List.mem_cons.mp h).resolve_left e)
theorem zip_binds : ∀ {xs : List Str} {us : List Value}, xs.Nodup → us.length = xs.length → (xs.filterMap fun n => ((xs.zip us).lookup n).map (n, ·)) = xs.zip us := by
  have key : ∀ (xs : List Str) (us : List Value) (s : List (Str × Value)), xs.Nodup → us.length = xs.length → (∀ x ∈ xs, s.lookup x = (xs.zip us).lookup x) → (xs.filterMap fun n => (s.lookup n).map (n, ·)) = xs.zip us := by
    intro xs
    induction xs with
    | nil => intro us s _ hl _; cases us <;> simp_all
    | cons y ys ih =>
      intro us s nd hl h
      cases us with
      | nil => cases hl
      | cons u us =>
        have e := h y List.mem_cons_self
        rw [List.zip_cons_cons, List.lookup_cons, beq_self_eq_true] at e
        rw [List.filterMap_cons, e]
        show (y, u) :: _ = _
        rw [List.zip_cons_cons]
        congr 1
        obtain ⟨n1, n2⟩ := List.nodup_cons.mp nd
        refine ih us s n2 (by simpa using hl) fun x hx => ?_
        rw [h x (List.mem_cons_of_mem _ hx), List.zip_cons_cons, List.lookup_cons]
        have : (x == y) = false := by
          rw [beq_eq_false_iff_ne]
          exact fun z => n1 (z ▸ hx)
        rw [this]
  exact fun {xs us} nd hl => key xs us (xs.zip us) nd hl fun _ _ => rfl
theorem bind_plain {x qual : Str} {args : List Arg} {body : List Stmt} {scope : Scope} {kV doc pm cdv ct : Value} {an : Option Addr} {us : List Value} (nd : (args.map (·.arg)).Nodup) (hl : us.length = args.length) :
    bindArgs (PySem.W.fnOf x qual ⟨[], args, none, [], [], none, []⟩ body scope .none kV doc pm an cdv ct) ⟨us, []⟩ = pure ((args.map (·.arg)).zip us) := by
  have h1 : ((args.map (·.arg)).filter fun n => (((args.map (·.arg)).zip us).lookup n).isNone) = [] := by
    rw [List.filter_eq_nil_iff]
    intro y hy
    have := zip_look (us := us) (by rw [hl, List.length_map]) hy
    rw [Option.isNone_iff_eq_none]
    intro z
    rw [z] at this
    cases this
  have h2 := zip_binds (us := us) nd (by rw [hl, List.length_map])
  unfold bindArgs
  have pb : ∀ {α β : Type} (a : α) (f : α → Sem β), (pure a >>= f) = f a := fun _ _ => rfl
  have hs : seqItems? .none = (pure none : Sem _) := rfl
  simp only [List.map_nil, List.nil_append, List.append_nil, List.length_map, List.forIn_nil, pb, hs, Option.getD_none, hl, Nat.lt_irrefl, gt_iff_lt, decide_false, Bool.false_and, Bool.false_eq_true, if_false, List.length_nil, List.drop_nil, Nat.zero_sub, Nat.sub_zero, List.zip_nil_right]
  have ht : (args.map (·.arg)).take args.length = args.map (·.arg) := List.take_of_length_le (by rw [List.length_map]; exact Nat.le_refl _)
  simp only [ht, h1, List.isEmpty_nil, Bool.not_true, Bool.false_eq_true, if_false, pb, h2]

/-! ### a def of the text -/
structure Fn where
  name : Str
  cls : Option Str
  N : List Str
  ps : List Str
  st : Stmt
  gc : Bool := false
def Fn.qual (f : Fn) : Str :=
  match f.cls with
  | none => f.name
  | some c => c ++ "." ++ f.name
def Fn.at_ (f : Fn) : Str × Option Str :=
  match f.cls with
  | none => (f.name, none)
  | some c => (c, some f.name)
def fargs (s : Stmt) : List Arg := (defArgs s).args
def plainA (s : Stmt) : Bool := match defArgs s with
  | ⟨[], _, none, [], [], none, []⟩ => true
  | _ => false
def scopeC (N ps : List Str) (sc : Scope) : Bool :=
  (match sc.kind with
    | .function => true
    | _ => false) && (!sc.isCoroutine && (!sc.isGenerator && (decide N.Nodup && (decide (N.take ps.length = ps) && (ps.all (fun x => locC sc x) && (sc.names.all fun y => match y.2 with
    | .free => false
    | _ => true))))))
def fnC (Γ : Tx) (f : Fn) (c : C) : Bool := plainA f.st && (decide ((fargs f.st).map (·.arg) = f.ps) && (scopeC f.N f.ps (defScope f.st) && chkC Γ f.N (defScope f.st) c (defBody f.st)))
theorem scope_ok {N ps : List Str} {sc : Scope} (h : scopeC N ps sc = true) : FnScope N ps sc := by
  unfold scopeC at h
  simp only [Bool.and_eq_true, Bool.not_eq_true', decide_eq_true_eq] at h
  obtain ⟨h1, h2, h3, h4, h5, h6, h7⟩ := h
  refine ⟨?_, h2, h3, h4, h5, fun x hx => locC_ok (List.all_eq_true.mp h6 x hx), fun y hy e => ?_⟩
  · split at h1
    · assumption
    · cases h1
  · have := List.all_eq_true.mp h7 y hy
    rw [e] at this
    cases this
/-- the text: its defs, each with the machine's text -/
structure Text where
  fs : List (Fn × C)
  cs : List Str
  gl : List Str
  ks : List Str
  ms : List Str
  fd : List Str
  T : Tab
def Text.tx (P : Text) : Tx := ⟨P.fs.map fun f => (f.1.qual, f.1.ps), P.cs, P.gl, P.ks, P.ms, P.fd⟩
def Text.pr (P : Text) : Pr := ⟨P.T, P.fs.map fun f => ⟨f.1.N.length, f.1.ps.length, f.2, f.1.gc⟩⟩
/-- a name of letters -/
def letC (x : Str) : Bool := !x.cps.isEmpty && x.cps.all fun c => c != 0
def Text.ok (P : Text) : Bool := decide (P.cs.length = P.T.up.length) && ((P.fs.all fun f => decide (f.1.qual = "") || fnC P.tx f.1 f.2) && (((List.range P.T.rl.length).all fun c => !P.T.rl.getD c false || (match P.cs[c]? with
  | some x => plainN x
  | none => false)) && (decide P.fd.Nodup && (P.fd.all letC && (P.ms.all fun x => letC x && decide (x ∉ P.fd))))))
/-- what the top has made of it -/
structure Made (P : Text) (nm : Nm) (K : PySem.W.Frag) (mg : Str → Option Value) : Prop where
  sk : Sk P.T P.tx nm K mg
  fn : ∀ (f : Nat) (x : Fn × C), P.fs[f]? = some x → x.1.qual ≠ "" → ∃ fd, FunD K x.1.name x.1.qual (defArgs x.1.st) (defBody x.1.st) (defScope x.1.st) [] [] (nm.fa f) fd
section
variable {P : Text} {nm : Nm} {prog : Program} {w : World} {K : PySem.W.Frag} {mg : Str → Option Value} {base : Heap}
theorem tx_fs {f : Nat} {x : Str} {ps : List Str} (h : P.tx.fs[f]? = some (x, ps)) : ∃ y, P.fs[f]? = some y ∧ y.1.qual = x ∧ y.1.ps = ps := by
  unfold Text.tx at h
  simp only [List.getElem?_map, Option.map_eq_some_iff] at h
  obtain ⟨y, h1, h2⟩ := h
  cases h2
  exact ⟨y, h1, rfl, rfl⟩
theorem pr_fd {f : Nat} {y : Fn × C} (h : P.fs[f]? = some y) : P.pr.fd f = ⟨y.1.N.length, y.1.ps.length, y.2, y.1.gc⟩ := by
  unfold Pr.fd Text.pr
  simp [List.getD, h]
theorem start_rel {W : Wd} {Fr : Hp} {ρ : List Addr} {G : Hp} {M : Mem} {H : Hp} {N : List Str} {ds : List D} {vs : List V} (r : MRel W Fr ρ G M H) (h : Fzs W ρ G ds vs) : Rel W Fr ρ G (VM.start N.length ds) M (L2.start N vs) H := by
  have hl := h.length
  have get : ∀ (i : Nat) (s : SV), (VM.start N.length ds)[i]? = some s → (∃ d, ds[i]? = some d ∧ s = .v d) ∨ (ds.length ≤ i ∧ s = .u) := fun i s e => by
    unfold VM.start at e
    by_cases hi : i < ds.length
    · rw [List.getElem?_append_left (by rw [List.length_map]; exact hi), List.getElem?_map, List.getElem?_eq_getElem hi] at e
      exact .inl ⟨_, List.getElem?_eq_getElem hi, (Option.some.inj e).symm⟩
    · rw [List.getElem?_append_right (by rw [List.length_map]; omega)] at e
      exact .inr ⟨by omega, (List.mem_replicate.mp (List.mem_of_getElem? e)).2⟩
  refine { r with sl := ?_, val := fun i d e => ?_, own := fun i d e => ?_, uniq := fun i j p ⟨d, e, _⟩ _ => ?_ }
  · unfold VM.start L2.start
    rw [List.length_append, List.length_append, List.length_map, List.length_map, List.length_replicate, List.length_replicate, hl]
  · rcases get i _ e with ⟨d', e1, e2⟩ | ⟨_, e2⟩
    · cases e2
      obtain ⟨v, h1, h2⟩ := h.get e1
      refine ⟨v, ?_, h2⟩
      unfold L2.start
      have hi : i < vs.length := (List.getElem?_eq_some_iff.mp h1).1
      rw [List.getElem?_append_left (by rw [List.length_map]; exact hi), List.getElem?_map, h1]
      rfl
    · cases e2
  · rcases get i _ e with ⟨d', _, e2⟩ | ⟨_, e2⟩ <;> cases e2
  · rcases get i _ e with ⟨d', _, e2⟩ | ⟨_, e2⟩ <;> cases e2
/-- a body's end is a call's end -/
theorem body_end {W : Wd} {Fr : Hp} {ρ : List Addr} {G : Hp} {R : Sx} {Q : VK} {E : XK} (h : AftC W Fr ρ G R.res Q E) : AftS W (fun cls d _ H => E cls d H) Fr ρ G R { nx := fun _ H' => Q .non H', rt := Q } := by
  cases R with
  | nx s M => exact fun ρ' G' σ H h1 h2 h3 => h ρ' G' .non H h1 h2 h3.toMRel rfl
  | rt r M => exact h
  | ex C s M => exact fun ρ' G' σ H h1 h2 h3 => h ρ' G' H h1 h2 h3.toMRel
  | stk => exact h
theorem body_read {hot : Hot} {xa : Option Addr} {n f : Nat} {y : Fn × C} (hy : P.fs[f]? = some y) {vs : List V} {H : Hp} {Q : VK} {E : XK} {W : Wd} (hsp : spC W (call P.pr (n + 1) hot) f y.1.ps.length vs H Q E) :
    LS W (fun cls d _ H => E cls d H) (fun σ M => ex P.T (call P.pr n) hot y.2 σ M) { nx := fun _ H' => Q .non H', rt := Q } (L2.start y.1.N vs) H := by
  obtain ⟨hl, Fr, ρ, G, M, ds, r, fz, q⟩ := hsp
  refine ⟨Fr, ρ, G, _, M, start_rel (N := y.1.N) r fz, body_end ?_⟩
  simp only [call, pr_fd hy] at q
  have : ds.length = y.1.ps.length := by rw [fz.length]; exact hl
  rw [if_pos this] at q
  split at q
  · exact AftC.gc r q
  · exact q
/-- as fn_of, where an exception is handled -/
theorem fn_ofX {CX : CXT} {k : Nat} {f : Addr} {name qual : Str} {params : Arguments} {body : List Stmt} {scope : Scope} {dV kV doc pm cdv ct oc : Value} {an od : Option Addr} {osl : Array (Option Value)} {N ps : List Str} {cls : Value} {sp : Addr → Sp}
    (lk : K.lookup f = some ⟨oc, od, .func (PySem.W.fnOf name qual params body scope dV kV doc pm an cdv ct), osl⟩) (hcd : PySem.W.codeIn K cdv qual = true) (S : FnScope N ps scope) (len : ∀ a vs H Q E, sp a vs H Q E → vs.length = ps.length)
    (hbody : ∀ (A : Around) (outer : List Env) (s : Shared) (H : Hp) (vs : List V) (Q : VK) (E : XK) (p : Addr × Obj), L2H.Hot1 A p → Zc cls none p.2 → L2H.RoomH k (A.deeper (envOfC qual scope s.heap.objs.size f cdv)) → sp p.1 vs H Q E →
      ∃ t, PSs (L2H.cxH CX prog w K mg base N qual scope f cdv A outer s H E p) body t ∧ t { nx := fun _ H' => Q .non H', rt := Q } (L2.start N vs) H) :
    FnX prog w K mg base CX (k + 1) f (PySem.W.fnOf name qual params body scope dV kV doc pm an cdv ct) ps cls sp := by
  refine ⟨len, ?_⟩
  intro A outer s H args us vs Q E p room hot pin zc e0 bnd rv hsp
  have hl := len _ _ _ _ _ hsp
  have stands : ∀ b o, base.get? b = some o → s.heap.get? b = some o := fun b o e => (e0.bs b o e).1
  have KX : K.In s.heap := e0.mod.kin.keeps stands
  have lim : s.heap.NoLimit := e0.mod.nolimit.keeps stands
  refine codeAny_call_function room.depth (KX _ _ lk) rfl S.co S.gen rfl (PySem.W.codeRec_of KX hcd) (bnd _ _ _ _ ?_)
  refine wpAny_newFunctionEnv_cells S.kind ?_ ?_
  · rintro ⟨n, v⟩ hy
    rcases S.par n (List.of_mem_zip hy).1 with q | q
    · exact .inl q
    · exact .inr ⟨q, PySem.W.cellsFrom_some _ _ _ (.inl q)⟩
  intro env he s1 x
  subst he
  refine ⟨lim.keeps x.toInCall.keep, codeAny_func ?_⟩
  obtain ⟨t, ht, hq⟩ := hbody A outer s H vs Q E p hot zc (room.deeper _) hsp
  have I := L2H.inv_startH (E := E) (CX := CX) S pin e0 hl rv x
  refine wpAny_mono (ht.run [] s1 (L2.start N vs) H _ I hq) ?_ (fun _ _ z => z)
  intro fl s' hs
  cases fl with
  | ret u =>
    obtain ⟨v, σ', H', J, rv, q⟩ := hs
    exact ⟨v, H', J.os, J.bare, J.base, J.hok, rv, q⟩
  | next =>
    obtain ⟨σ', H', J, q⟩ := hs
    exact ⟨.non, H', J.os, J.bare, J.base, J.hok, rfl, q⟩
  | brk => exact hs.elim fun _ h => h.elim fun _ h => h.2.elim
  | cont => exact hs.elim fun _ h => h.elim fun _ h => h.2.elim
/-- every def keeps to the machine, at every depth -/
def FnsAt (P : Text) (nm : Nm) (prog : Program) (w : World) (K : PySem.W.Frag) (mg : Str → Option Value) (base : Heap) (n : Nat) : Prop :=
  ∀ (f : Nat) (x : Str) (ps : List Str), P.tx.fs[f]? = some (x, ps) → x ≠ "" → ∃ fd, Binds K fd ps [] ∧
    FnOk prog w K mg base (L2N.CX prog w) (2 * n) (nm.fa f) fd ps (spC ⟨K, nm, none⟩ (call P.pr n none) f ps.length) ∧
    ∀ (c : Nat) (z : Str), P.tx.cs[c]? = some z → plainN z = true → FnX prog w K mg base (L2N.CX prog w) (2 * n) (nm.fa f) fd ps (.ref (nm.ca c)) fun a vs H Q E => ∃ xa, (xa = none ∨ xa = some a) ∧ spC ⟨K, nm, xa⟩ (call P.pr n (some c)) f ps.length vs H Q E
def FnsD (P : Text) (nm : Nm) (prog : Program) (w : World) (K : PySem.W.Frag) (mg : Str → Option Value) (base : Heap) (n : Nat) : Prop :=
  ∀ (f : Nat) (x : Str) (ps : List Str), P.tx.fs[f]? = some (x, ps) → x ≠ "" → ∃ fd, ((∃ oc od osl, K.lookup (nm.fa f) = some ⟨oc, od, .func fd, osl⟩) ∧ ∀ (s : Shared) (us : List Value), us.length = ps.length → BindsTo s fd ⟨us, []⟩ (ps.zip us)) ∧ Binds K fd ps [] ∧
    FnOk prog w K mg base (L2N.CX prog w) (2 * n) (nm.fa f) fd ps (spC ⟨K, nm, none⟩ (call P.pr n none) f ps.length) ∧
    ∀ (c : Nat) (z : Str), P.tx.cs[c]? = some z → plainN z = true → FnX prog w K mg base (L2N.CX prog w) (2 * n) (nm.fa f) fd ps (.ref (nm.ca c)) fun a vs H Q E => ∃ xa, (xa = none ∨ xa = some a) ∧ spC ⟨K, nm, xa⟩ (call P.pr n (some c)) f ps.length vs H Q E
theorem FnsD.at_ {n : Nat} (h : FnsD P nm prog w K mg base n) : FnsAt P nm prog w K mg base n := fun f x ps e ne => let ⟨fd, _, r⟩ := h f x ps e ne; ⟨fd, r⟩
theorem spC_zero {W : Wd} {hot : Hot} {f np : Nat} {vs : List V} {H : Hp} {Q : VK} {E : XK} (h : spC W (call P.pr 0 hot) f np vs H Q E) : False := by
  obtain ⟨_, Fr, ρ, G, M, ds, _, _, q⟩ := h
  exact q
theorem fns_d (ok : P.ok = true) (mk : Made P nm K mg) : ∀ n, FnsD P nm prog w K mg base n := by
  have ok1 : ∀ f ∈ P.fs, f.1.qual ≠ "" → fnC P.tx f.1 f.2 = true := by
    unfold Text.ok at ok
    simp only [Bool.and_eq_true, decide_eq_true_eq, List.all_eq_true, Bool.or_eq_true] at ok
    exact fun f hf ne => (ok.2.1 f hf).resolve_left ne
  have fact : ∀ {f : Nat} {y : Fn × C}, P.fs[f]? = some y → y.1.qual ≠ "" → ∃ fd, FunD K y.1.name y.1.qual (defArgs y.1.st) (defBody y.1.st) (defScope y.1.st) [] [] (nm.fa f) fd ∧ (∀ (s : Shared) (us : List Value), us.length = y.1.ps.length → BindsTo s fd ⟨us, []⟩ (y.1.ps.zip us)) ∧ Binds K fd y.1.ps [] ∧ FnScope y.1.N y.1.ps (defScope y.1.st) ∧ chkC P.tx y.1.N (defScope y.1.st) y.2 (defBody y.1.st) = true := fun {f y} hy ne => by
    obtain ⟨fd, F⟩ := mk.fn f y hy ne
    have c := ok1 y (List.mem_of_getElem? hy) ne
    unfold fnC at c
    simp only [decide_eq_true_eq, Bool.and_eq_true] at c
    obtain ⟨c1, c2, c3, c4⟩ := c
    have S := scope_ok c3
    have hA : defArgs y.1.st = ⟨[], fargs y.1.st, none, [], [], none, []⟩ := by
      unfold plainA at c1
      unfold fargs
      split at c1
      · rename_i e; rw [e]
      · cases c1
    have nd : ((fargs y.1.st).map (·.arg)).Nodup := by
      rw [c2, ← S.pre]
      exact S.nd.sublist (List.take_sublist _ _)
    have bnd : ∀ (kV doc pm : Value) (an : Option Addr) (cdv ct : Value) (us : List Value), us.length = y.1.ps.length → bindArgs (PySem.W.fnOf y.1.name y.1.qual (defArgs y.1.st) (defBody y.1.st) (defScope y.1.st) .none kV doc pm an cdv ct) ⟨us, []⟩ = pure (y.1.ps.zip us) := fun kV doc pm an cdv ct us hl => by
      rw [hA, bind_plain nd (by rw [hl, ← c2, List.length_map]), c2]
    exact ⟨fd, F, fun s us hl => F.bindsA bnd s us hl, F.bindsN bnd, S, c4⟩
  intro n
  induction n with
  | zero =>
    intro f x ps h ne
    obtain ⟨y, hy, e1, e2⟩ := tx_fs h
    subst e1 e2
    obtain ⟨fd, F, bA, b, _⟩ := fact hy ne
    have ⟨oc, od, _, _, _, _, _, _, _, osl, _, lk, _⟩ := F.ex
    exact ⟨fd, ⟨⟨oc, od, osl, lk⟩, bA⟩, b, ⟨fun _ _ _ _ z => (spC_zero z).elim, fun _ _ _ _ _ _ _ _ _ _ _ _ _ z => (spC_zero z).elim⟩, fun c z _ _ => ⟨fun _ _ _ _ _ ⟨_, _, z⟩ => (spC_zero z).elim, fun _ _ _ _ _ _ _ _ _ _ _ _ _ _ _ _ _ ⟨_, _, z⟩ => (spC_zero z).elim⟩⟩
  | succ n ih =>
    intro f x ps h ne
    obtain ⟨y, hy, e1, e2⟩ := tx_fs h
    subst e1 e2
    obtain ⟨fd, F, bA, b, S, chk⟩ := fact hy ne
    have ar : ∀ (h : Hot) (f : Nat) (x : Str) (ps : List Str) (ds : List D) (M : Mem), P.tx.fs[f]? = some (x, ps) → ds.length ≠ ps.length → call P.pr n h f ds M = .stk := fun h f x ps ds M hf hl => by
      obtain ⟨y, hy, e1, e2⟩ := tx_fs hf
      subst e2
      cases n with
      | zero => rfl
      | succ n => simp only [call, pr_fd hy]; rw [if_neg hl]
    have ⟨oc, od, _, _, _, _, _, _, _, osl, _, lk, _⟩ := F.ex
    refine ⟨fd, ⟨⟨oc, od, osl, lk⟩, bA⟩, b, ?_, fun c z hc hcp => ?_⟩
    · refine FunD.ok (k := 2 * n + 1) F S (fun vs H Q E h => h.1) fun cdv A outer s H vs Q E hr hsp => ⟨_, ?_, body_read (xa := none) hy hsp⟩
      refine (VM.vs (T := P.T) (Φ := call P.pr n) (Γ := P.tx) (nm := nm) (n := 2 * n) (N := y.1.N) y.2).1.2 none _ (defScope y.1.st) none _ ?_ ⟨rfl, rfl, fun _ => rfl, S.kind, L2N.takes_of rfl rfl rfl rfl, PassesOwn.leaving⟩ _ chk
      exact ⟨rfl, S.nd, rfl, mk.sk, fx_of rfl rfl (L2N.takes_of rfl rfl rfl rfl), hr.units, ⟨rfl, rfl, hr⟩, ar, ih.at_⟩
    · obtain ⟨oc, od, dV, kV, doc, pm, an, cdv, ct, osl, rfl, lk, hcd, _, _⟩ := F.ex
      refine fn_ofX (k := 2 * n + 1) lk hcd S (fun a vs H Q E ⟨_, _, h⟩ => h.1) fun A outer s H vs Q E p hot zc hr ⟨xa, hxa, hsp⟩ => ⟨_, ?_, body_read (xa := xa) hy hsp⟩
      refine (VM.vs (T := P.T) (Φ := call P.pr n) (Γ := P.tx) (nm := nm) (n := 2 * n) (N := y.1.N) y.2).1.2 (some c) _ (defScope y.1.st) xa _ ?_ ⟨rfl, rfl, fun _ => rfl, S.kind, L2N.takes_of rfl rfl rfl rfl, PassesOwn.leaving⟩ _ chk
      exact ⟨rfl, S.nd, rfl, mk.sk, fx_of rfl rfl (L2N.takes_of rfl rfl rfl rfl), by have := hr.un; show (A.deeper _).units + 64 < cLine; omega, ⟨p, hxa, List.mem_cons_self, hot, zc, ⟨z, hc, hcp⟩, hr.mono (Nat.le_succ _)⟩, ar, ih.at_⟩
theorem fns_at (ok : P.ok = true) (mk : Made P nm K mg) (n : Nat) : FnsAt P nm prog w K mg base n := (fns_d ok mk n).at_
end
end VM
/-! VM14: what the top has made; the end. -/
namespace VM
open PySem L2 He PySem.Spec PyProof.Rows

/-! ### constants -/
mutual
def relD (K : PySem.W.Frag) : D → Value → Bool
  | .non, u => (match u with
    | .none => true
    | _ => false)
  | .bl b, u => (match u with
    | .bool c => b == c
    | _ => false)
  | .int i, u => (match u with
    | .int j _ => decide (i = j)
    | _ => false)
  | .str s, u => (match u with
    | .str z _ => decide (z = tx s) && (decide (s.length < line) && s.all (decide <| · < 1114112))
    | _ => false)
  | .tup ds, u => (match u with
    | .ref a => (match K.lookup a with
      | some ⟨.type c, _, .seq its _, _⟩ => decide (c = "tuple") && (decide (ds.length < line) && relDs K ds its.toList)
      | _ => false)
    | _ => false)
  | _, _ => false
def relDs (K : PySem.W.Frag) : List D → List Value → Bool
  | [], us => us.isEmpty
  | d :: ds, us => (match us with
    | u :: us => relD K d u && relDs K ds us
    | _ => false)
end
mutual
theorem relD_ok {K : PySem.W.Frag} : ∀ (d : D) (u : Value), relD K d u = true → ∃ v, RelV v u ∧ ∀ (W : Wd) (ρ : List Addr) (G : Hp), W.K = K → Fz W ρ G d v
  | .non, u, h => by
    simp only [relD] at h
    split at h
    · exact ⟨.non, rfl, fun _ _ _ _ => rfl⟩
    · cases h
  | .bl b, u, h => by
    simp only [relD] at h
    split at h
    · have := eq_of_beq h
      subst this
      exact ⟨.bl b, rfl, fun _ _ _ _ => rfl⟩
    · cases h
  | .int i, u, h => by
    simp only [relD] at h
    split at h
    · have := of_decide_eq_true h
      subst this
      exact ⟨.int i, ⟨_, rfl⟩, fun _ _ _ _ => rfl⟩
    · cases h
  | .str s, u, h => by
    simp only [relD] at h
    split at h
    · simp only [Bool.and_eq_true, decide_eq_true_eq, List.all_eq_true] at h
      obtain ⟨h1, h2, h3⟩ := h
      subst h1
      exact ⟨.str (tx s), ⟨_, rfl⟩, fun _ _ _ _ => .mkS ⟨h2, h3⟩⟩
    · cases h
  | .tup ds, u, h => by
    simp only [relD] at h
    split at h
    · rename_i a
      split at h
      · rename_i c dd its n sl lk
        simp only [decide_eq_true_eq, Bool.and_eq_true] at h
        obtain ⟨h1, h2, h3⟩ := h
        obtain ⟨vs, r, f⟩ := relDs_ok ds its.toList h3
        refine ⟨.ref a, rfl, fun W ρ G e => ?_⟩
        unfold Fz
        have fz := f W ρ G e
        refine ⟨a, vs, rfl, .inr ⟨_, its, n, e ▸ lk, by rw [h1], rfl, ?_, r⟩, h2, fz⟩
        have l1 := fz.length
        have l2 := r.length
        rw [line_eq]
        simp only [Array.length_toList] at l2
        omega
      · cases h
    · cases h
  | .lst _, u, h => by simp [relD] at h
  | .scr _, u, h => by simp [relD] at h
  | .dct _ _, u, h => by simp [relD] at h
  | .cell _, u, h => by simp [relD] at h
  | .ins _ _ _, u, h => by simp [relD] at h
  | .exc, u, h => by simp [relD] at h
  | .fn _, u, h => by simp [relD] at h
  | .dlk _ _, u, h => by simp [relD] at h
theorem relDs_ok {K : PySem.W.Frag} : ∀ (ds : List D) (us : List Value), relDs K ds us = true → ∃ vs, Vals vs us ∧ ∀ (W : Wd) (ρ : List Addr) (G : Hp), W.K = K → Fzs W ρ G ds vs
  | [], us, h => by
    simp only [relDs, List.isEmpty_iff] at h
    subst h
    exact ⟨[], .nil, fun _ _ _ _ => .nil⟩
  | d :: ds, us, h => by
    simp only [relDs] at h
    split at h
    · simp only [Bool.and_eq_true] at h
      obtain ⟨v, r, f⟩ := relD_ok d _ h.1
      obtain ⟨vs, rs, fs⟩ := relDs_ok ds _ h.2
      exact ⟨v :: vs, .cons r rs, fun W ρ G e => .cons (f W ρ G e) (fs W ρ G e)⟩
    · cases h
end

/-! ### the check of the written part -/
def isG (K : PySem.W.Frag) (x : Str) : Bool := eqO (PySem.W.nsIn K mainGlobals x) (some (some (.ref (ga K x)))) && PySem.W.keepIn K (.ref (ga K x))
def excC (K : PySem.W.Frag) (D : Addr) : Bool :=
  eqO (PySem.W.findIn K (.ref D) "__getattribute__") (some (some (.builtin "BaseException.__getattribute__"))) && (eqO (PySem.W.findIn K (.ref D) "__getattr__") (some none) && (decide (PySem.W.subIn K (.ref D) (.type "BaseException") = some true) && (PySem.W.hasDictIn K D &&
    (eqO (PySem.W.findIn K (.ref D) "__class__") (some (some (.builtin "object.__class__"))) && (eqO (PySem.W.specialIn K (.builtin "object.__class__") "__get__") (some (some (.builtin "getset_descriptor.__get__"))) && (decide (PySem.W.takesIn K (.builtin "object.__class__") = some true) && decide (PySem.W.mroIn K D (.type "object") = some true)))))))
theorem excC_ok {K : PySem.W.Frag} {D : Addr} (h : excC K D = true) : ExcC K D := by
  unfold excC at h
  simp only [decide_eq_true_eq, Bool.and_eq_true] at h
  obtain ⟨h1, h2, h3, h4, h5, h6, h7, h8⟩ := h
  exact ⟨eqO_ok h1, eqO_ok h2, h3, h4, eqO_ok h5, eqO_ok h6, h7, h8⟩
def clsC (K : PySem.W.Frag) (x : Str) : Bool :=
  isG K x && ((allTn.all fun t => decide (PySem.W.kitOne K (.type (tnS t)) (.ref (ga K x)) = some false)) && (PySem.W.excIn K (ga K x) [.type "ValueError", .type "Exception", .type "BaseException", .type "object"] "ValueError.__new__" &&
    (decide (PySem.W.subIn K (.ref (ga K x)) (.type "BaseException") = some true) && (decide (PySem.W.typeIn K (.ref (ga K x)) = some (.type "type")) && (excC K (ga K x) && decide (PySem.W.kitOne K (.ref (ga K x)) (.type "ValueError") = some true))))))
def faOf (P : Text) (K : PySem.W.Frag) (f : Nat) : Addr := fAd K (match P.fs[f]? with
  | some y => y.1.at_
  | none => ("", none))
def kaOf (P : Text) (K : PySem.W.Frag) (C : Nat) : Addr := ga K (P.ks.getD C "")
/-- a class of plain objects -/
def klsC (P : Text) (K : PySem.W.Frag) (C : Nat) : Bool :=
  isG K (P.ks.getD C "") && (PySem.W.makesIn K (kaOf P K C) && (eqO (PySem.W.findIn K (.ref (kaOf P K C)) "__init__") (some (some (.ref (faOf P K (P.T.ini.getD C 0))))) && (PySem.W.isFn K (.ref (faOf P K (P.T.ini.getD C 0))) && ((match P.fs[P.T.ini.getD C 0]? with
    | some y => decide (y.1.qual ≠ "")
    | none => false) && (PySem.W.readsIn K (kaOf P K C) (.type "type") && (eqO (PySem.W.specialIn K (.ref (kaOf P K C)) "__getattribute__") (some (some (.builtin "type.__getattribute__"))) && ((match PySem.W.findCls K (.ref (kaOf P K C)) (.type "type") "__init__" with
    | some (.val (.ref a)) => decide (a = faOf P K (P.T.ini.getD C 0))
    | _ => false) && PySem.W.keepIn K (.ref (faOf P K (P.T.ini.getD C 0))))))))))
def klsD (P : Text) (K : PySem.W.Frag) (C : Nat) : Bool :=
  PySem.W.plainGet K (kaOf P K C) Str.empty && (PySem.W.hasDictIn K (kaOf P K C) && (PySem.W.plainOver K (kaOf P K C) && (eqO (PySem.W.findIn K (.ref (kaOf P K C)) "__setattr__") (some (some (.builtin "object.__setattr__"))) &&
    (eqO (PySem.W.findIn K (.ref (kaOf P K C)) "__class__") (some (some (.builtin "object.__class__"))) && (eqO (PySem.W.specialIn K (.builtin "object.__class__") "__get__") (some (some (.builtin "getset_descriptor.__get__"))) && (decide (PySem.W.takesIn K (.builtin "object.__class__") = some true) && decide (PySem.W.mroIn K (kaOf P K C) (.type "object") = some true)))))))
def klsE (P : Text) (K : PySem.W.Frag) (C : Nat) : Bool :=
  (P.fd.all fun x => eqO (PySem.W.findIn K (.ref (kaOf P K C)) x) (some none)) && (((List.range P.ms.length).all fun m => match P.T.meth C m with
    | none => true
    | some g => (match P.fs[g]? with
      | some y => decide (y.1.qual ≠ "")
      | none => false) && (eqO (PySem.W.findIn K (.ref (kaOf P K C)) (P.ms.getD m "")) (some (some (.ref (faOf P K g)))) && (PySem.W.isFn K (.ref (faOf P K g)) && PySem.W.keepIn K (.ref (faOf P K g))))) &&
    (((List.range P.ks.length).all fun C' => !plainN (P.ks.getD C' "") || decide (PySem.W.kitOne K (.ref (kaOf P K C)) (.ref (kaOf P K C')) = some (subC P.T.kup 9 C C'))) &&
    (allTn.all fun t => decide (PySem.W.kitOne K (.ref (kaOf P K C)) (.type (tnS t)) = some false) && decide (PySem.W.kitOne K (.type (tnS t)) (.ref (kaOf P K C)) = some false))))
def skC (P : Text) (K : PySem.W.Frag) : Bool :=
  (P.fs.all fun f => !plainN f.1.qual || (f.1.cls.isNone && isG K f.1.name)) && ((bis.all fun x => eqO (PySem.W.nsIn K mainGlobals x) (some none)) && ((P.cs.all fun x => !plainN x || clsC K x) && (((List.range P.cs.length).all fun c => !plainN (P.cs.getD c "") || (List.range P.cs.length).all fun c' => !plainN (P.cs.getD c' "") || (
    decide (PySem.W.kitOne K (.ref (ga K (P.cs.getD c ""))) (.ref (ga K (P.cs.getD c' ""))) = some (subC P.T.up 9 c c')) && decide (PySem.W.exmOne K (.ref (ga K (P.cs.getD c ""))) (.ref (ga K (P.cs.getD c' ""))) = some (subC P.T.up 9 c c')))) &&
    (((List.range P.gl.length).all fun g => !plainN (P.gl.getD g "") || (match PySem.W.nsIn K mainGlobals (P.gl.getD g "") with
      | some (some u) => relD K (P.T.glob.getD g .non) u
      | _ => false)) && ((List.range P.ks.length).all fun C => !plainN (P.ks.getD C "") || (klsC P K C && (klsD P K C && klsE P K C)))))))
/-- the fields' names, others for numbers that are none's -/
def fnOfN (fd : List Str) (i : Nat) : Str :=
  match fd[i]? with
  | some x => x
  | none => tx (List.replicate (i + 1) 0)
theorem letC_ne {x : Str} (h : letC x = true) (i : Nat) : x ≠ tx (List.replicate (i + 1) 0) := fun z => by
  subst z
  unfold letC at h
  simp only [Bool.and_eq_true] at h
  have := Array.all_eq_true_iff_forall_mem.mp h.2 0 (by simp [tx])
  simp at this
theorem fn_inj {fd : List Str} (nd : fd.Nodup) (hl : ∀ x ∈ fd, letC x = true) : ∀ i j, fnOfN fd i = fnOfN fd j → i = j := fun i j h => by
  unfold fnOfN at h
  split at h
  · rename_i x hx
    split at h
    · rename_i y hy
      subst h
      exact (List.getElem?_inj (List.getElem?_eq_some_iff.mp hx).1 nd).mp (by rw [hx, hy])
    · exact absurd h (letC_ne (hl x (List.mem_of_getElem? hx)) j)
  · split at h
    · rename_i y hy
      exact absurd h.symm (letC_ne (hl y (List.mem_of_getElem? hy)) i)
    · have := congrArg (fun s : Str => s.cps.toList.length) h
      simp only [tx_cps, List.length_replicate] at this
      omega
theorem Text.ok_fd {P : Text} (ok : P.ok = true) : P.fd.Nodup ∧ (∀ x ∈ P.fd, letC x = true) ∧ ∀ x ∈ P.ms, letC x = true ∧ x ∉ P.fd := by
  unfold Text.ok at ok
  simp only [Bool.and_eq_true, decide_eq_true_eq, List.all_eq_true] at ok
  exact ⟨ok.2.2.2.1, ok.2.2.2.2.1, ok.2.2.2.2.2⟩
def nmOf (P : Text) (K : PySem.W.Frag) (ok : P.ok = true) : Nm := ⟨fun c => ga K (P.cs.getD c ""), kaOf P K, fnOfN P.fd, faOf P K, fun C => plainN (P.ks.getD C ""), fn_inj (Text.ok_fd ok).1 (Text.ok_fd ok).2.1⟩
def defD (f : Fn) : DefD := ⟨f.at_, f.name, f.qual, defArgs f.st, defBody f.st, defScope f.st, [], []⟩
def Text.defs (P : Text) : List DefD := (P.fs.filter fun f => decide (f.1.qual ≠ ("" : Str))).map fun f : Fn × C => defD f.1
theorem orN {a b : Bool} (h : (!a || b) = true) (k : a = true) : b = true := by
  subst k
  simpa using h
theorem made_of {P : Text} {K : PySem.W.Frag} {mg : Str → Option Value} {h : Heap} (ok : P.ok = true) (X : K.In h) (G : h.Ns mainGlobals mg) (c : SaysD [] P.defs K) (s : skC P K = true) : Made P (nmOf P K ok) K mg := by
  have ok' := ok
  unfold Text.ok at ok'
  simp only [Bool.and_eq_true, decide_eq_true_eq, List.all_eq_true, List.mem_range] at ok'
  obtain ⟨ln, _, orl, _⟩ := ok'
  unfold skC at s
  simp only [Bool.and_eq_true, List.all_eq_true, List.mem_range] at s
  obtain ⟨s1, s2, s3, s4, s5, s6⟩ := s
  have gd : ∀ {l : List Str} {c : Nat} {x : Str}, l[c]? = some x → l.getD c "" = x ∧ x ∈ l ∧ c < l.length := fun {l c x} h =>
    ⟨by simp [List.getD, h], List.mem_of_getElem? h, (List.getElem?_eq_some_iff.mp h).1⟩
  have cc : ∀ {c : Nat} {x : Str}, P.tx.cs[c]? = some x → plainN x = true → (nmOf P K ok).ca c = ga K x ∧ clsC K x = true := fun {c x} h hp => by
    obtain ⟨h1, h2, _⟩ := gd (show P.cs[c]? = some x from h)
    exact ⟨by show ga K (P.cs.getD c "") = _; rw [h1], orN (s3 x h2) hp⟩
  have isg : ∀ {x : Str}, isG K x = true → mg x = some (.ref (ga K x)) ∧ PySem.W.keepIn K (.ref (ga K x)) = true := fun {x} h => by
    unfold isG at h
    simp only [Bool.and_eq_true] at h
    exact ⟨PySem.W.mg_of X G (eqO_ok h.1), h.2⟩
  have fa : ∀ {f : Nat} {y : Fn × C}, P.fs[f]? = some y → (nmOf P K ok).fa f = fAd K y.1.at_ := fun {f y} hy => by
    show fAd K (match P.fs[f]? with
      | some y => y.1.at_
      | none => ("", none)) = _
    rw [hy]
  have lt : ∀ {C : Nat}, (nmOf P K ok).kr C = true → C < P.ks.length ∧ klsC P K C = true ∧ klsD P K C = true ∧ klsE P K C = true := fun {C} h => by
    have h : plainN (P.ks.getD C "") = true := h
    have hl : C < P.ks.length := by
      by_cases hl : C < P.ks.length
      · exact hl
      · rw [List.getD_eq_getElem?_getD, List.getElem?_eq_none (by omega)] at h
        exact absurd h (by decide +kernel)
    have := orN (s6 C hl) h
    simp only [Bool.and_eq_true] at this
    exact ⟨hl, this⟩
  have krOf : ∀ {C : Nat} {x : Str}, P.tx.ks[C]? = some x → plainN x = true → (nmOf P K ok).kr C = true ∧ P.ks.getD C "" = x := fun {C x} h hp => by
    obtain ⟨h1, _⟩ := gd (show P.ks[C]? = some x from h)
    exact ⟨by show plainN (P.ks.getD C "") = true; rw [h1]; exact hp, h1⟩
  have qn : ∀ {g : Nat}, (match P.fs[g]? with
      | some y => decide (y.1.qual ≠ "")
      | none => false) = true → ∃ z ps, P.tx.fs[g]? = some (z, ps) ∧ z ≠ "" := fun {g} h => by
    split at h
    · rename_i y hy
      exact ⟨y.1.qual, y.1.ps, by show (P.fs.map fun f => (f.1.qual, f.1.ps))[g]? = _; rw [List.getElem?_map, hy]; rfl, of_decide_eq_true h⟩
    · cases h
  have kE : ∀ {C : Nat}, (nmOf P K ok).kr C = true → (∀ x ∈ P.fd, PySem.W.findIn K (.ref (kaOf P K C)) x = some none) ∧ (∀ m, m < P.ms.length → ∀ g, P.T.meth C m = some g → (∃ z ps, P.tx.fs[g]? = some (z, ps) ∧ z ≠ "") ∧ Meth K (kaOf P K C) (P.ms.getD m "") (faOf P K g)) ∧
      (∀ C', C' < P.ks.length → plainN (P.ks.getD C' "") = true → PySem.W.kitOne K (.ref (kaOf P K C)) (.ref (kaOf P K C')) = some (subC P.T.kup 9 C C')) ∧ (∀ t, PySem.W.kitOne K (.ref (kaOf P K C)) (.type (tnS t)) = some false ∧ PySem.W.kitOne K (.type (tnS t)) (.ref (kaOf P K C)) = some false) := fun {C} h => by
    obtain ⟨_, _, _, e⟩ := lt h
    unfold klsE at e
    simp only [Bool.and_eq_true, List.all_eq_true, List.mem_range, decide_eq_true_eq] at e
    obtain ⟨e1, e2, e3, e4⟩ := e
    refine ⟨fun x hx => eqO_ok (e1 x hx), fun m hm g hg => ?_, fun C' hC hp => of_decide_eq_true (orN (e3 C' hC) hp), fun t => e4 t (mem_allTn t)⟩
    have := e2 m hm
    rw [hg] at this
    simp only [Bool.and_eq_true] at this
    obtain ⟨a1, a2, a3, a4⟩ := this
    exact ⟨qn a1, eqO_ok a2, a3, a4⟩
  refine ⟨⟨ln, fun f x ps h hp => ?_, fun x hx => PySem.W.mg_none_of X G (eqO_ok (s2 x hx)), fun g x h hp => ?_, fun c x h hp => ?_, fun c x t h hp => ?_, fun c x h hp => ?_, fun c c' x x' h h' hp hp' => ?_, fun c hc => ?_, fun C x h hp => ?_, fun C h => ?_, fun C f x h hf hx => ?_, fun C m g x h hm hx => ?_, fun f m x hm e => ?_, fun C C' x h hx hp => ?_, fun C t h => ((kE h).2.2.2 t).1, fun C t x h hp => ?_⟩, fun f y hy ne => ?_⟩
  · obtain ⟨y, hy, e1, e2⟩ := tx_fs h
    have := orN (s1 y (List.mem_of_getElem? hy)) (by rw [e1]; exact hp)
    simp only [Bool.and_eq_true, Option.isNone_iff_eq_none] at this
    obtain ⟨a1, a2⟩ := this
    have eq : y.1.qual = y.1.name := by unfold Fn.qual; rw [a1]
    have ea : y.1.at_ = (y.1.name, none) := by unfold Fn.at_; rw [a1]
    rw [fa hy, ea, ← e1, eq]
    exact isg a2
  · obtain ⟨h1, _, h3⟩ := gd (show P.gl[g]? = some x from h)
    have := orN (s5 g h3) (by rw [h1]; exact hp)
    rw [h1] at this
    split at this
    · rename_i u hu
      obtain ⟨v, r, f⟩ := relD_ok _ u this
      exact ⟨v, u, PySem.W.mg_of X G hu, r, f⟩
    · cases this
  · obtain ⟨e, k⟩ := cc h hp
    rw [e]
    unfold clsC at k
    simp only [Bool.and_eq_true] at k
    exact isg k.1
  · obtain ⟨e, k⟩ := cc h hp
    rw [e]
    unfold clsC at k
    simp only [Bool.and_eq_true, List.all_eq_true, decide_eq_true_eq] at k
    exact k.2.1 t (mem_allTn t)
  · obtain ⟨e, k⟩ := cc h hp
    rw [e]
    unfold clsC at k
    simp only [Bool.and_eq_true, List.all_eq_true, decide_eq_true_eq] at k
    obtain ⟨_, _, k1, k2, k3, k4, k5⟩ := k
    exact ⟨k1, k2, k3, excC_ok k4, k5⟩
  · obtain ⟨e1, _, l1⟩ := gd (show P.cs[c]? = some x from h)
    obtain ⟨e2, _, l2⟩ := gd (show P.cs[c']? = some x' from h')
    have := orN (s4 c l1) (by rw [e1]; exact hp)
    rw [List.all_eq_true] at this
    have := orN (this c' (List.mem_range.mpr l2)) (by rw [e2]; exact hp')
    simp only [decide_eq_true_eq, Bool.and_eq_true] at this
    exact this
  · have hl : c < P.T.rl.length := by
      by_cases hl : c < P.T.rl.length
      · exact hl
      · rw [List.getD_eq_getElem?_getD, List.getElem?_eq_none (by omega)] at hc
        cases hc
    have := orN (orl c hl) hc
    split at this
    · rename_i x hx
      exact ⟨x, hx, this⟩
    · cases this
  · obtain ⟨hk, hx⟩ := krOf h hp
    obtain ⟨_, k, _, _⟩ := lt hk
    unfold klsC at k
    simp only [Bool.and_eq_true] at k
    obtain ⟨k1, k2, k3, k4, k5, k6, k7, k8, k9⟩ := k
    rw [hx] at k1
    obtain ⟨g1, g2⟩ := isg k1
    have ek : kaOf P K C = ga K x := by unfold kaOf; rw [hx]
    have g1' : mg x = some (.ref (kaOf P K C)) := by rw [ek]; exact g1
    have g2' : PySem.W.keepIn K (.ref (kaOf P K C)) = true := by rw [ek]; exact g2
    refine ⟨hk, g1', ⟨k2, eqO_ok k3, k4, g2'⟩, qn k5, ⟨k6, eqO_ok k7⟩, ?_, k9⟩
    split at k8
    · rename_i a ha
      rw [of_decide_eq_true k8] at ha
      exact ha
    · cases k8
  · obtain ⟨_, _, k, _⟩ := lt h
    unfold klsD at k
    simp only [decide_eq_true_eq, Bool.and_eq_true] at k
    obtain ⟨k1, k2, k3, k4, k5, k6, k7, k8⟩ := k
    exact ⟨⟨k1, k2, k3, eqO_ok k4⟩, eqO_ok k5, eqO_ok k6, k7, k8⟩
  · have hf : P.fd[f]? = some x := hf
    refine ⟨(kE h).1 x (List.mem_of_getElem? hf), ?_⟩
    show fnOfN P.fd f = x
    unfold fnOfN
    rw [hf]
  · obtain ⟨e1, _, l1⟩ := gd (show P.ms[m]? = some x from hx)
    obtain ⟨⟨z, ps, a1, a2⟩, a3⟩ := (kE h).2.1 m l1 g hm
    rw [e1] at a3
    exact ⟨z, ps, a1, a2, a3⟩
  · have e : fnOfN P.fd f = x := e
    have hm := (Text.ok_fd ok).2.2 x (List.mem_of_getElem? (show P.ms[m]? = some x from hm))
    unfold fnOfN at e
    split at e
    · rename_i y hy
      subst e
      exact hm.2 (List.mem_of_getElem? hy)
    · exact letC_ne hm.1 _ e.symm
  · obtain ⟨e1, _, l1⟩ := gd (show P.ks[C']? = some x from hx)
    exact (kE h).2.2.1 C' l1 (by rw [e1]; exact hp)
  · exact ((kE (krOf h hp).1).2.2.2 t).2
  · rw [fa hy]
    exact c.defs (d := defD y.1) (List.mem_map.mpr ⟨y, List.mem_filter.mpr ⟨List.mem_of_getElem? hy, by simpa using ne⟩, rfl⟩)

/-! ### the hook: what the names reach, and the table of the interpreter's own statics -/
def asY (g : Addr → Option Obj) (n : Nat) : List Addr := He.asD g n ++ [cStatics]
abbrev AlY : Type := He.AlD × Bool
def obsY (n : Nat) (fn : List DefD) (ex : PySem.W.Frag → Bool) (g : Addr → Option Obj) : AlY := (He.obsD [] fn (He.frG g (asY g n)), ex (He.frG g (asY g n)))
def SaysY (fn : List DefD) (ex : PySem.W.Frag → Bool) (K : PySem.W.Frag) : Prop := SaysD [] fn K ∧ ex K = true
def hookY (n : Nat) (fn : List DefD) (ex : PySem.W.Frag → Bool) : PySem.W.Hook where
  α := AlY
  obs := fun s => obsY n fn ex s.heap.get?
  val := fun _ => (He.valD fn, true)
  says := fun _ h => ∃ K : PySem.W.Frag, K.In h ∧ SaysY fn ex K
  of := fun _ _ e => ⟨_, He.frG_in, congrArg (fun z : AlY => z.1) e, congrArg (fun z : AlY => z.2) e⟩
  keeps := fun _ _ _ ⟨K, hK, c⟩ k => ⟨K, PySem.W.Frag.In.keeps hK k, c⟩
theorem obsY_eq {n : Nat} {fn : List DefD} {ex : PySem.W.Frag → Bool} {g : Addr → Option Obj} {s : Shared} (h : ∀ a, g a = s.heap.get? a) : obsY n fn ex g = (hookY n fn ex).obs s := by
  have e : g = s.heap.get? := funext h
  rw [e] <;> rfl
/-! ### the end -/
theorem ints_fz (W : Wd) (ρ : List Addr) (G : Hp) : ∀ (ns : List Int), Fzs W ρ G (ns.map .int) (ns.map V.int)
  | [] => .nil
  | n :: ns => .cons (by unfold Fz; rfl) (ints_fz W ρ G ns)
theorem law_end {P : Text} {l : PySem.W.OpenLaw} {q : Program} {loose : List Str} {XP : (Str → Option Value) → Heap → Prop} {d : DefRec} {x : Str} {m k f : Nat} {y : Fn × C}
    (hm : l.most = some m) (hm2 : m < line) (hm3 : m ≤ sizeLine) (hdf : d.params.defaults = []) (hr : Room (2 * k) callerA) (ok : P.ok = true) (hy : P.fs[f]? = some y) (hn : d.name = y.1.name) (hp : plainN d.name = true) (hcl : y.1.cls = none) (hx : y.1.ps = [x])
    (law : ∀ ns : List Int, ns.length ≤ m → ∃ kd M, call P.pr k none f [.scr (ns.map .int)] [] = .ok ⟨kd, .bl true⟩ M) :
    PySem.W.WalkO q loose XP (fun _ h => ∃ K : PySem.W.Frag, K.In h ∧ SaysY P.defs (skC P) K) l.row.toRowW d [] (fun f vs => PySem.call f vs) := by
  refine LamX.walk_ofTsE (n := m) (k := 2 * k) (x := x) (CX := fun w => L2N.CX l.prog w) hm hm3 hdf hr ?_ ?_
  · intro w mg fa h ⟨K, KX, S⟩ G hf
    refine ⟨K, KX, ?_⟩
    have mk := made_of ok KX G S.1 S.2
    have eq : y.1.qual = y.1.name := by unfold Fn.qual; rw [hcl]
    have hF : P.tx.fs[f]? = some (y.1.name, y.1.ps) := by
      show (P.fs.map fun f => (f.1.qual, f.1.ps))[f]? = _
      rw [List.getElem?_map, hy]
      show some (y.1.qual, y.1.ps) = _
      rw [eq]
    have hp' : plainN y.1.name = true := by rw [← hn]; exact hp
    have efa : fa = (nmOf P K ok).fa f := by
      have := (mk.sk.fn f _ _ hF hp').1
      rw [← hn, hf] at this
      injection this with this
      injection this
    obtain ⟨fd, ⟨⟨oc, od, osl, lk⟩, bA⟩, _⟩ := fns_d (prog := l.prog) (w := w) (base := h) ok mk k f _ _ hF (plainN_ne hp')
    subst efa
    refine ⟨fd, [], spC ⟨K, nmOf P K ok, none⟩ (call P.pr k none) f 1, fun p hp => by simp at hp, fun p hp => by simp at hp, fun p hp => by simp at hp, fun s u => ?_, ?_, fun base KB GB _ => ?_⟩
    · have := bA s [u] (by rw [hx]; rfl)
      rw [hx] at this
      exact this
    · intro H a ns hl _ _ hS
      obtain ⟨kd, M, e⟩ := law ns hl
      refine ⟨rfl, fun _ => none, [], H, [], [.scr (ns.map .int)], ?_, .cons ?_ .nil, ?_⟩
      · exact ⟨fun _ _ z => z, fun _ _ z => by simp at z, fun _ _ z => by simp at z, rfl, fun _ _ _ z => by simp at z, fun _ _ _ z => by simp at z⟩
      · unfold Fz
        exact ⟨a, ns.map .int, rfl, hS, by rw [List.length_map]; omega, ints_fz _ _ _ ns⟩
      · rw [e]
        intro ρ' G' v H' _ _ _ rs
        cases kd with
        | f => exact rs
        | n => 
          obtain ⟨p, _, nw⟩ := rs
          obtain ⟨ho, _, c⟩ := nw.at_
          cases ho <;> exact c.elim
        | b => exact rs.elim
    · obtain ⟨fd2, ⟨⟨oc2, od2, osl2, lk2⟩, _⟩, _, ok2, _⟩ := fns_d (prog := l.prog) (w := w) (base := base) ok mk k f _ _ hF (plainN_ne hp')
      rw [lk] at lk2
      cases lk2
      rw [hx] at ok2
      exact ok2
  · intro w H s e s' c
    obtain ⟨a, B, H', cls, d, _, _, _, _, _, _, _, z⟩ := c
    exact z
end VM
/-! VS: the machine, read step by step. -/
namespace VM
section
variable {α β : Type} {a : α} {M : Mem} {C : Nat} {σ : List SV} {r : KD} {d : D} {k : Kd} {b : Bool}
theorem bind_ok {f : α → Mem → Rs β} : (Rs.ok a M).bind f = f a M := rfl
theorem bind_ex {f : α → Mem → Rs β} : (Rs.ex C M : Rs α).bind f = .ex C M := rfl
theorem bind_if {p : Prop} [Decidable p] {x y : Rs α} {f : α → Mem → Rs β} : (if p then x else y).bind f = if p then x.bind f else y.bind f := by split <;> rfl
theorem bw_ok : (Rs.ok ⟨k, d⟩ M).bw = .ok d M := rfl
theorem bw_ex : (Rs.ex C M : Rs KD).bw = .ex C M := rfl
theorem fz_f : (Rs.ok ⟨.f, d⟩ M).fz = .ok d M := rfl
theorem fz_n : (Rs.ok ⟨.n, d⟩ M).fz = .ok d M := rfl
theorem fz_ex : (Rs.ex C M : Rs KD).fz = .ex C M := rfl
theorem bl_ok : (Rs.ok ⟨k, .bl b⟩ M).bl = .ok b M := by cases k <;> rfl
theorem bl_ex : (Rs.ex C M : Rs KD).bl = .ex C M := rfl
theorem on_ok {f : α → Mem → Sx} : (Rs.ok a M).on σ f = f a M := rfl
theorem on_ex {f : α → Mem → Sx} : (Rs.ex C M : Rs α).on σ f = .ex C σ M := rfl
theorem next_nx {f : List SV → Mem → Sx} : (Sx.nx σ M).next f = f σ M := rfl
theorem next_rt {f : List SV → Mem → Sx} : (Sx.rt r M).next f = .rt r M := rfl
theorem next_ex {f : List SV → Mem → Sx} : (Sx.ex C σ M).next f = .ex C σ M := rfl
theorem next_if {p : Prop} [Decidable p] {x y : Sx} {f : List SV → Mem → Sx} : (if p then x else y).next f = if p then x.next f else y.next f := by split <;> rfl
theorem res_nx : (Sx.nx σ M).res = .ok ⟨.f, .non⟩ M := rfl
theorem res_rt : (Sx.rt r M).res = .ok r M := rfl
theorem res_ex : (Sx.ex C σ M).res = .ex C M := rfl
theorem res_if {p : Prop} [Decidable p] {x y : Sx} : (if p then x else y).res = if p then x.res else y.res := by split <;> rfl
theorem out_f : out ⟨.f, d⟩ = ⟨.f, d⟩ := rfl
theorem out_n : out ⟨.n, d⟩ = ⟨.n, d⟩ := rfl
theorem out_b : out ⟨.b, d⟩ = ⟨.n, d⟩ := rfl
theorem okB_some : okB (some b) M = .ok ⟨.f, .bl b⟩ M := rfl
theorem okI_some {i : Int} : okI (some i) M = .ok ⟨.f, .int i⟩ M := rfl
theorem okO_some : okO (some d) M = .ok ⟨.f, d⟩ M := rfl
theorem ok1_eq : ok1 d M = .ok ⟨.f, d⟩ M := rfl
theorem okn_eq : okn d M = .ok ⟨.n, d⟩ M := rfl
theorem okL_some {xs : List D} : okL (some xs) d M = .ok (xs, d) M := rfl
variable {i j : Int} {x y : D}
theorem add_int : binop .add (.int i) (.int j) M = .ok ⟨.f, .int (i + j)⟩ M := rfl
theorem sub_int : binop .sub (.int i) (.int j) M = .ok ⟨.f, .int (i - j)⟩ M := rfl
theorem mul_int (h : mulOk i j = true) : binop .mul (.int i) (.int j) M = .ok ⟨.f, .int (i * j)⟩ M := by
  show (if mulOk i j = true then _ else _) = _
  rw [if_pos h]; rfl
theorem fdiv_int (h : 0 < j) (h3 : j < 18446744073709551616) : binop .fdiv (.int i) (.int j) M = .ok ⟨.f, .int (i / j)⟩ M := by
  have h2 : j.natAbs.log2 < 9000 := by
    have : j.natAbs.log2 < 64 := (Nat.log2_lt (by omega)).mpr (by omega)
    omega
  show (if 0 < j ∧ j.natAbs.log2 < 9000 then _ else _) = _
  rw [if_pos ⟨h, h2⟩]; rfl
theorem mod_int (h : 0 < j) : binop .mod (.int i) (.int j) M = .ok ⟨.f, .int (i % j)⟩ M := by
  show (if 0 < j then _ else _) = _
  rw [if_pos h]; rfl
theorem lt_int : cmpop .lt (.int i) (.int j) M = some (decide (i < j)) := rfl
theorem le_int : cmpop .le (.int i) (.int j) M = some (decide (i ≤ j)) := rfl
theorem gt_int : cmpop .gt (.int i) (.int j) M = some (decide (j < i)) := rfl
theorem ge_int : cmpop .ge (.int i) (.int j) M = some (decide (j ≤ i)) := rfl
theorem eq_int : cmpop .eq (.int i) (.int j) M = some (decide (i = j)) := by
  show some (i == j) = _
  rw [Bool.beq_eq_decide_eq]
theorem ne_int : cmpop .ne (.int i) (.int j) M = some (decide (i ≠ j)) := by
  show some (!(i == j)) = _
  by_cases h : i = j <;> simp [h]
theorem eq_str {s t : List Nat} : cmpop .eq (.str s) (.str t) M = some (decide (s = t)) := by
  show some (s == t) = _
  rw [Bool.beq_eq_decide_eq]
theorem ne_str {s t : List Nat} : cmpop .ne (.str s) (.str t) M = some (decide (s ≠ t)) := by
  show some (!(s == t)) = _
  by_cases h : s = t <;> simp [h]
theorem is_non : cmpop .is x .non M = some (isN x) := rfl
theorem isn_non : cmpop .isn x .non M = some (!isN x) := rfl
theorem small_mul_r (h : smallI j = true) : mulOk i j = true := by unfold mulOk; simp [h]
theorem small_mul_l (h : smallI i = true) : mulOk i j = true := by unfold mulOk; simp [h]
theorem small_in (h1 : -18446744073709551616 < i) (h2 : i < 18446744073709551616) : smallI i = true := by
  unfold smallI
  rw [decide_eq_true_eq]
  omega
theorem isi_some {T : Tab} {hot : Hot} {t : Tn} {u : Ty} (h : tnOf (deref M x) = some t) : isInst T hot M x u = some (isTn t u) := by
  unfold isInst
  rw [h]
theorem at_nat {α : Type} (xs : List α) (k : Nat) : at? xs (k : Int) = xs[k]? := by
  unfold at? place
  rw [if_pos (by omega)]
  split
  · simp
  · rename_i h
    rw [List.getElem?_eq_none (by omega)]; rfl
theorem at_int {α : Type} (xs : List α) {i : Int} (h : 0 ≤ i) : at? xs i = xs[i.toNat]? := by
  have := at_nat xs i.toNat
  rw [Int.toNat_of_nonneg h] at this
  exact this
theorem at_in {α : Type} (xs : List α) {i : Int} (h : 0 ≤ i) (h2 : i < xs.length) : ∃ d, at? xs i = some d ∧ d ∈ xs := by
  rw [at_int xs h]
  have : i.toNat < xs.length := by omega
  exact ⟨_, List.getElem?_eq_getElem this, List.getElem_mem this⟩
theorem ix_lst {xs : List D} (M : Mem) {i : Int} (h : 0 ≤ i) (h2 : i < xs.length) : ∃ d, index (.lst xs) (.int i) M = .ok ⟨.f, d⟩ M ∧ d ∈ xs := by
  obtain ⟨d, h1, h3⟩ := at_in xs h h2
  exact ⟨d, by show okO (at? xs i) M = _; rw [h1]; rfl, h3⟩
theorem ix_tup {xs : List D} (M : Mem) {i : Int} (h : 0 ≤ i) (h2 : i < xs.length) : ∃ d, index (.tup xs) (.int i) M = .ok ⟨.f, d⟩ M ∧ d ∈ xs := by
  obtain ⟨d, h1, h3⟩ := at_in xs h h2
  exact ⟨d, by show okO (at? xs i) M = _; rw [h1]; rfl, h3⟩
theorem len_ok {n : Int} (h : lenD (deref M x) = some n) : pf .len [x] M = .ok ⟨.f, .int n⟩ M := by
  show okI (lenD (deref M x)) M = _
  rw [h]; rfl
theorem divmod_ok (h : 0 < j) (h3 : j < 18446744073709551616) : pf .divmod [.int i, .int j] M = .ok ⟨.f, .tup [.int (i / j), .int (i % j)]⟩ M := by
  have h2 : j.natAbs.log2 < 9000 := by
    have : j.natAbs.log2 < 64 := (Nat.log2_lt (by omega)).mpr (by omega)
    omega
  show (if 0 < j ∧ j.natAbs.log2 < 9000 then _ else _) = _
  rw [if_pos ⟨h, h2⟩]; rfl
theorem abs_int : pf .abs [.int i] M = .ok ⟨.f, .int (if i < 0 then -i else i)⟩ M := rfl
theorem int_int : pf .int [.int i] M = .ok ⟨.f, .int i⟩ M := rfl
theorem int_bl : pf .int [.bl b] M = .ok ⟨.f, .int (if b then 1 else 0)⟩ M := rfl
/-- a loop that keeps something -/
theorem forL_keep {P : List SV → Prop} {c : Mem → Bool} {f : D → List SV → Mem → Sx} (hc : c M = true) : ∀ {xs : List D}, (∀ x ∈ xs, ∀ σ, P σ → ∃ σ', f x σ M = .nx σ' M ∧ P σ') → ∀ {σ}, P σ → ∃ σ', forL c f xs σ M = .nx σ' M ∧ P σ'
  | [], _, σ, p => ⟨σ, by simp only [forL, hc, if_true], p⟩
  | x :: xs, h, σ, p => by
    obtain ⟨σ1, e1, p1⟩ := h x List.mem_cons_self σ p
    obtain ⟨σ2, e2, p2⟩ := forL_keep hc (fun y hy => h y (List.mem_cons_of_mem _ hy)) p1
    exact ⟨σ2, by simp only [forL, hc, if_true, e1, next_nx, e2], p2⟩
end
mutual
theorem same_refl : ∀ d : D, d.same d = true
  | .non => rfl
  | .bl b => by simp [D.same]
  | .int i => by simp [D.same]
  | .str s => by simp [D.same]
  | .tup ds => by simp only [D.same]; exact sames_refl ds
  | .lst ds => by simp only [D.same]; exact sames_refl ds
  | .scr ds => by simp only [D.same]; exact sames_refl ds
  | .dct ks ds => by simp only [D.same, sames_refl ds]; simp
  | .cell i => by simp [D.same]
  | .ins C fs ds => by simp only [D.same, sames_refl ds]; simp
  | .exc => rfl
  | .fn f => by simp [D.same]
  | .dlk ks ds => by simp only [D.same, sames_refl ds]; simp
theorem sames_refl : ∀ ds : List D, sames ds ds = true
  | [] => rfl
  | d :: ds => by simp only [sames, same_refl d, sames_refl ds]; rfl
end
section
variable {M : Mem} {c : Mem → Bool} {f : D → Mem → Rs (Option D)}
theorem lcL_map {g : D → D} (hc : c M = true) : ∀ {xs : List D}, (∀ x ∈ xs, f x M = .ok (some (g x)) M) → lcL c f xs M = .ok (xs.map g) M
  | [], _ => by simp only [lcL, hc, if_true]; rfl
  | x :: xs, h => by
    simp only [lcL, hc, if_true, h x List.mem_cons_self, bind_ok, lcL_map hc fun y hy => h y (List.mem_cons_of_mem _ hy)]
    rfl
theorem lcL_filter {g : D → D} {p : D → Bool} (hc : c M = true) : ∀ {xs : List D}, (∀ x ∈ xs, f x M = .ok (if p x then some (g x) else none) M) → lcL c f xs M = .ok ((xs.filter p).map g) M
  | [], _ => by simp only [lcL, hc, if_true]; rfl
  | x :: xs, h => by
    simp only [lcL, hc, if_true, h x List.mem_cons_self, bind_ok, lcL_filter hc fun y hy => h y (List.mem_cons_of_mem _ hy)]
    by_cases k : p x = true
    · simp [k]
    · simp [k]
theorem allB_map {α : Type} {p : α → Bool} : ∀ {xs : List α}, allB (xs.map fun x => D.bl (p x)) = some (xs.all p)
  | [] => rfl
  | x :: xs => by
    simp only [List.map_cons, allB, allB_map, List.all_cons]
    rfl
theorem still_v {d : D} {xs : List D} (h : ∀ i, d ≠ .cell i) : still d xs M = true := by
  cases d <;> first | rfl | exact absurd rfl (h _)
theorem still_c {i : Nat} {xs : List D} (h : items (.cell i) M = some xs) : still (.cell i) xs M = true := by
  unfold still
  simp only [h]
  exact sames_refl xs
end
theorem add_lst {a b : List D} {M : Mem} (h : a.length + b.length < 16777216) : binop .add (.lst a) (.lst b) M = .ok ⟨.n, .lst (a ++ b)⟩ M := by
  show (if a.length + b.length < line then _ else _) = _
  rw [if_pos (show a.length + b.length < line from h)]; rfl
theorem add_ll {x y : D} {a b : List D} {M : Mem} (hx : deref M x = .lst a) (hy : deref M y = .lst b) (h : a.length + b.length < line) : binop .add x y M = .ok ⟨.n, .lst (a ++ b)⟩ M := by
  have e : binop .add x y M = (match deref M x, deref M y with
    | .lst xs, .lst ys => if xs.length + ys.length < line then okn (.lst (xs ++ ys)) M else .stk
    | .tup xs, .tup ys => if xs.length + ys.length < line then ok1 (.tup (xs ++ ys)) M else .stk
    | _, _ => .stk) := by
    cases x <;> first | (cases hx; done) | (cases y <;> rfl)
  rw [e, hx, hy]
  show (if a.length + b.length < line then _ else _) = _
  rw [if_pos h]; rfl
theorem sl_lst {x : D} {a : List D} {lo hi : Option Int} {M : Mem} (hx : deref M x = .lst a) : slD x lo hi M = .ok ⟨.n, .lst (cutL a lo hi)⟩ M := by
  unfold slD
  rw [hx]; rfl
theorem deref_cell {M : Mem} {i : Nat} {d : D} (h : M[i]? = some d) : deref M (.cell i) = d := by
  show M.getD i .non = d
  rw [List.getD_eq_getElem?_getD, h]; rfl
/-- a loop, by what holds behind so many turns -/
theorem forL_inv {P : Nat → List SV → Mem → Prop} {c : Mem → Bool} {f : D → List SV → Mem → Sx} {xs : List D} (hc : ∀ i σ M, i ≤ xs.length → P i σ M → c M = true) (h : ∀ (i : Nat) (hi : i < xs.length) (σ : List SV) (M : Mem), P i σ M → ∃ σ' M', f xs[i] σ M = .nx σ' M' ∧ P (i + 1) σ' M') :
    ∀ {σ : List SV} {M : Mem}, P 0 σ M → ∃ σ' M', forL c f xs σ M = .nx σ' M' ∧ P xs.length σ' M' := by
  have key : ∀ (n i : Nat), i + n = xs.length → ∀ {σ : List SV} {M : Mem}, P i σ M → ∃ σ' M', forL c f (xs.drop i) σ M = .nx σ' M' ∧ P xs.length σ' M' := by
    intro n
    induction n with
    | zero =>
      intro i hi σ M p
      have e : i = xs.length := by omega
      subst e
      exact ⟨σ, M, by rw [List.drop_length]; simp only [forL, hc _ _ _ (Nat.le_refl _) p, if_true], p⟩
    | succ n ih =>
      intro i hi σ M p
      have hlt : i < xs.length := by omega
      obtain ⟨σ1, M1, e1, p1⟩ := h i hlt σ M p
      obtain ⟨σ2, M2, e2, p2⟩ := ih (i + 1) (by omega) p1
      exact ⟨σ2, M2, by rw [List.drop_eq_getElem_cons hlt]; simp only [forL, hc _ _ _ (Nat.le_of_lt hlt) p, if_true, e1, next_nx, e2], p2⟩
  intro σ M p
  exact key xs.length 0 (by omega) p
/-- the items of range(N) -/
def rgL (N : Nat) : List D := upTo (fun k => 0 + (k : Int)) N
theorem rgL_len {N : Nat} : (rgL N).length = N := by unfold rgL upTo; rw [List.length_map, List.length_range]
theorem rgL_get {N i : Nat} (h : i < (rgL N).length) : (rgL N)[i] = .int (i : Nat) := by
  have := upTo_get (f := fun k => 0 + (k : Int)) (n := N) (i := i) h
  rw [Int.zero_add] at this
  exact this
/-- a loop over a range -/
theorem forL_up {P : Nat → List SV → Mem → Prop} {f : D → List SV → Mem → Sx} {N : Nat} (h : ∀ (k : Nat) (σ : List SV) (M : Mem), k < N → P k σ M → ∃ σ' M', f (.int (k : Nat)) σ M = .nx σ' M' ∧ P (k + 1) σ' M') {σ : List SV} {M : Mem} (p : P 0 σ M) :
    ∃ σ' M', forL (still .non (rgL N)) f (rgL N) σ M = .nx σ' M' ∧ P N σ' M' := by
  obtain ⟨σ', M', e, q⟩ := forL_inv (P := P) (c := still .non (rgL N)) (f := f) (xs := rgL N) (fun _ _ _ _ _ => rfl) (fun i hi σ M p => by
    rw [rgL_get hi]
    exact h i σ M (by rw [rgL_len] at hi; exact hi) p) p
  rw [rgL_len] at q
  exact ⟨σ', M', e, q⟩
theorem rng1_ok {i : Int} (h0 : 0 ≤ i) (h : i < 1152921504606846976) : rng1 (.int i) = some (rgL i.toNat) := by
  show (if i.natAbs < 2 ^ 60 then _ else _) = _
  rw [if_pos (by omega)]; rfl
/-- what is left of a text behind so many statements -/
def C.drop : Nat → C → C
  | 0, c => c
  | n + 1, .seq _ b => C.drop n b
  | _, c => c
/-- the statements ahead -/
def C.pre : Nat → C → C
  | 0, _ => .nop
  | n + 1, .seq a b => .seq a (C.pre n b)
  | _, _ => .nop
theorem next_assoc (r : Sx) (f g : List SV → Mem → Sx) : (r.next f).next g = r.next fun σ M => (f σ M).next g := by cases r <;> rfl
theorem ex_pre {T : Tab} {Φ : Hot → Nat → List D → Mem → Rs KD} {hot : Hot} : ∀ (n : Nat) (c : C) (σ : List SV) (M : Mem), ex T Φ hot c σ M = (ex T Φ hot (C.pre n c) σ M).next (ex T Φ hot (C.drop n c))
  | 0, c, σ, M => by simp only [C.pre, C.drop, ex, next_nx]
  | n + 1, .seq a b, σ, M => by
    simp only [C.pre, C.drop, ex, next_assoc]
    congr 1
    funext σ M
    exact ex_pre n b σ M
  | n + 1, c, σ, M => by
    cases c with
    | seq a b =>
      simp only [C.pre, C.drop, ex, next_assoc]
      congr 1
      funext σ M
      exact ex_pre n b σ M
    | _ => simp only [C.pre, C.drop, ex, next_nx]
theorem lcL_mapF {α : Type} {f g : α → D} {M : Mem} {c : Mem → Bool} {F : D → Mem → Rs (Option D)} (hc : c M = true) : ∀ {xs : List α}, (∀ x ∈ xs, F (f x) M = .ok (some (g x)) M) → lcL c F (xs.map f) M = .ok (xs.map g) M
  | [], _ => by simp only [List.map_nil, lcL, hc, if_true]
  | x :: xs, h => by
    simp only [List.map_cons, lcL, hc, if_true, h x List.mem_cons_self, bind_ok, lcL_mapF hc fun y hy => h y (List.mem_cons_of_mem _ hy)]
theorem sumI_map {α : Type} {f : α → Int} : ∀ {xs : List α}, sumI (xs.map fun x => D.int (f x)) = some (xs.map f).sum
  | [] => rfl
  | x :: xs => by
    simp only [List.map_cons, sumI, sumI_map, Option.map_some, List.sum_cons]
/-- numbered -/
def eN {α : Type} : Nat → List α → List (Nat × α)
  | _, [] => []
  | n, x :: xs => (n, x) :: eN (n + 1) xs
theorem enuD_map {α : Type} {f : α → D} : ∀ {n : Nat} {xs : List α}, enuD n (xs.map f) = (eN n xs).map fun p => .tup [.int (p.1 : Nat), f p.2]
  | _, [] => rfl
  | n, x :: xs => by
    show D.tup [.int n, f x] :: enuD (n + 1) (xs.map f) = _
    rw [enuD_map]; rfl
theorem eN_len {α : Type} : ∀ {n : Nat} {xs : List α}, (eN n xs).length = xs.length
  | _, [] => rfl
  | n, x :: xs => by simp only [eN, List.length_cons, eN_len]
/-! ### equal things -/
mutual
/-- nothing shared in it: data -/
def D.dry : D → Bool
  | .non => true
  | .bl _ => true
  | .int _ => true
  | .str _ => true
  | .lst xs => drys xs
  | .tup xs => drys xs
  | _ => false
def drys : List D → Bool
  | [] => true
  | x :: xs => x.dry && drys xs
end
mutual
theorem put_dry (f : Nat → D) : ∀ d : D, d.dry = true → d.put f = d
  | .non, _ => rfl
  | .bl _, _ => rfl
  | .int _, _ => rfl
  | .str _, _ => rfl
  | .lst xs, h => by
    show D.lst (puts f xs) = _
    rw [puts_dry f xs (by simpa only [D.dry] using h)]
  | .tup xs, h => by
    show D.tup (puts f xs) = _
    rw [puts_dry f xs (by simpa only [D.dry] using h)]
theorem puts_dry (f : Nat → D) : ∀ ds : List D, drys ds = true → puts f ds = ds
  | [], _ => rfl
  | d :: ds, h => by
    simp only [drys, Bool.and_eq_true] at h
    show d.put f :: puts f ds = _
    rw [put_dry f d h.1, puts_dry f ds h.2]
end
mutual
theorem eq_refl : ∀ d : D, d.dry = true → d.eq d = true
  | .non, _ => rfl
  | .bl b, _ => by simp [D.eq]
  | .int i, _ => by simp [D.eq]
  | .str s, _ => by simp [D.eq]
  | .lst xs, h => by
    show eqs xs xs = true
    exact eqs_refl xs (by simpa only [D.dry] using h)
  | .tup xs, h => by
    show eqs xs xs = true
    exact eqs_refl xs (by simpa only [D.dry] using h)
theorem eqs_refl : ∀ ds : List D, drys ds = true → eqs ds ds = true
  | [], _ => rfl
  | d :: ds, h => by
    simp only [drys, Bool.and_eq_true] at h
    simp only [eqs, eq_refl d h.1, eqs_refl ds h.2, Bool.and_self]
end
theorem dry_de {d : D} {M : Mem} (h : d.dry = true) : deref M d = d := by cases d <;> first | rfl | cases h
theorem res_dry {M : Mem} : ∀ (n : Nat) {d : D}, d.dry = true → res M n d = d
  | 0, _, _ => rfl
  | n + 1, d, h => put_dry _ d h
theorem eqop_dry {x y : D} {M : Mem} (hx : x.dry = true) (hy : y.dry = true) (dx : x.dp 60 = true) (dy : y.dp 60 = true) : eqop x y M = some (x.eq y) := by
  unfold eqop
  rw [dry_de hx, dry_de hy, res_dry 4 hx, res_dry 4 hy, dx, dy]; rfl
theorem eq_same {x : D} {M : Mem} (hx : x.dry = true) (dx : x.dp 60 = true) : cmpop .eq x x M = some true := by
  show eqop x x M = _
  rw [eqop_dry hx hx dx dx, eq_refl x hx]
theorem ne_same {x : D} {M : Mem} (hx : x.dry = true) (dx : x.dp 60 = true) : cmpop .ne x x M = some false := by
  show (eqop x x M).map (!·) = _
  rw [eqop_dry hx hx dx dx, eq_refl x hx]; rfl
theorem drys_map {α : Type} {f : α → D} (h : ∀ a, (f a).dry = true) : ∀ xs : List α, drys (xs.map f) = true
  | [] => rfl
  | x :: xs => by simp only [List.map_cons, drys, h x, drys_map h xs, Bool.and_self]
theorem dps_map {α : Type} {f : α → D} {n : Nat} (h : ∀ a, (f a).dp n = true) : ∀ xs : List α, dps n (xs.map f) = true
  | [] => by cases n <;> rfl
  | x :: xs => by
    have := dps_map h xs
    simp only [List.map_cons, dps, h x, this, Bool.and_self]
/-- one name of a text: so many signs, all of these -/
def isOf (s g : List Nat) : Bool := decide (1 ≤ s.length ∧ s.length ≤ 8) && s.all fun c => decide (c ∈ g)
def abc : List Nat := [97, 98, 99, 100, 101, 102, 103, 104, 105, 106, 107, 108, 109, 110, 111, 112, 113, 114, 115, 116, 117, 118, 119, 120, 121, 122]
/-- a name: of letters -/
def isNm (s : List Nat) : Bool := isOf s abc
end VM
/-! VS2: more for the pure part. -/
namespace VM
section
variable {M : Mem} {i j : Int} {n : Nat}
theorem small_lit : smallI (no_index (OfNat.ofNat n : Int)) = decide (n < 18446744073709551616) := rfl
theorem small_neg : smallI (-i) = smallI i := by unfold smallI; rw [Int.natAbs_neg]
theorem small_mod (h : 0 < j) (h2 : j ≤ 18446744073709551616) : smallI (i % j) = true := by
  have := Int.emod_nonneg i (show j ≠ 0 by omega)
  have := Int.emod_lt_of_pos i h
  exact small_in (by omega) (by omega)
theorem pow_lit {k : Nat} (h1 : i.natAbs < 18446744073709551616) (h2 : k ≤ 1000000) : binop .pow (.int i) (.int (k : Nat)) M = .ok ⟨.f, .int (i ^ k)⟩ M := by
  show (if 0 ≤ (k : Int) ∧ (k : Int) ≤ 1000000 ∧ i.natAbs < 18446744073709551616 then _ else _) = _
  rw [if_pos ⟨by omega, by omega, h1⟩]; rfl
theorem pow_ten {k : Nat} (h : k ≤ 1000000) : binop .pow (.int 10) (.int (k : Nat)) M = .ok ⟨.f, .int (10 ^ k)⟩ M := pow_lit (by decide) h
/-- range(a, b)'s items -/
def rgA (a : Int) (N : Nat) : List D := upTo (fun k => a + (k : Int)) N
theorem rgA_map {a : Int} {N : Nat} : rgA a N = (List.range N).map fun k : Nat => D.int (a + (k : Int)) := rfl
theorem rgA_len {a : Int} {N : Nat} : (rgA a N).length = N := by rw [rgA_map, List.length_map, List.length_range]
theorem rgL_map {N : Nat} : rgL N = (List.range N).map fun k : Nat => D.int (k : Nat) := by
  unfold rgL upTo
  exact List.map_congr_left fun k _ => congrArg D.int (Int.zero_add _)
theorem rng2_ok {a b : Int} (h : -1000000000000 < a ∧ a < 1000000000000) (k : -1000000000000 < b ∧ b < 1000000000000) : rng2 (.int a) (.int b) = some (rgA a (b - a).toNat) := by
  show (if a.natAbs < 2 ^ 60 ∧ b.natAbs < 2 ^ 60 then _ else _) = _
  rw [if_pos ⟨by omega, by omega⟩]; rfl
theorem rngL1_ok {a : Int} (h0 : 0 ≤ a) (h : a < 16777216) : rngL [.int a] = some (rgL a.toNat) := by
  show (match rng1 (.int a) with
    | some xs => if xs.length < line then some xs else none
    | none => none) = _
  rw [rng1_ok h0 (by omega)]
  show (if (rgL a.toNat).length < line then _ else _) = _
  rw [if_pos (by rw [rgL_len]; have : line = 2 ^ 24 := rfl; omega)]
theorem rngL1_neg {a : Int} (h0 : a ≤ 0) (h : -1000000000000 < a) : rngL [.int a] = some [] := by
  have e : rng1 (.int a) = some [] := by
    show (if a.natAbs < 2 ^ 60 then some (upTo (fun k => 0 + (k : Int)) a.toNat) else none) = _
    rw [if_pos (by omega)]
    have : a.toNat = 0 := by omega
    rw [this]; rfl
  show (match rng1 (.int a) with
    | some xs => if xs.length < line then some xs else none
    | none => none) = _
  rw [e]; rfl
theorem rngL2_ok {a b : Int} (h : -1000000000000 < a ∧ a < 1000000000000) (k : -1000000000000 < b ∧ b < 1000000000000) (l : b - a < 16777216) : rngL [.int a, .int b] = some (rgA a (b - a).toNat) := by
  show (match rng2 (.int a) (.int b) with
    | some xs => if xs.length < line then some xs else none
    | none => none) = _
  rw [rng2_ok h k]
  show (if (rgA a (b - a).toNat).length < line then _ else _) = _
  rw [if_pos (by rw [rgA_len]; have : line = 2 ^ 24 := rfl; omega)]
theorem max_two : pf .max [.int i, .int j] M = .ok ⟨.f, .int (max i j)⟩ M := by
  show ok1 (.int (if j > i then j else i)) M = _
  have : (if j > i then j else i) = max i j := by split <;> omega
  rw [this]; rfl
theorem min_two : pf .min [.int i, .int j] M = .ok ⟨.f, .int (min i j)⟩ M := by
  show ok1 (.int (if j < i then j else i)) M = _
  have : (if j < i then j else i) = min i j := by split <;> omega
  rw [this]; rfl
theorem ix_nat {xs : List D} {k : Nat} {d : D} (h : xs[k]? = some d) : index (.lst xs) (.int (k : Nat)) M = .ok ⟨.f, d⟩ M := by
  show okO (at? xs (k : Int)) M = _
  rw [at_nat, h]; rfl
theorem lst_map {α : Type} {f g : α → D} {c : Mem → Bool} {F : D → Mem → Rs (Option D)} {xs : List α} (hc : c M = true) (h : ∀ x ∈ xs, F (f x) M = .ok (some (g x)) M) : lcL c F (xs.map f) M = .ok (xs.map g) M := lcL_mapF hc h
theorem lst_filter {α : Type} {f g : α → D} {p : α → Bool} {c : Mem → Bool} {F : D → Mem → Rs (Option D)} (hc : c M = true) : ∀ {xs : List α}, (∀ x ∈ xs, F (f x) M = .ok (if p x then some (g x) else none) M) → lcL c F (xs.map f) M = .ok ((xs.filter p).map g) M
  | [], _ => by simp only [List.map_nil, lcL, hc, if_true]; rfl
  | x :: xs, h => by
    simp only [List.map_cons, lcL, hc, if_true, h x List.mem_cons_self, bind_ok, lst_filter hc fun y hy => h y (List.mem_cons_of_mem _ hy)]
    by_cases k : p x = true
    · simp [k]
    · simp [k]
theorem it_lst {xs : List D} : items (.lst xs) M = some xs := rfl
theorem it_tup {xs : List D} : items (.tup xs) M = some xs := rfl
theorem it_scr {xs : List D} : items (.scr xs) M = some xs := rfl
theorem it_c {xs : List D} {q : Nat} (h : M[q]? = some (.lst xs)) : items (.cell q) M = some xs := by unfold items; rw [deref_cell h]
theorem st_c {xs : List D} {q : Nat} (h : M[q]? = some (.lst xs)) : still (.cell q) xs M = true := still_c (it_c h)
theorem noO_nil {σ : List SV} : noO [] σ = true := rfl
/-- equal: data, with shared lists read -/
theorem eq_cd {x : D} {q : Nat} (h : M[q]? = some x) (d : x.dry = true) (p : x.dp 60 = true) : cmpop .eq x (.cell q) M = some true := by
  show eqop _ _ M = _
  unfold eqop
  rw [deref_cell h, dry_de d, res_dry 4 d, p, eq_refl _ d]; rfl
theorem ints_dry (xs : List Int) : (D.lst (xs.map D.int)).dry = true := drys_map (f := D.int) (fun _ => rfl) xs
theorem ints_dp (xs : List Int) : (D.lst (xs.map D.int)).dp 60 = true := dps_map (f := D.int) (n := 59) (fun _ => rfl) xs
/-! sorted(set(..)) -/
theorem keysOf_ints : ∀ {xs : List Int}, keysOf (xs.map D.int) = some (xs.map Key.i)
  | [] => rfl
  | x :: xs => by
    show (match keyOf (.int x), keysOf (xs.map D.int) with
      | some k, some ks => some (k :: ks)
      | _, _ => none) = _
    rw [keysOf_ints]; rfl
theorem keysOf_strs : ∀ {xs : List (List Nat)}, keysOf (xs.map D.str) = some (xs.map Key.s)
  | [] => rfl
  | x :: xs => by
    show (match keyOf (.str x), keysOf (xs.map D.str) with
      | some k, some ks => some (k :: ks)
      | _, _ => none) = _
    rw [keysOf_strs]; rfl
def dedI : List Int → List Int
  | [] => []
  | k :: r => if k ∈ r then dedI r else k :: dedI r
theorem dedup_i : ∀ {xs : List Int}, dedup (xs.map Key.i) = (dedI xs).map Key.i
  | [] => rfl
  | x :: xs => by
    show (if Key.i x ∈ xs.map Key.i then dedup (xs.map Key.i) else Key.i x :: dedup (xs.map Key.i)) = (if x ∈ xs then dedI xs else x :: dedI xs).map Key.i
    rw [dedup_i]
    have e : Key.i x ∈ xs.map Key.i ↔ x ∈ xs := by simp
    by_cases h : x ∈ xs
    · rw [if_pos (e.mpr h), if_pos h]
    · rw [if_neg (fun z => h (e.mp z)), if_neg h]; rfl
theorem dedI_mem {x : Int} : ∀ {xs : List Int}, x ∈ dedI xs ↔ x ∈ xs
  | [] => Iff.rfl
  | y :: xs => by
    unfold dedI
    split
    · rename_i h
      rw [dedI_mem (xs := xs), List.mem_cons]
      exact ⟨.inr, fun k => k.elim (fun e => e ▸ h) id⟩
    · rw [List.mem_cons, List.mem_cons, dedI_mem (xs := xs)]
theorem dedI_nodup : ∀ (xs : List Int), (dedI xs).Nodup
  | [] => .nil
  | y :: xs => by
    unfold dedI
    split
    · exact dedI_nodup xs
    · rename_i h
      exact List.nodup_cons.mpr ⟨fun z => h (dedI_mem.mp z), dedI_nodup xs⟩
theorem dedI_len : ∀ (xs : List Int), (dedI xs).length ≤ xs.length
  | [] => Nat.le_refl _
  | y :: xs => by
    have := dedI_len xs
    unfold dedI
    split
    · simp only [List.length_cons]; omega
    · simp only [List.length_cons]; omega
theorem sortD_ints (xs : List Int) : sortD (xs.map D.int) = some ((sortI xs).map D.int) := by
  have ins : ∀ (x : Int) (r : List Int), insD (.int x) (r.map D.int) = (insI x r).map D.int := fun x r => by
    induction r with
    | nil => rfl
    | cons y r ih =>
      show (if (D.int y).lt (.int x) then D.int y :: insD (.int x) (r.map D.int) else D.int x :: D.int y :: r.map D.int) = (if x ≤ y then x :: y :: r else y :: insI x r).map D.int
      rw [ih]
      by_cases h : y < x
      · have h1 : (D.int y).lt (.int x) = true := decide_eq_true h
        rw [if_pos h1, if_neg (by omega)]; rfl
      · have h1 : (D.int y).lt (.int x) = false := decide_eq_false h
        rw [h1, if_neg Bool.false_ne_true, if_pos (by omega)]; rfl
  have so : ∀ xs : List Int, sortDs (xs.map D.int) = (sortI xs).map D.int := fun xs => by
    induction xs with
    | nil => rfl
    | cons x r ih =>
      show insD (.int x) (sortDs (r.map D.int)) = _
      rw [ih, ins]; rfl
  cases xs with
  | nil => rfl
  | cons x r =>
    show (if ((shp (D.int x)).isSome && shp (D.int x) != some [0]) && (r.map D.int).all (fun y => decide (shp y = shp (D.int x))) then some (sortDs ((x :: r).map D.int)) else none) = _
    have : (r.map D.int).all (fun y => decide (shp y = shp (D.int x))) = true := by
      rw [List.all_eq_true]
      intro y hy
      obtain ⟨z, _, rfl⟩ := List.mem_map.mp hy
      exact decide_eq_true rfl
    rw [this, so]; rfl
theorem sset_ints {xs : List Int} {d : D} (h : lstOf d M = some (xs.map D.int)) (hl : xs.length < 4000) (h64 : (dedI xs).length < 64) : prim .sset [d] M = .ok ⟨.n, .lst ((sortI (dedI xs)).map D.int)⟩ M := by
  show (match (lstOf d M).bind keysOf with
    | some ks => if ks.length < 4000 ∧ (dedup ks).length < 64 then okLs (sortD ((dedup ks).map kD)) M else .stk
    | none => .stk) = _
  rw [h]
  simp only [Option.bind, keysOf_ints]
  rw [dedup_i, if_pos ⟨by rw [List.length_map]; exact hl, by rw [List.length_map]; exact h64⟩, List.map_map]
  have : (dedI xs).map (kD ∘ Key.i) = (dedI xs).map D.int := rfl
  rw [this, sortD_ints]; rfl
/-- the rising row with just these -/
theorem sort_is {xs ys : List Int} (h : ∀ x, x ∈ xs ↔ x ∈ ys) (hy : ys.Pairwise (· < ·)) : sortI (dedI xs) = ys := by
  refine sorted_one (xs := sortI (dedI xs)) (ys := ys) ?_ (sortI_sorted _) (hy.imp fun h => Int.le_of_lt h)
  refine (sortI_perm _).trans ((List.perm_ext_iff_of_nodup (dedI_nodup _) (hy.imp fun h => by omega)).mpr fun x => ?_)
  rw [dedI_mem]; exact h x
end
end VM
namespace VM.K
open PySem
/- 0 is_whole: 0=thing -/
def c_is_whole : C := (.seq (.ret (.and (.isi (.v 0) .int) (.not (.isi (.v 0) .bool)))) .nop)
abbrev n_is_whole : Nat := 0
/- 1 is_among: 0=thing 1=least 2=most -/
def c_is_among : C := (.seq (.ret (.and (.call 0 (.cons (.v 0) .nil)) (.chn .le .le (.v 1) (.v 0) (.v 2)))) .nop)
abbrev n_is_among : Nat := 1
/- 8 are_figures: 0=text 1=sign -/
def c_are_figures : C := (.seq (.ret (.and (.cmp .ne (.v 0) (.c (.str []))) (.bf .all (.cons (.lci .sgn [1] (.n 1) (.cons (.v 0) .nil) .nil (.cmp .isin (.v 1) (.g 5))) .nil)))) .nop)
abbrev n_are_figures : Nat := 8
/- 14 need_month: 0=thing -/
def c_need_month : C := (.seq (.ite (.not (.call 1 (.cons (.v 0) (.cons (.c (.int 0)) (.cons (.bin .sub (.bin .add (.bin .mul (.g 8) (.g 7)) (.g 8)) (.c (.int 1))) .nil))))) (.seq (.rai 4) .nop) .nop) .nop)
abbrev n_need_month : Nat := 14
/- 15 need_year: 0=thing -/
def c_need_year : C := (.seq (.ite (.not (.call 1 (.cons (.v 0) (.cons (.c (.int 0)) (.cons (.g 7) .nil))))) (.seq (.rai 5) .nop) .nop) .nop)
abbrev n_need_year : Nat := 15
/- 16 month_text: 0=month 1=year 2=place -/
def c_month_text : C := (.seq (.exp (.call 14 (.cons (.v 0) .nil))) (.seq (.setT (.t (.cons (.n 1) (.cons (.n 2) .nil))) (.bf .divmod (.cons (.v 0) (.cons (.g 8) .nil)))) (.seq (.ret (.fs (.cons (.pm (.tm .zf) (.pr .str1 (.cons (.v 1) .nil)) (.cons (.c (.int 4)) .nil)) (.cons (.c (.str [45])) (.cons (.pm (.tm .zf) (.pr .str1 (.cons (.bin .add (.v 2) (.c (.int 1))) .nil)) (.cons (.c (.int 2)) .nil)) .nil))))) .nop)))
abbrev n_month_text : Nat := 16
/- 17 read_month: 0=text -/
def c_read_month : C := (.seq (.ite (.or (.not (.isi (.v 0) .str)) (.or (.cmp .ne (.bf .len (.cons (.v 0) .nil)) (.c (.int 7))) (.or (.cmp .ne (.ix (.v 0) (.c (.int 4))) (.c (.str [45]))) (.not (.call 8 (.cons (.bin .add (.pr (.sl false true) (.cons (.v 0) (.cons (.c (.int 4)) .nil))) (.pr (.sl true false) (.cons (.v 0) (.cons (.c (.int 5)) .nil)))) .nil)))))) (.seq (.rai 3) .nop) .nop) (.seq (.ite (.not (.chn .le .le (.c (.int 1)) (.bf .int (.cons (.pr (.sl true false) (.cons (.v 0) (.cons (.c (.int 5)) .nil))) .nil)) (.g 8))) (.seq (.rai 3) .nop) .nop) (.seq (.ret (.bin .sub (.bin .add (.bin .mul (.g 8) (.bf .int (.cons (.pr (.sl false true) (.cons (.v 0) (.cons (.c (.int 4)) .nil))) .nil))) (.bf .int (.cons (.pr (.sl true false) (.cons (.v 0) (.cons (.c (.int 5)) .nil))) .nil))) (.c (.int 1)))) .nop)))
abbrev n_read_month : Nat := 17
/- 18 year_of: 0=month -/
def c_year_of : C := (.seq (.exp (.call 14 (.cons (.v 0) .nil))) (.seq (.ret (.bin .fdiv (.v 0) (.g 8))) .nop))
abbrev n_year_of : Nat := 18
/- 19 place_of: 0=month -/
def c_place_of : C := (.seq (.exp (.call 14 (.cons (.v 0) .nil))) (.seq (.ret (.bin .add (.bin .mod (.v 0) (.g 8)) (.c (.int 1)))) .nop))
abbrev n_place_of : Nat := 19
/- 20 months_of: 0=year -/
def c_months_of : C := (.seq (.exp (.call 15 (.cons (.v 0) .nil))) (.seq (.ret (.rgl (.bin .mul (.g 8) (.v 0)) (.bin .add (.bin .mul (.g 8) (.v 0)) (.g 8)))) .nop))
abbrev n_months_of : Nat := 20
/- 140 _law_cell: 0=_law_script 1=_law_k -/
def c__law_cell : C := (.seq (.ite (.cmp .lt (.v 1) (.bf .len (.cons (.v 0) .nil))) (.seq (.ret (.ix (.v 0) (.v 1))) .nop) .nop) (.seq (.ret (.c (.int 0))) .nop))
abbrev n__law_cell : Nat := 140
/- 142 _law_mixed: 0=_law_script 1=_law_k -/
def c__law_mixed_v0 : C := (.seq (.ret (.bin .mod (.bin .mul (.bin .mod (.bin .add (.bin .add (.bin .mul (.call 140 (.cons (.v 0) (.cons (.v 1) .nil))) (.c (.int 48271))) (.bin .mul (.bin .mul (.bin .mul (.c (.int 7919)) (.v 1)) (.v 1)) (.v 1))) (.c (.int 104729))) (.c (.int 2147483647))) (.c (.int 16807))) (.c (.int 2147483629)))) .nop)
abbrev n__law_mixed_v0 : Nat := 142
/- 138 _law_whole: 0=_law_found -/
def c__law_whole : C := (.seq (.ret (.and (.isi (.v 0) .int) (.not (.isi (.v 0) .bool)))) .nop)
abbrev n__law_whole : Nat := 138
/- 212 _law_month: 0=_law_number -/
def c__law_month_v0 : C := (.seq (.ret (.ix (.lst (.cons (.bin .mod (.bin .fdiv (.v 0) (.c (.int 3))) (.c (.int 120000))) (.cons (.bin .mod (.bin .fdiv (.v 0) (.c (.int 3))) (.c (.int 24))) (.cons (.bin .sub (.c (.int 119999)) (.bin .mod (.bin .fdiv (.v 0) (.c (.int 3))) (.c (.int 24)))) .nil)))) (.bin .mod (.v 0) (.c (.int 3))))) .nop)
abbrev n__law_month_v0 : Nat := 212
/- 213 _law_month_text: 0=_law_month_here 1=_law_year 2=_law_place -/
def c__law_month_text_v0 : C := (.seq (.set .f 1 (.bin .add (.c (.str [48, 48, 48])) (.pr .str1 (.cons (.bin .fdiv (.v 0) (.c (.int 12))) .nil)))) (.seq (.set .f 2 (.bin .add (.c (.str [48])) (.pr .str1 (.cons (.bin .add (.bin .mod (.v 0) (.c (.int 12))) (.c (.int 1))) .nil)))) (.seq (.ret (.bin .add (.bin .add (.pr (.sl true false) (.cons (.v 1) (.cons (.neg (.c (.int 4))) .nil))) (.c (.str [45]))) (.pr (.sl true false) (.cons (.v 2) (.cons (.neg (.c (.int 2))) .nil))))) .nop)))
abbrev n__law_month_text_v0 : Nat := 213
/- 179 _law_read_month: 0=_law_text 1=_law_figures 2=_law_sign -/
def c__law_read_month : C := (.seq (.set .f 1 (.bin .add (.pr (.sl false true) (.cons (.v 0) (.cons (.c (.int 4)) .nil))) (.pr (.sl true false) (.cons (.v 0) (.cons (.c (.int 5)) .nil))))) (.seq (.ite (.or (.cmp .ne (.bf .len (.cons (.v 0) .nil)) (.c (.int 7))) (.or (.cmp .ne (.ix (.v 0) (.c (.int 4))) (.c (.str [45]))) (.cmp .ne (.lci .sgn [2] (.n 2) (.cons (.v 1) .nil) (.cmp .notin (.v 2) (.c (.str [48, 49, 50, 51, 52, 53, 54, 55, 56, 57]))) (.v 2)) (.lst .nil)))) (.seq (.ret (.c .non)) .nop) .nop) (.seq (.ite (.pr (.inr true) (.cons (.bf .int (.cons (.pr (.sl true false) (.cons (.v 0) (.cons (.c (.int 5)) .nil))) .nil)) (.cons (.c (.int 1)) (.cons (.c (.int 13)) .nil)))) (.seq (.ret (.c .non)) .nop) .nop) (.seq (.ret (.bin .sub (.bin .add (.bin .mul (.c (.int 12)) (.bf .int (.cons (.pr (.sl false true) (.cons (.v 0) (.cons (.c (.int 4)) .nil))) .nil))) (.bf .int (.cons (.pr (.sl true false) (.cons (.v 0) (.cons (.c (.int 5)) .nil))) .nil))) (.c (.int 1)))) .nop))))
abbrev n__law_read_month : Nat := 179
/- 214 _law_bent: 0=_law_text 1=_law_number 2=_law_more 3=_law_sign 4=_law_at 5=_law_way 6=_law_others -/
def c__law_bent_v1 : C := (.seq (.set .f 2 (.bin .fdiv (.v 1) (.c (.int 70)))) (.seq (.set .f 3 (.ix (.c (.str [48, 49, 50, 51, 52, 53, 54, 55, 56, 57, 45, 32, 47, 43, 46, 95])) (.bin .mod (.v 2) (.c (.int 16))))) (.seq (.set .f 4 (.bin .mod (.bin .fdiv (.v 2) (.c (.int 16))) (.bin .add (.bf .len (.cons (.v 0) .nil)) (.c (.int 1))))) (.seq (.set .f 5 (.bin .mod (.v 1) (.c (.int 7)))) (.seq (.ite (.cmp .lt (.v 5) (.c (.int 2))) (.seq (.ret (.bin .add (.bin .add (.pr (.sl false true) (.cons (.v 0) (.cons (.v 4) .nil))) (.v 3)) (.pr (.sl true false) (.cons (.v 0) (.cons (.v 4) .nil))))) .nop) .nop) (.seq (.ite (.cmp .lt (.v 5) (.c (.int 4))) (.seq (.ret (.bin .add (.pr (.sl false true) (.cons (.v 0) (.cons (.v 4) .nil))) (.pr (.sl true false) (.cons (.v 0) (.cons (.bin .add (.v 4) (.c (.int 1))) .nil))))) .nop) .nop) (.seq (.ite (.cmp .lt (.v 5) (.c (.int 6))) (.seq (.ret (.bin .add (.bin .add (.pr (.sl false true) (.cons (.v 0) (.cons (.v 4) .nil))) (.v 3)) (.pr (.sl true false) (.cons (.v 0) (.cons (.bin .add (.v 4) (.c (.int 1))) .nil))))) .nop) .nop) (.seq (.set .f 6 (.lst (.cons (.c (.str [50, 48, 51, 49, 45, 48, 48])) (.cons (.c (.str [50, 48, 51, 49, 45, 49, 51])) (.cons (.c (.str [50, 48, 51, 49, 45, 49])) (.cons (.c (.str [51, 49, 45, 48, 52])) (.cons (.c (.str [50, 48, 51, 49, 47, 48, 52])) (.cons (.c (.str [50, 48, 51, 49, 49, 45, 48, 52])) (.cons (.c (.str [50, 48, 51, 49, 45, 48, 48, 52])) (.cons (.c (.str [45, 48, 51, 49, 45, 48, 52])) (.cons (.c (.str [50, 48, 51, 49, 45, 45, 52])) (.cons (.c (.str [])) .nil)))))))))))) (.seq (.ret (.ix (.bin .add (.v 6) (.lst (.cons (.c (.str [50, 48, 51, 49, 45, 32, 52])) (.cons (.c (.str [32, 48, 51, 49, 45, 48, 52])) (.cons (.c (.str [50, 48, 51, 49, 45, 52, 32])) (.cons (.c (.str [48, 48, 48, 48, 45, 48, 49])) (.cons (.c (.str [57, 57, 57, 57, 45, 49, 50])) (.cons (.c (.str [50, 48, 51, 49, 48, 52])) .nil)))))))) (.bin .mod (.v 2) (.c (.int 16))))) .nop)))))))))
abbrev n__law_bent_v1 : Nat := 214
/- 163 _law_kind: 0=_law_e 1=_law_found 2=_law_word 3=_law_fits -/
def c__law_kind_v1 : C := (.seq (.set .f 1 (.lst (.cons (.tup (.cons (.c (.str [97, 109, 111, 117, 110, 116])) (.cons (.isi (.v 0) (.cls 1)) .nil))) (.cons (.tup (.cons (.c (.str [115, 104, 97, 114, 101])) (.cons (.isi (.v 0) (.cls 2)) .nil))) (.cons (.tup (.cons (.c (.str [116, 101, 120, 116])) (.cons (.isi (.v 0) (.cls 3)) .nil))) .nil))))) (.seq (.set .f 1 (.bin .add (.v 1) (.lst (.cons (.tup (.cons (.c (.str [109, 111, 110, 116, 104])) (.cons (.isi (.v 0) (.cls 4)) .nil))) (.cons (.tup (.cons (.c (.str [121, 101, 97, 114])) (.cons (.isi (.v 0) (.cls 5)) .nil))) .nil))))) (.seq (.set .f 1 (.bin .add (.v 1) (.lst (.cons (.tup (.cons (.c (.str [114, 117, 108, 101])) (.cons (.isi (.v 0) (.cls 6)) .nil))) (.cons (.tup (.cons (.c (.str [98, 111, 111, 107])) (.cons (.isi (.v 0) (.cls 7)) .nil))) .nil))))) (.seq (.set .f 1 (.bin .add (.v 1) (.lst (.cons (.tup (.cons (.c (.str [110, 111, 121, 101, 97, 114])) (.cons (.isi (.v 0) (.cls 8)) .nil))) (.cons (.tup (.cons (.c (.str [100, 97, 121])) (.cons (.isi (.v 0) (.cls 9)) .nil))) .nil))))) (.seq (.set .f 1 (.bin .add (.v 1) (.lst (.cons (.tup (.cons (.c (.str [101, 110, 116, 114, 121])) (.cons (.isi (.v 0) (.cls 10)) .nil))) (.cons (.tup (.cons (.c (.str [110, 111, 109, 97, 114, 107])) (.cons (.isi (.v 0) (.cls 11)) .nil))) .nil))))) (.seq (.set .f 1 (.bin .add (.v 1) (.lst (.cons (.tup (.cons (.c (.str [110, 111, 112, 101, 114, 115, 111, 110])) (.cons (.isi (.v 0) (.cls 12)) .nil))) (.cons (.tup (.cons (.c (.str [109, 97, 110, 121])) (.cons (.isi (.v 0) (.cls 13)) .nil))) .nil))))) (.seq (.set .f 1 (.bin .add (.v 1) (.lst (.cons (.tup (.cons (.c (.str [99, 108, 111, 115, 101])) (.cons (.isi (.v 0) (.cls 14)) .nil))) (.cons (.tup (.cons (.c (.str [108, 105, 110, 101])) (.cons (.isi (.v 0) (.cls 15)) .nil))) .nil))))) (.seq (.ret (.bin .add (.lc [2, 3] (.t (.cons (.n 2) (.cons (.n 3) .nil))) (.v 1) (.v 3) (.v 2)) (.bin .mul (.lst (.cons (.c (.str [118, 97, 108, 117, 101])) .nil)) (.bf .int (.cons (.isi (.v 0) .valueError) .nil))))) .nop))))))))
abbrev n__law_kind_v1 : Nat := 163
/- 215 _law_tried: 0=_law_which 1=_law_thing 2=_law_e -/
def c__law_tried_v2 : C := (.seq (.try (.seq (.ite (.cmp .lt (.v 0) (.c (.int 4))) (.seq (.ret (.lst (.cons (.cv [14, 16, 18, 19] (.ix (.lst (.cons (.gf 14) (.cons (.gf 16) (.cons (.gf 18) (.cons (.gf 19) .nil))))) (.v 0)) (.cons (.v 1) .nil)) .nil))) .nop) .nop) (.seq (.ite (.cmp .lt (.v 0) (.c (.int 6))) (.seq (.ret (.lst (.cons (.cv [15, 20] (.ix (.lst (.cons (.gf 15) (.cons (.gf 20) .nil))) (.bin .sub (.v 0) (.c (.int 4)))) (.cons (.v 1) .nil)) .nil))) .nop) .nop) (.seq (.ret (.lst (.cons (.call 17 (.cons (.v 1) .nil)) .nil))) .nop))) (.hnd 0 (some 2) (.seq (.ret (.call 163 (.cons (.v 2) .nil))) .nop) .nop)) .nop)
abbrev n__law_tried_v2 : Nat := 215
/- 216 _law_refused: 0=_law_number 1=_law_months 2=_law_years 3=_law_which -/
def b__law_refused_v2_1 : C := (.seq (.ite (.cmp .ne (.call 215 (.cons (.v 3) (.cons (.ix (.v 2) (.bin .mod (.bin .fdiv (.v 0) (.c (.int 10))) (.c (.int 10)))) .nil))) (.lst (.cons (.c (.str [121, 101, 97, 114])) (.cons (.c (.str [118, 97, 108, 117, 101])) .nil)))) (.seq (.ret (.c (.bl false))) .nop) .nop) .nop)
def b__law_refused_v2_0 : C := (.seq (.ite (.cmp .ne (.call 215 (.cons (.v 3) (.cons (.ix (.v 1) (.bin .mod (.v 0) (.c (.int 10)))) .nil))) (.lst (.cons (.c (.str [109, 111, 110, 116, 104])) (.cons (.c (.str [118, 97, 108, 117, 101])) .nil)))) (.seq (.ret (.c (.bl false))) .nop) .nop) .nop)
def c__law_refused_v2 : C := (.seq (.set .f 1 (.lst (.cons (.neg (.c (.int 1))) (.cons (.c (.int 120000)) (.cons (.c (.bl true)) (.cons (.c .non) (.cons (.c (.str [48])) (.cons (.lst (.cons (.c (.int 0)) .nil)) (.cons (.bin .add (.c (.int 120000)) (.v 0)) (.cons (.bin .sub (.neg (.c (.int 1))) (.v 0)) (.cons (.c (.bl false)) (.cons (.c (.str [50, 48, 51, 49, 45, 48, 52])) .nil)))))))))))) (.seq (.set .f 2 (.lst (.cons (.neg (.c (.int 1))) (.cons (.c (.int 10000)) (.cons (.c (.bl true)) (.cons (.c .non) (.cons (.c (.str [48])) (.cons (.lst (.cons (.c (.int 0)) .nil)) (.cons (.bin .add (.c (.int 10000)) (.v 0)) (.cons (.bin .sub (.neg (.c (.int 1))) (.v 0)) (.cons (.c (.bl false)) (.cons (.c (.str [50, 48, 51, 49])) .nil)))))))))))) (.seq (.for (.n 3) (.r1 (.c (.int 4))) b__law_refused_v2_0) (.seq (.for (.n 3) (.e (.tup (.cons (.c (.int 4)) (.cons (.c (.int 5)) .nil)))) b__law_refused_v2_1) (.seq (.ret (.cmp .eq (.call 215 (.cons (.c (.int 6)) (.cons (.ix (.lst (.cons (.c .non) (.cons (.c (.int 5)) (.cons (.c (.bl true)) (.cons (.lst (.cons (.c (.str [50, 48, 51, 49, 45, 48, 52])) .nil)) (.cons (.c (.int 24376)) (.cons .dct0 .nil))))))) (.bin .mod (.bin .fdiv (.v 0) (.c (.int 100))) (.c (.int 6)))) .nil))) (.lst (.cons (.c (.str [116, 101, 120, 116])) (.cons (.c (.str [118, 97, 108, 117, 101])) .nil))))) .nop)))))
abbrev n__law_refused_v2 : Nat := 216
/- 217 _law_read_fits: 0=_law_text 1=_law_due 2=_law_found -/
def c__law_read_fits_v1 : C := (.seq (.set .f 1 (.call 179 (.cons (.v 0) .nil))) (.seq (.set .f 2 (.call 215 (.cons (.c (.int 6)) (.cons (.v 0) .nil)))) (.seq (.ite (.cmp .is (.v 1) (.c .non)) (.seq (.ret (.cmp .eq (.v 2) (.lst (.cons (.c (.str [116, 101, 120, 116])) (.cons (.c (.str [118, 97, 108, 117, 101])) .nil))))) .nop) .nop) (.seq (.ret (.and (.cmp .eq (.v 2) (.lst (.cons (.v 1) .nil))) (.call 138 (.cons (.ix (.v 2) (.c (.int 0))) .nil)))) .nop))))
abbrev n__law_read_fits_v1 : Nat := 217
/- 218 law: 0=_law_script 1=_law_month_here 2=_law_text 3=_law_year 4=_law_found 5=_law_due 6=_law_k 7=_law_one -/
def c_law : C := (.seq (.set .f 1 (.call 212 (.cons (.call 142 (.cons (.v 0) (.cons (.c (.int 0)) .nil))) .nil))) (.seq (.set .f 2 (.call 16 (.cons (.v 1) .nil))) (.seq (.ite (.or (.cmp .isn (.call 14 (.cons (.v 1) .nil)) (.c .non)) (.or (.not (.isi (.v 2) .str)) (.cmp .ne (.v 2) (.call 213 (.cons (.v 1) .nil))))) (.seq (.ret (.c (.bl false))) .nop) .nop) (.seq (.ite (.or (.not (.call 138 (.cons (.call 18 (.cons (.v 1) .nil)) .nil))) (.cmp .ne (.call 18 (.cons (.v 1) .nil)) (.bin .fdiv (.v 1) (.c (.int 12))))) (.seq (.ret (.c (.bl false))) .nop) .nop) (.seq (.ite (.or (.not (.call 138 (.cons (.call 19 (.cons (.v 1) .nil)) .nil))) (.cmp .ne (.call 19 (.cons (.v 1) .nil)) (.bin .add (.bin .sub (.v 1) (.bin .mul (.bin .fdiv (.v 1) (.c (.int 12))) (.c (.int 12)))) (.c (.int 1))))) (.seq (.ret (.c (.bl false))) .nop) .nop) (.seq (.ite (.or (.not (.call 217 (.cons (.v 2) .nil))) (.not (.call 217 (.cons (.call 214 (.cons (.v 2) (.cons (.call 142 (.cons (.v 0) (.cons (.c (.int 1)) .nil))) .nil))) .nil)))) (.seq (.ret (.c (.bl false))) .nop) .nop) (.seq (.ite (.not (.call 217 (.cons (.call 214 (.cons (.call 213 (.cons (.call 212 (.cons (.call 142 (.cons (.v 0) (.cons (.c (.int 2)) .nil))) .nil)) .nil)) (.cons (.call 142 (.cons (.v 0) (.cons (.c (.int 3)) .nil))) .nil))) .nil))) (.seq (.ret (.c (.bl false))) .nop) .nop) (.seq (.set .f 3 (.bin .fdiv (.call 212 (.cons (.call 142 (.cons (.v 0) (.cons (.c (.int 4)) .nil))) .nil)) (.c (.int 12)))) (.seq (.set .o 4 (.call 20 (.cons (.v 3) .nil))) (.seq (.set .f 5 (.lcr [6] (.n 6) (.cons (.c (.int 12)) .nil) .nil (.bin .add (.bin .mul (.c (.int 12)) (.v 3)) (.v 6)))) (.seq (.ite (.or (.cmp .isn (.call 15 (.cons (.v 3) .nil)) (.c .non)) (.or (.not (.isi (.v 4) .list)) (.cmp .ne (.v 4) (.v 5)))) (.seq (.ret (.c (.bl false))) .nop) .nop) (.seq (.ite (.not (.bf .all (.cons (.lc [7] (.n 7) (.v 4) .nil (.call 138 (.cons (.v 7) .nil))) .nil))) (.seq (.ret (.c (.bl false))) .nop) .nop) (.seq (.mutO .pop 4 (.cons (.c (.int 0)) .nil)) (.seq (.ret (.and (.cmp .eq (.call 20 (.cons (.v 3) .nil)) (.v 5)) (.and (.cmp .eq (.bf .len (.cons (.v 4) .nil)) (.c (.int 11))) (.call 216 (.cons (.call 142 (.cons (.v 0) (.cons (.c (.int 5)) .nil))) .nil))))) .nop))))))))))))))
abbrev n_law : Nat := 218
def tab : Tab := ⟨[none, some 0, some 0, some 0, some 0, some 0, some 0, some 0, some 0, some 0, some 0, some 0, some 0, some 0, some 0, some 0], [.non, .non, .non, .non, .non, (.str [48, 49, 50, 51, 52, 53, 54, 55, 56, 57]), .non, (.int 9999), (.int 12), .non, .non, .non, .non, .non, .non, .non, .non, .non, .non, .non, .non, .non, .non, .non, .non, .non, .non, .non, .non, .non, .non, .non, .non, .non], [none, some 0, some 0, some 2, some 2, some 0, some 0, none, none, none, none], [(0, 1, 29), (0, 2, 30), (0, 3, 31), (1, 1, 33), (1, 2, 30), (1, 3, 34), (2, 1, 37), (2, 2, 30), (2, 3, 38), (2, 4, 36), (3, 1, 37), (3, 2, 30), (3, 3, 41), (3, 4, 40), (4, 1, 43), (4, 2, 30), (4, 3, 44), (4, 4, 36), (5, 1, 48), (5, 2, 30), (5, 3, 49), (6, 1, 53), (6, 2, 30), (6, 3, 54), (7, 5, 62), (7, 6, 63), (7, 7, 64), (7, 8, 65), (8, 5, 82), (8, 9, 80), (8, 10, 81), (8, 11, 83), (8, 12, 84), (8, 13, 85), (8, 14, 86), (8, 15, 87), (9, 16, 94), (9, 17, 95), (9, 18, 96), (9, 19, 97), (9, 20, 98), (10, 5, 113), (10, 6, 112), (10, 16, 120), (10, 18, 123), (10, 21, 114), (10, 22, 115), (10, 23, 116), (10, 24, 117), (10, 25, 118), (10, 26, 119), (10, 27, 121), (10, 28, 122), (10, 29, 124)], [28, 32, 35, 39, 42, 47, 52, 61, 79, 93, 111], [true, true, true, true, true, true, true, true, true, true, true, true, true, true, true, true], [true, true, false, false, false, false, false, false, true, false, false, false, false, false, true, true, true, true, true, true, true, false, false, false, false, false, false, false, false, false, false, false, false, false, false, false, false, false, false, false, false, false, false, false, false, false, false, false, false, false, false, false, false, false, false, false, false, false, false, false, false, false, false, false, false, false, false, false, false, false, false, false, false, false, false, false, false, false, false, false, false, false, false, false, false, false, false, false, false, false, false, false, false, false, false, false, false, false, false, false, false, false, false, false, false, false, false, false, false, false, false, false, false, false, false, false, false, false, false, false, false, false, false, false, false, false, false, false, false, false, false, false, false, false, false, false, false]⟩
def top (i : Nat) : Stmt := (PySem.Challenge.rw_coinroll_k04_months_told).prog.main.body.getD i (.Pass ⟨0, 0, 0, 0⟩)
def mth (i j : Nat) : Stmt := match top i with
  | .ClassDef _ _ _ body _ _ _ _ _ _ _ => body.getD j (.Pass ⟨0, 0, 0, 0⟩)
  | _ => .Pass ⟨0, 0, 0, 0⟩
def ph : Fn × C := (⟨"", none, [], [], .Pass ⟨0, 0, 0, 0⟩, false⟩, .ret .nil)
def fs : List (Fn × C) := (⟨"is_whole", none, ["thing"], ["thing"], top 19, false⟩, c_is_whole) ::
  (⟨"is_among", none, ["thing", "least", "most"], ["thing", "least", "most"], top 20, false⟩, c_is_among) ::
  ph ::
  ph ::
  ph ::
  ph ::
  ph ::
  ph ::
  (⟨"are_figures", none, ["text", "sign"], ["text"], top 22, false⟩, c_are_figures) ::
  ph ::
  ph ::
  ph ::
  ph ::
  ph ::
  (⟨"need_month", none, ["thing"], ["thing"], top 26, false⟩, c_need_month) ::
  (⟨"need_year", none, ["thing"], ["thing"], top 27, false⟩, c_need_year) ::
  (⟨"month_text", none, ["month", "year", "place"], ["month"], top 28, false⟩, c_month_text) ::
  (⟨"read_month", none, ["text"], ["text"], top 29, false⟩, c_read_month) ::
  (⟨"year_of", none, ["month"], ["month"], top 30, false⟩, c_year_of) ::
  (⟨"place_of", none, ["month"], ["month"], top 31, false⟩, c_place_of) ::
  (⟨"months_of", none, ["year"], ["year"], top 32, false⟩, c_months_of) ::
  ph ::
  ph ::
  ph ::
  ph ::
  ph ::
  ph ::
  ph ::
  ph ::
  ph ::
  ph ::
  ph ::
  ph ::
  ph ::
  ph ::
  ph ::
  ph ::
  ph ::
  ph ::
  ph ::
  ph ::
  ph ::
  ph ::
  ph ::
  ph ::
  ph ::
  ph ::
  ph ::
  ph ::
  ph ::
  ph ::
  ph ::
  ph ::
  ph ::
  ph ::
  ph ::
  ph ::
  ph ::
  ph ::
  ph ::
  ph ::
  ph ::
  ph ::
  ph ::
  ph ::
  ph ::
  ph ::
  ph ::
  ph ::
  ph ::
  ph ::
  ph ::
  ph ::
  ph ::
  ph ::
  ph ::
  ph ::
  ph ::
  ph ::
  ph ::
  ph ::
  ph ::
  ph ::
  ph ::
  ph ::
  ph ::
  ph ::
  ph ::
  ph ::
  ph ::
  ph ::
  ph ::
  ph ::
  ph ::
  ph ::
  ph ::
  ph ::
  ph ::
  ph ::
  ph ::
  ph ::
  ph ::
  ph ::
  ph ::
  ph ::
  ph ::
  ph ::
  ph ::
  ph ::
  ph ::
  ph ::
  ph ::
  ph ::
  ph ::
  ph ::
  ph ::
  ph ::
  ph ::
  ph ::
  ph ::
  ph ::
  ph ::
  ph ::
  ph ::
  ph ::
  ph ::
  ph ::
  ph ::
  ph ::
  ph ::
  ph ::
  ph ::
  ph ::
  ph ::
  ph ::
  ph ::
  ph ::
  ph ::
  (⟨"_law_whole", none, ["_law_found"], ["_law_found"], top 36, false⟩, c__law_whole) ::
  ph ::
  (⟨"_law_cell", none, ["_law_script", "_law_k"], ["_law_script", "_law_k"], top 34, false⟩, c__law_cell) ::
  ph ::
  (⟨"_law_mixed", none, ["_law_script", "_law_k"], ["_law_script", "_law_k"], top 35, false⟩, c__law_mixed_v0) ::
  ph ::
  ph ::
  ph ::
  ph ::
  ph ::
  ph ::
  ph ::
  ph ::
  ph ::
  ph ::
  ph ::
  ph ::
  ph ::
  ph ::
  ph ::
  ph ::
  ph ::
  ph ::
  ph ::
  ph ::
  (⟨"_law_kind", none, ["_law_e", "_law_found", "_law_word", "_law_fits"], ["_law_e"], top 41, false⟩, c__law_kind_v1) ::
  ph ::
  ph ::
  ph ::
  ph ::
  ph ::
  ph ::
  ph ::
  ph ::
  ph ::
  ph ::
  ph ::
  ph ::
  ph ::
  ph ::
  ph ::
  (⟨"_law_read_month", none, ["_law_text", "_law_figures", "_law_sign"], ["_law_text"], top 39, false⟩, c__law_read_month) ::
  ph ::
  ph ::
  ph ::
  ph ::
  ph ::
  ph ::
  ph ::
  ph ::
  ph ::
  ph ::
  ph ::
  ph ::
  ph ::
  ph ::
  ph ::
  ph ::
  ph ::
  ph ::
  ph ::
  ph ::
  ph ::
  ph ::
  ph ::
  ph ::
  ph ::
  ph ::
  ph ::
  ph ::
  ph ::
  ph ::
  ph ::
  ph ::
  (⟨"_law_month", none, ["_law_number"], ["_law_number"], top 37, false⟩, c__law_month_v0) ::
  (⟨"_law_month_text", none, ["_law_month_here", "_law_year", "_law_place"], ["_law_month_here"], top 38, false⟩, c__law_month_text_v0) ::
  (⟨"_law_bent", none, ["_law_text", "_law_number", "_law_more", "_law_sign", "_law_at", "_law_way", "_law_others"], ["_law_text", "_law_number"], top 40, false⟩, c__law_bent_v1) ::
  (⟨"_law_tried", none, ["_law_which", "_law_thing", "_law_e"], ["_law_which", "_law_thing"], top 42, false⟩, c__law_tried_v2) ::
  (⟨"_law_refused", none, ["_law_number", "_law_months", "_law_years", "_law_which"], ["_law_number"], top 43, false⟩, c__law_refused_v2) ::
  (⟨"_law_read_fits", none, ["_law_text", "_law_due", "_law_found"], ["_law_text"], top 44, false⟩, c__law_read_fits_v1) ::
  (⟨"law", none, ["_law_script", "_law_month_here", "_law_text", "_law_year", "_law_found", "_law_due", "_law_k", "_law_one"], ["_law_script"], top 45, false⟩, c_law) :: []
def P : Text := ⟨fs, (("RollError" : PySem.Str) :: ("BadAmount" : PySem.Str) :: ("BadShare" : PySem.Str) :: ("BadText" : PySem.Str) :: ("BadMonth" : PySem.Str) :: ("BadYear" : PySem.Str) :: ("BadRule" : PySem.Str) :: ("BadBook" : PySem.Str) :: ("NoYear" : PySem.Str) :: ("BadDay" : PySem.Str) :: ("BadEntry" : PySem.Str) :: ("NoMark" : PySem.Str) :: ("NoPerson" : PySem.Str) :: ("TooMany" : PySem.Str) :: ("BadClose" : PySem.Str) :: ("BadLine" : PySem.Str) :: []), (("" : PySem.Str) :: ("" : PySem.Str) :: ("" : PySem.Str) :: ("" : PySem.Str) :: ("" : PySem.Str) :: ("FIGURES" : PySem.Str) :: ("" : PySem.Str) :: ("LAST_YEAR" : PySem.Str) :: ("IN_YEAR" : PySem.Str) :: ("" : PySem.Str) :: ("" : PySem.Str) :: ("" : PySem.Str) :: ("" : PySem.Str) :: ("" : PySem.Str) :: ("" : PySem.Str) :: ("" : PySem.Str) :: ("" : PySem.Str) :: ("" : PySem.Str) :: ("" : PySem.Str) :: ("" : PySem.Str) :: ("" : PySem.Str) :: ("" : PySem.Str) :: ("" : PySem.Str) :: ("" : PySem.Str) :: ("" : PySem.Str) :: ("" : PySem.Str) :: ("" : PySem.Str) :: ("" : PySem.Str) :: ("" : PySem.Str) :: ("" : PySem.Str) :: ("" : PySem.Str) :: ("" : PySem.Str) :: ("" : PySem.Str) :: ("" : PySem.Str) :: []), (("" : PySem.Str) :: ("" : PySem.Str) :: ("" : PySem.Str) :: ("" : PySem.Str) :: ("" : PySem.Str) :: ("" : PySem.Str) :: ("" : PySem.Str) :: ("" : PySem.Str) :: ("" : PySem.Str) :: ("" : PySem.Str) :: ("" : PySem.Str) :: []), (("__init__" : PySem.Str) :: ("until" : PySem.Str) :: ("of_month" : PySem.Str) :: ("row" : PySem.Str) :: ("counted" : PySem.Str) :: ("put" : PySem.Str) :: ("rules" : PySem.Str) :: ("rows" : PySem.Str) :: ("years" : PySem.Str) :: ("need_day" : PySem.Str) :: ("in_force" : PySem.Str) :: ("known" : PySem.Str) :: ("people" : PySem.Str) :: ("need_person" : PySem.Str) :: ("base" : PySem.Str) :: ("bases" : PySem.Str) :: ("close" : PySem.Str) :: ("paid" : PySem.Str) :: ("owed" : PySem.Str) :: ("payments" : PySem.Str) :: ("last" : PySem.Str) :: ("go_on" : PySem.Str) :: ("day" : PySem.Str) :: ("journal" : PySem.Str) :: ("till" : PySem.Str) :: ("nets" : PySem.Str) :: ("dues" : PySem.Str) :: ("some" : PySem.Str) :: ("statement" : PySem.Str) :: ("due" : PySem.Str) :: []), (("name" : PySem.Str) :: ("amount" : PySem.Str) :: ("parts" : PySem.Str) :: ("way" : PySem.Str) :: ("most" : PySem.Str) :: ("least" : PySem.Str) :: ("bands" : PySem.Str) :: ("under" : PySem.Str) :: ("made" : PySem.Str) :: ("puts" : PySem.Str) :: ("closed" : PySem.Str) :: ("totals" : PySem.Str) :: ("rulings" : PySem.Str) :: ("entries" : PySem.Str) :: ("wages" : PySem.Str) :: ("offices" : PySem.Str) :: ("now" : PySem.Str) :: []), tab⟩
theorem go_is_whole {n : Nat} {hot : Hot} {M : Mem} {d0 : D} : call P.pr (n + 1) hot 0 [d0] M = (ex tab (call P.pr n) hot c_is_whole [.v d0] M).res := rfl
theorem go_is_among {n : Nat} {hot : Hot} {M : Mem} {d0 d1 d2 : D} : call P.pr (n + 1) hot 1 [d0, d1, d2] M = (ex tab (call P.pr n) hot c_is_among [.v d0, .v d1, .v d2] M).res := rfl
theorem go_are_figures {n : Nat} {hot : Hot} {M : Mem} {d0 : D} : call P.pr (n + 1) hot 8 [d0] M = (ex tab (call P.pr n) hot c_are_figures [.v d0, .u] M).res := rfl
theorem go_need_month {n : Nat} {hot : Hot} {M : Mem} {d0 : D} : call P.pr (n + 1) hot 14 [d0] M = (ex tab (call P.pr n) hot c_need_month [.v d0] M).res := rfl
theorem go_need_year {n : Nat} {hot : Hot} {M : Mem} {d0 : D} : call P.pr (n + 1) hot 15 [d0] M = (ex tab (call P.pr n) hot c_need_year [.v d0] M).res := rfl
theorem go_month_text {n : Nat} {hot : Hot} {M : Mem} {d0 : D} : call P.pr (n + 1) hot 16 [d0] M = (ex tab (call P.pr n) hot c_month_text [.v d0, .u, .u] M).res := rfl
theorem go_read_month {n : Nat} {hot : Hot} {M : Mem} {d0 : D} : call P.pr (n + 1) hot 17 [d0] M = (ex tab (call P.pr n) hot c_read_month [.v d0] M).res := rfl
theorem go_year_of {n : Nat} {hot : Hot} {M : Mem} {d0 : D} : call P.pr (n + 1) hot 18 [d0] M = (ex tab (call P.pr n) hot c_year_of [.v d0] M).res := rfl
theorem go_place_of {n : Nat} {hot : Hot} {M : Mem} {d0 : D} : call P.pr (n + 1) hot 19 [d0] M = (ex tab (call P.pr n) hot c_place_of [.v d0] M).res := rfl
theorem go_months_of {n : Nat} {hot : Hot} {M : Mem} {d0 : D} : call P.pr (n + 1) hot 20 [d0] M = (ex tab (call P.pr n) hot c_months_of [.v d0] M).res := rfl
theorem go__law_cell {n : Nat} {hot : Hot} {M : Mem} {d0 d1 : D} : call P.pr (n + 1) hot 140 [d0, d1] M = (ex tab (call P.pr n) hot c__law_cell [.v d0, .v d1] M).res := rfl
theorem go__law_mixed_v0 {n : Nat} {hot : Hot} {M : Mem} {d0 d1 : D} : call P.pr (n + 1) hot 142 [d0, d1] M = (ex tab (call P.pr n) hot c__law_mixed_v0 [.v d0, .v d1] M).res := rfl
theorem go__law_whole {n : Nat} {hot : Hot} {M : Mem} {d0 : D} : call P.pr (n + 1) hot 138 [d0] M = (ex tab (call P.pr n) hot c__law_whole [.v d0] M).res := rfl
theorem go__law_month_v0 {n : Nat} {hot : Hot} {M : Mem} {d0 : D} : call P.pr (n + 1) hot 212 [d0] M = (ex tab (call P.pr n) hot c__law_month_v0 [.v d0] M).res := rfl
theorem go__law_month_text_v0 {n : Nat} {hot : Hot} {M : Mem} {d0 : D} : call P.pr (n + 1) hot 213 [d0] M = (ex tab (call P.pr n) hot c__law_month_text_v0 [.v d0, .u, .u] M).res := rfl
theorem go__law_read_month {n : Nat} {hot : Hot} {M : Mem} {d0 : D} : call P.pr (n + 1) hot 179 [d0] M = (ex tab (call P.pr n) hot c__law_read_month [.v d0, .u, .u] M).res := rfl
theorem go__law_bent_v1 {n : Nat} {hot : Hot} {M : Mem} {d0 d1 : D} : call P.pr (n + 1) hot 214 [d0, d1] M = (ex tab (call P.pr n) hot c__law_bent_v1 [.v d0, .v d1, .u, .u, .u, .u, .u] M).res := rfl
theorem go__law_kind_v1 {n : Nat} {hot : Hot} {M : Mem} {d0 : D} : call P.pr (n + 1) hot 163 [d0] M = (ex tab (call P.pr n) hot c__law_kind_v1 [.v d0, .u, .u, .u] M).res := rfl
theorem go__law_tried_v2 {n : Nat} {hot : Hot} {M : Mem} {d0 d1 : D} : call P.pr (n + 1) hot 215 [d0, d1] M = (ex tab (call P.pr n) hot c__law_tried_v2 [.v d0, .v d1, .u] M).res := rfl
theorem go__law_refused_v2 {n : Nat} {hot : Hot} {M : Mem} {d0 : D} : call P.pr (n + 1) hot 216 [d0] M = (ex tab (call P.pr n) hot c__law_refused_v2 [.v d0, .u, .u, .u] M).res := rfl
theorem go__law_read_fits_v1 {n : Nat} {hot : Hot} {M : Mem} {d0 : D} : call P.pr (n + 1) hot 217 [d0] M = (ex tab (call P.pr n) hot c__law_read_fits_v1 [.v d0, .u, .u] M).res := rfl
theorem go_law {n : Nat} {hot : Hot} {M : Mem} {d0 : D} : call P.pr (n + 1) hot 218 [d0] M = (ex tab (call P.pr n) hot c_law [.v d0, .u, .u, .u, .u, .u, .u, .u] M).res := rfl
theorem gv_5 : tab.glob[5]?.getD .non = (.str [48, 49, 50, 51, 52, 53, 54, 55, 56, 57]) := rfl
theorem gv_7 : tab.glob[7]?.getD .non = (.int 9999) := rfl
theorem gv_8 : tab.glob[8]?.getD .non = (.int 12) := rfl
def loose0 : List PySem.Str := ["RollError", "BadAmount", "BadShare", "BadText", "BadMonth", "BadYear", "BadRule", "BadBook", "NoYear", "BadDay", "BadEntry", "NoMark", "NoPerson", "TooMany", "BadClose", "BadLine", "FIGURES", "is_whole", "is_among", "are_figures", "LAST_YEAR", "IN_YEAR", "need_month", "need_year", "month_text", "read_month", "year_of", "place_of", "months_of", "_law_cell"]
def loose1 : List PySem.Str := ["_law_mixed", "_law_whole", "_law_month", "_law_month_text", "_law_read_month", "_law_bent", "_law_kind", "_law_tried", "_law_refused", "_law_read_fits"]
def loose : List PySem.Str := loose0 ++ loose1
def place : Nat := 45
end VM.K
namespace VM.K
open PySem PySem.W
abbrev R : OpenRow := OpenLaw.row PySem.Challenge.rw_coinroll_k04_months_told
def kc (K : Frag) : Bool := skC P K
/-- the addresses that the look behind the top takes -/
def asL : List Addr := [3, 24, 37, 49, 61, 73, 85, 97, 109, 121, 133, 145, 157, 169, 181, 193, 205, 214, 221, 226, 233, 240, 247, 254, 261, 268, 275, 282, 289, 296, 303, 310, 315, 322, 327, 334, 341, 348, 353, 23, 36, 48, 60, 72, 84, 96, 108, 120, 132, 144, 156, 168, 180, 192, 204, 213, 220, 225, 232, 239, 246, 253, 260, 267, 274, 281, 288, 295, 302, 309, 314, 321, 326, 333, 340, 347, 352]
def obsZ (as : List Addr) (fn : List He.DefD) (ex : Frag → Bool) (g : Addr → Option Obj) : AlY := (He.obsD [] fn (He.frG g as), ex (He.frG g as))
def hookZ (as : List Addr) (fn : List He.DefD) (ex : Frag → Bool) : Hook where
  α := AlY
  obs := fun s => obsZ as fn ex s.heap.get?
  val := fun _ => (He.valD fn, true)
  says := fun _ h => ∃ K : Frag, K.In h ∧ SaysY fn ex K
  of := fun _ _ e => ⟨_, He.frG_in, congrArg (fun z : AlY => z.1) e, congrArg (fun z : AlY => z.2) e⟩
  keeps := fun _ _ _ ⟨K, hK, c⟩ k => ⟨K, Frag.In.keeps hK k, c⟩
theorem obsZ_eq {as : List Addr} {fn : List He.DefD} {ex : Frag → Bool} {g : Addr → Option Obj} {s : Shared} (h : ∀ a, g a = s.heap.get? a) : obsZ as fn ex g = (hookZ as fn ex).obs s := by
  have e : g = s.heap.get? := funext h
  rw [e] <;> rfl
abbrev hk : Hook := hookZ asL P.defs kc
def ob (s : SharedT) : AlY := obsZ asL P.defs kc (HandSHeadRun.getT s)
theorem ob_eq (s : SharedT) : ob s = hk.obs s.abs := obsZ_eq (HandSHeadRun.getT_eq s)
noncomputable abbrev endS (w : World) (os : OsState) : Option SharedT := HandSHeadRun.endF (HandSHeadRun.stepQ (HandSHeadRun.denQ HandSHeadRun.tabQ) R.prog w) 20000 R.prog w os
theorem run1 (w : World) (os : OsState) : (endS w os).map (fun s => (HandSHeadRun.looksF R.prog (boot_heap w.params) s.abs, HandSHeadRun.seenQ (view R.prog [place]) loose (importedModules R.prog.main.body) (fun s => xlAt (view R.prog [place]) [] s && recOk R.toRowW.records s) s.abs)) = some (true, openGood (view R.prog [place]) loose) := by
  kernel_rfl
theorem run2 (w : World) (os : OsState) : (endS w os).map (fun s => (ob s).1.1) = some true := by
  kernel_rfl
theorem run3 (w : World) (os : OsState) : (endS w os).map (fun s => (ob s).1.2) = some (hk.val w).1.2 := by
  kernel_rfl
theorem run4 (w : World) (os : OsState) : (endS w os).map (fun s => (ob s).2) = some true := by
  kernel_rfl
theorem join4 {S A B : Type} {o : Option S} {f1 : S → A} {f2 : S → B} {f : S → AlY} {a : A} {b : B} {c : List He.FnW} (h1 : o.map (fun s => (f1 s, f2 s)) = some (a, b)) (h2 : o.map (fun s => (f s).1.1) = some true) (h3 : o.map (fun s => (f s).1.2) = some c) (h4 : o.map (fun s => (f s).2) = some true) : o.map (fun s => (f1 s, f2 s, f s)) = some (a, b, ((true, c), true)) := by
  cases o with
  | none => cases h1
  | some s =>
    simp only [Option.map_some, Option.some.injEq, Prod.mk.injEq] at *
    refine ⟨h1.1, h1.2, ?_⟩
    exact Prod.ext (Prod.ext h2 h3) h4
theorem run (w : World) : HandSHeadRun.RunEq R (view R.prog [place]) hk ob 20000 loose w := fun os => join4 (run1 w os) (run2 w os) (run3 w os) (run4 w os)
end VM.K
namespace VM.K
theorem ok : P.ok = true := by decide +kernel
end VM.K
namespace VM.K
section
variable {n : Nat} {hot : Hot} {M : Mem}
theorem r_whole {d : D} {t : Tn} (h : tnOf (deref M d) = some t) : call P.pr (n + 1) hot 0 [d] M = .ok ⟨.f, .bl (decide (t = .int))⟩ M := by
  cases t <;> simp [ex, ev, evs, evb, VM.start, bind_ok, bind_ex, bw_ok, bw_ex, fz_f, fz_n, fz_ex, bl_ok, bl_ex, on_ok, on_ex, next_nx, next_rt, next_ex, res_nx, res_rt, res_ex, out_f, out_n, out_b, okB_some, okI_some, okO_some, ok1_eq, okn_eq, okL_some, add_int, sub_int, mul_int, fdiv_int, mod_int, lt_int, le_int, gt_int, ge_int, eq_int, ne_int, eq_str, ne_str, is_non, isn_non, abs_int, int_int, int_bl, divmod_ok, pfHot, store, setE, isN, noO, isO, wipe, Tg.bind, Tg.binds, Tg.is, evIt, forF, lcF, C.isFrz, bind_if, next_if, res_if, attr, clsOf, deref, getF, fld, E.isNil,  isTn, line, small_mul_r, small_mul_l, small_lit, small_neg, small_mod, it_lst, it_tup, it_scr, go_is_whole, c_is_whole, isi_some h]
theorem r_whole_i {i : Int} : call P.pr (n + 1) hot 0 [.int i] M = .ok ⟨.f, .bl true⟩ M := by
  rw [r_whole (t := .int) rfl]; rfl
theorem r_among_i {i a b : Int} : call P.pr (n + 2) hot 1 [.int i, .int a, .int b] M = .ok ⟨.f, .bl (decide (a ≤ i ∧ i ≤ b))⟩ M := by
  by_cases h1 : a ≤ i <;> by_cases h2 : i ≤ b <;> simp [ex, ev, evs, evb, VM.start, bind_ok, bind_ex, bw_ok, bw_ex, fz_f, fz_n, fz_ex, bl_ok, bl_ex, on_ok, on_ex, next_nx, next_rt, next_ex, res_nx, res_rt, res_ex, out_f, out_n, out_b, okB_some, okI_some, okO_some, ok1_eq, okn_eq, okL_some, add_int, sub_int, mul_int, fdiv_int, mod_int, lt_int, le_int, gt_int, ge_int, eq_int, ne_int, eq_str, ne_str, is_non, isn_non, abs_int, int_int, int_bl, divmod_ok, pfHot, store, setE, isN, noO, isO, wipe, Tg.bind, Tg.binds, Tg.is, evIt, forF, lcF, C.isFrz, bind_if, next_if, res_if, attr, clsOf, deref, getF, fld, E.isNil,  isTn, line, small_mul_r, small_mul_l, small_lit, small_neg, small_mod, it_lst, it_tup, it_scr, go_is_among, c_is_among, r_whole_i, h1, h2]
theorem r_among_no {d x y : D} {t : Tn} (h : tnOf (deref M d) = some t) (ne : t ≠ .int) : call P.pr (n + 2) hot 1 [d, x, y] M = .ok ⟨.f, .bl false⟩ M := by
  simp [ex, ev, evs, evb, VM.start, bind_ok, bind_ex, bw_ok, bw_ex, fz_f, fz_n, fz_ex, bl_ok, bl_ex, on_ok, on_ex, next_nx, next_rt, next_ex, res_nx, res_rt, res_ex, out_f, out_n, out_b, okB_some, okI_some, okO_some, ok1_eq, okn_eq, okL_some, add_int, sub_int, mul_int, fdiv_int, mod_int, lt_int, le_int, gt_int, ge_int, eq_int, ne_int, eq_str, ne_str, is_non, isn_non, abs_int, int_int, int_bl, divmod_ok, pfHot, store, setE, isN, noO, isO, wipe, Tg.bind, Tg.binds, Tg.is, evIt, forF, lcF, C.isFrz, bind_if, next_if, res_if, attr, clsOf, deref, getF, fld, E.isNil,  isTn, line, small_mul_r, small_mul_l, small_lit, small_neg, small_mod, it_lst, it_tup, it_scr, go_is_among, c_is_among, r_whole h, ne]
end

section
variable {n : Nat} {hot : Hot} {M : Mem}
end

section
variable {n : Nat} {hot : Hot} {M : Mem}
theorem month_most {hot : Hot} {n : Nat} {σ : List SV} : ev tab (call P.pr n hot) hot (.bin .sub (.bin .add (.bin .mul (.g 8) (.g 7)) (.g 8)) (.c (.int 1))) σ M = .ok ⟨.f, .int 119999⟩ M := by
  have h : mulOk 12 9999 = true := by decide
  simp [ex, ev, evs, evb, VM.start, bind_ok, bind_ex, bw_ok, bw_ex, fz_f, fz_n, fz_ex, bl_ok, bl_ex, on_ok, on_ex, next_nx, next_rt, next_ex, res_nx, res_rt, res_ex, out_f, out_n, out_b, okB_some, okI_some, okO_some, ok1_eq, okn_eq, okL_some, add_int, sub_int, mul_int, fdiv_int, mod_int, lt_int, le_int, gt_int, ge_int, eq_int, ne_int, eq_str, ne_str, is_non, isn_non, abs_int, int_int, int_bl, divmod_ok, pfHot, store, setE, isN, noO, isO, wipe, Tg.bind, Tg.binds, Tg.is, evIt, forF, lcF, C.isFrz, bind_if, next_if, res_if, attr, clsOf, deref, getF, fld, E.isNil,  isTn, line, small_mul_r, small_mul_l, small_lit, small_neg, small_mod, it_lst, it_tup, it_scr, gv_7, gv_8, h]
theorem r_need_month {i : Int} (h : 0 ≤ i) (h2 : i ≤ 119999) : call P.pr (n + 3) none 14 [.int i] M = .ok ⟨.f, .non⟩ M := by
  have e : (evs tab (call P.pr (n + 2) none) none (.cons (.v 0) (.cons (.c (.int 0)) (.cons (.bin .sub (.bin .add (.bin .mul (.g 8) (.g 7)) (.g 8)) (.c (.int 1))) .nil))) [.v (.int i)] M) = .ok [.int i, .int 0, .int 119999] M := by
    simp only [evs, month_most, fz_f, bind_ok]
    simp [ex, ev, evs, evb, VM.start, bind_ok, bind_ex, bw_ok, bw_ex, fz_f, fz_n, fz_ex, bl_ok, bl_ex, on_ok, on_ex, next_nx, next_rt, next_ex, res_nx, res_rt, res_ex, out_f, out_n, out_b, okB_some, okI_some, okO_some, ok1_eq, okn_eq, okL_some, add_int, sub_int, mul_int, fdiv_int, mod_int, lt_int, le_int, gt_int, ge_int, eq_int, ne_int, eq_str, ne_str, is_non, isn_non, abs_int, int_int, int_bl, divmod_ok, pfHot, store, setE, isN, noO, isO, wipe, Tg.bind, Tg.binds, Tg.is, evIt, forF, lcF, C.isFrz, bind_if, next_if, res_if, attr, clsOf, deref, getF, fld, E.isNil,  isTn, line, small_mul_r, small_mul_l, small_lit, small_neg, small_mod, it_lst, it_tup, it_scr]
  rw [go_need_month]
  simp only [c_need_month, ex, ev, Option.isSome_none, Bool.false_and, Bool.false_eq_true, if_false, e, bind_ok, r_among_i]
  simp [ex, ev, evs, evb, VM.start, bind_ok, bind_ex, bw_ok, bw_ex, fz_f, fz_n, fz_ex, bl_ok, bl_ex, on_ok, on_ex, next_nx, next_rt, next_ex, res_nx, res_rt, res_ex, out_f, out_n, out_b, okB_some, okI_some, okO_some, ok1_eq, okn_eq, okL_some, add_int, sub_int, mul_int, fdiv_int, mod_int, lt_int, le_int, gt_int, ge_int, eq_int, ne_int, eq_str, ne_str, is_non, isn_non, abs_int, int_int, int_bl, divmod_ok, pfHot, store, setE, isN, noO, isO, wipe, Tg.bind, Tg.binds, Tg.is, evIt, forF, lcF, C.isFrz, bind_if, next_if, res_if, attr, clsOf, deref, getF, fld, E.isNil,  isTn, line, small_mul_r, small_mul_l, small_lit, small_neg, small_mod, it_lst, it_tup, it_scr, h, h2]
theorem r_need_month_no {i : Int} (h : i < 0 ∨ 119999 < i) : call P.pr (n + 3) none 14 [.int i] M = .ex 4 M := by
  have e : (evs tab (call P.pr (n + 2) none) none (.cons (.v 0) (.cons (.c (.int 0)) (.cons (.bin .sub (.bin .add (.bin .mul (.g 8) (.g 7)) (.g 8)) (.c (.int 1))) .nil))) [.v (.int i)] M) = .ok [.int i, .int 0, .int 119999] M := by
    simp only [evs, month_most, fz_f, bind_ok]
    simp [ex, ev, evs, evb, VM.start, bind_ok, bind_ex, bw_ok, bw_ex, fz_f, fz_n, fz_ex, bl_ok, bl_ex, on_ok, on_ex, next_nx, next_rt, next_ex, res_nx, res_rt, res_ex, out_f, out_n, out_b, okB_some, okI_some, okO_some, ok1_eq, okn_eq, okL_some, add_int, sub_int, mul_int, fdiv_int, mod_int, lt_int, le_int, gt_int, ge_int, eq_int, ne_int, eq_str, ne_str, is_non, isn_non, abs_int, int_int, int_bl, divmod_ok, pfHot, store, setE, isN, noO, isO, wipe, Tg.bind, Tg.binds, Tg.is, evIt, forF, lcF, C.isFrz, bind_if, next_if, res_if, attr, clsOf, deref, getF, fld, E.isNil,  isTn, line, small_mul_r, small_mul_l, small_lit, small_neg, small_mod, it_lst, it_tup, it_scr]
  have no : ¬ (0 ≤ i ∧ i ≤ 119999) := by omega
  rw [go_need_month]
  simp only [c_need_month, ex, ev, Option.isSome_none, Bool.false_and, Bool.false_eq_true, if_false, e, bind_ok, r_among_i]
  simp [ex, ev, evs, evb, VM.start, bind_ok, bind_ex, bw_ok, bw_ex, fz_f, fz_n, fz_ex, bl_ok, bl_ex, on_ok, on_ex, next_nx, next_rt, next_ex, res_nx, res_rt, res_ex, out_f, out_n, out_b, okB_some, okI_some, okO_some, ok1_eq, okn_eq, okL_some, add_int, sub_int, mul_int, fdiv_int, mod_int, lt_int, le_int, gt_int, ge_int, eq_int, ne_int, eq_str, ne_str, is_non, isn_non, abs_int, int_int, int_bl, divmod_ok, pfHot, store, setE, isN, noO, isO, wipe, Tg.bind, Tg.binds, Tg.is, evIt, forF, lcF, C.isFrz, bind_if, next_if, res_if, attr, clsOf, deref, getF, fld, E.isNil,  isTn, line, small_mul_r, small_mul_l, small_lit, small_neg, small_mod, it_lst, it_tup, it_scr, no]
theorem r_need_month_t {d : D} {t : Tn} (h : tnOf (deref M d) = some t) (ne : t ≠ .int) : call P.pr (n + 3) none 14 [d] M = .ex 4 M := by
  have e : (evs tab (call P.pr (n + 2) none) none (.cons (.v 0) (.cons (.c (.int 0)) (.cons (.bin .sub (.bin .add (.bin .mul (.g 8) (.g 7)) (.g 8)) (.c (.int 1))) .nil))) [.v d] M) = .ok [d, .int 0, .int 119999] M := by
    simp only [evs, month_most, fz_f, bind_ok]
    simp [ex, ev, evs, evb, VM.start, bind_ok, bind_ex, bw_ok, bw_ex, fz_f, fz_n, fz_ex, bl_ok, bl_ex, on_ok, on_ex, next_nx, next_rt, next_ex, res_nx, res_rt, res_ex, out_f, out_n, out_b, okB_some, okI_some, okO_some, ok1_eq, okn_eq, okL_some, add_int, sub_int, mul_int, fdiv_int, mod_int, lt_int, le_int, gt_int, ge_int, eq_int, ne_int, eq_str, ne_str, is_non, isn_non, abs_int, int_int, int_bl, divmod_ok, pfHot, store, setE, isN, noO, isO, wipe, Tg.bind, Tg.binds, Tg.is, evIt, forF, lcF, C.isFrz, bind_if, next_if, res_if, attr, clsOf, deref, getF, fld, E.isNil,  isTn, line, small_mul_r, small_mul_l, small_lit, small_neg, small_mod, it_lst, it_tup, it_scr]
  rw [go_need_month]
  simp only [c_need_month, ex, ev, Option.isSome_none, Bool.false_and, Bool.false_eq_true, if_false, e, bind_ok, r_among_no h ne]
  simp [ex, ev, evs, evb, VM.start, bind_ok, bind_ex, bw_ok, bw_ex, fz_f, fz_n, fz_ex, bl_ok, bl_ex, on_ok, on_ex, next_nx, next_rt, next_ex, res_nx, res_rt, res_ex, out_f, out_n, out_b, okB_some, okI_some, okO_some, ok1_eq, okn_eq, okL_some, add_int, sub_int, mul_int, fdiv_int, mod_int, lt_int, le_int, gt_int, ge_int, eq_int, ne_int, eq_str, ne_str, is_non, isn_non, abs_int, int_int, int_bl, divmod_ok, pfHot, store, setE, isN, noO, isO, wipe, Tg.bind, Tg.binds, Tg.is, evIt, forF, lcF, C.isFrz, bind_if, next_if, res_if, attr, clsOf, deref, getF, fld, E.isNil,  isTn, line, small_mul_r, small_mul_l, small_lit, small_neg, small_mod, it_lst, it_tup, it_scr]
end

/-! the rules of dues: what is due, by plain reckoning -/
section
variable {n : Nat} {hot : Hot} {M : Mem}
/-- the bases that are handed: a shared list or one for good -/
structure Bs (M : Mem) (d : D) (bs : List Int) : Prop where
  de : deref M d = .lst (bs.map D.int)
  st : still d (bs.map D.int) M = true
theorem Bs.it {d : D} {bs : List Int} (h : Bs M d bs) : items d M = some (bs.map D.int) := by unfold items; rw [h.de]
theorem Bs.val (bs : List Int) : Bs M (.lst (bs.map D.int)) bs := ⟨rfl, rfl⟩
theorem Bs.cell {q : Nat} {bs : List Int} (h : M[q]? = some (.lst (bs.map D.int))) : Bs M (.cell q) bs := ⟨deref_cell h, st_c h⟩
theorem sumI_ints : ∀ bs : List Int, sumI (bs.map D.int) = some bs.sum
  | [] => rfl
  | b :: bs => by
    show (sumI (bs.map D.int)).map (b + ·) = _
    rw [sumI_ints bs]; rfl
theorem Bs.sum {d : D} {bs : List Int} (h : Bs M d bs) : pf .sum [d] M = .ok ⟨.f, .int bs.sum⟩ M := by
  show (match deref M d with
    | .lst xs => okI (sumI xs) M
    | _ => .stk) = _
  rw [h.de]
  show okI (sumI (bs.map D.int)) M = _
  rw [sumI_ints]; rfl
theorem Bs.len {d : D} {bs : List Int} (h : Bs M d bs) : pf .len [d] M = .ok ⟨.f, .int (bs.length : Nat)⟩ M := len_ok (by rw [h.de]; show some (((bs.map D.int).length : Nat) : Int) = _; rw [List.length_map])
theorem cutL_last {α : Type} (xs : List α) : cutL xs none (some (-1)) = xs.dropLast := by
  unfold cutL clampI
  rw [List.dropLast_eq_take]
  simp only [List.drop_zero, Nat.sub_zero]
  rw [if_pos (by omega)]
  congr 1
  omega
theorem Bs.cut {d : D} {bs : List Int} (h : Bs M d bs) : prim (.sl false true) [d, .int (-1)] M = .ok ⟨.n, .lst (bs.dropLast.map D.int)⟩ M := by
  show slD d none (some (-1)) M = _
  rw [sl_lst h.de, cutL_last, List.map_dropLast]
theorem eqs_ints : ∀ a b : List Int, eqs (a.map D.int) (b.map D.int) = decide (a = b)
  | [], [] => rfl
  | [], _ :: _ => by simp [eqs]
  | _ :: _, [] => by simp [eqs]
  | x :: a, y :: b => by
    show ((D.int x).eq (.int y) && eqs (a.map D.int) (b.map D.int)) = _
    rw [eqs_ints a b]
    by_cases h : x = y <;> by_cases k : a = b <;> simp [D.eq, h, k]
theorem Bs.eq {d e : D} {bs cs : List Int} (h : Bs M d bs) (k : Bs M e cs) : cmpop .eq d e M = some (decide (bs = cs)) := by
  show eqop d e M = _
  unfold eqop
  rw [h.de, k.de, res_dry 4 (ints_dry _), res_dry 4 (ints_dry _), ints_dp, ints_dp]
  show some (eqs (bs.map D.int) (cs.map D.int)) = _
  rw [eqs_ints]
theorem Bs.ne {d e : D} {bs cs : List Int} (h : Bs M d bs) (k : Bs M e cs) : cmpop .ne d e M = some (!decide (bs = cs)) := by
  show (eqop d e M).map (!·) = _
  have := h.eq k
  rw [show eqop d e M = some (decide (bs = cs)) from this]; rfl
theorem Bs.nil {d : D} {bs : List Int} (h : Bs M d bs) : cmpop .eq d (.lst []) M = some (decide (bs = [])) := h.eq (Bs.val [])
/-- how many are above nought -/
def mw (bs : List Int) : Int := ((bs.filter fun b => decide (0 < b)).length : Nat)
inductive Way where
  | down | up | near | even
def Way.s : Way → List Nat
  | .down => [100, 111, 119, 110]
  | .up => [117, 112]
  | .near => [110, 101, 97, 114]
  | .even => [101, 118, 101, 110]
/-- so many ten-thousandths, rounded -/
def rnd (x : Int) : Way → Int
  | .down => x / 10000
  | .up => if 0 < x % 10000 then x / 10000 + 1 else x / 10000
  | .near => if 5000 ≤ x % 10000 then x / 10000 + 1 else x / 10000
  | .even => if 5000 < x % 10000 ∨ x % 10000 = 5000 ∧ x / 10000 % 2 = 1 then x / 10000 + 1 else x / 10000
theorem rnd_pos {x : Int} (h : 0 ≤ x) (w : Way) : 0 ≤ rnd x w := by
  cases w <;> simp only [rnd] <;> (try split) <;> omega
/-- a rule -/
inductive Rl where
  | flat (nm : List Nat) (a : Int) | share (nm : List Nat) (p : Int) (w : Way) | capped (nm : List Nat) (p m : Int) (w : Way) | least (nm : List Nat) (p m : Int) (w : Way)
  | bands (nm : List Nat) (ps : List (Int × Int)) (w : Way) | ontop (nm : List Nat) (p : Int) (w : Way) (u : Rl)
def prD (p : Int × Int) : D := .tup [.int p.1, .int p.2]
/-- the pieces of a total, each by its parts -/
def pieces : List (Int × Int) → Int → List Int
  | [], _ => []
  | [(b, _)], t => [max 0 (t - b)]
  | (b, _) :: (b', p') :: r, t => max 0 (min t b' - b) :: pieces ((b', p') :: r) t
def wsum : List (Int × Int) → Int → Int
  | [], _ => 0
  | [(b, p)], t => p * max 0 (t - b)
  | (b, p) :: (b', p') :: r, t => p * max 0 (min t b' - b) + wsum ((b', p') :: r) t
def Rl.until (bs : List Int) : Rl → Int
  | .flat _ a => a * mw bs
  | .share _ p w => rnd (bs.sum * p) w
  | .capped _ p m w => rnd (min bs.sum m * p) w
  | .least _ p m w => max (rnd (bs.sum * p) w) (m * mw bs)
  | .bands _ ps w => rnd (wsum ps bs.sum) w
  | .ontop _ p w u => rnd (u.until bs * p) w
def Rl.nm : Rl → List Nat
  | .flat nm _ => nm
  | .share nm _ _ => nm
  | .capped nm _ _ _ => nm
  | .least nm _ _ _ => nm
  | .bands nm _ _ => nm
  | .ontop nm _ _ _ => nm
/-- the law's tuple -/
def Rl.T : Rl → D
  | .flat nm a => .tup [.str [102, 108, 97, 116], .str nm, .int a]
  | .share nm p w => .tup [.str [115, 104, 97, 114, 101], .str nm, .int p, .str w.s]
  | .capped nm p m w => .tup [.str [99, 97, 112, 112, 101, 100], .str nm, .int p, .int m, .str w.s]
  | .least nm p m w => .tup [.str [108, 101, 97, 115, 116], .str nm, .int p, .int m, .str w.s]
  | .bands nm ps w => .tup [.str [98, 97, 110, 100, 115], .str nm, .tup (ps.map prD), .str w.s]
  | .ontop nm p w u => .tup [.str [111, 110, 116, 111, 112], .str nm, .int p, .str w.s, u.T]
/-- the program's rule -/
def Rl.D : Rl → D
  | .flat nm a => .ins 1 [0, 1] [.str nm, .int a]
  | .share nm p w => .ins 2 [0, 2, 3] [.str nm, .int p, .str w.s]
  | .capped nm p m w => .ins 3 [0, 2, 3, 4] [.str nm, .int p, .str w.s, .int m]
  | .least nm p m w => .ins 4 [0, 2, 3, 5] [.str nm, .int p, .str w.s, .int m]
  | .bands nm ps w => .ins 5 [0, 6, 3] [.str nm, .tup (ps.map prD), .str w.s]
  | .ontop nm p w u => .ins 6 [0, 2, 3, 7] [.str nm, .int p, .str w.s, u.D]
def noNm : List (List Nat) := [[98, 97, 115, 101], [110, 101, 116], [109, 111, 110, 116, 104], [115, 117, 109, 115]]
/-- a name that a rule may have -/
structure GoodNm (s : List Nat) : Prop where
  nm : isNm s = true
  no : s ∉ noNm
theorem GoodNm.len {s : List Nat} (h : GoodNm s) : s.length ≤ 8 := by
  have := h.nm
  unfold isNm isOf at this
  simp only [decide_eq_true_eq, Bool.and_eq_true] at this
  exact this.1.2
def isP (p : Int) : Prop := 0 ≤ p ∧ p ≤ 20000
def isA (a : Int) : Prop := 0 ≤ a ∧ a ≤ 1000000000000
/-- bands: so many, rising from 0 -/
structure GoodB (ps : List (Int × Int)) : Prop where
  len : ps.length ≤ 12
  hd : ∃ p r, ps = (0, p) :: r
  ok : ∀ x ∈ ps, isA x.1 ∧ isP x.2
  up : ps.Pairwise fun x y => x.1 < y.1
def Rl.Ok : Rl → Prop
  | .flat nm a => GoodNm nm ∧ isA a
  | .share nm p _ => GoodNm nm ∧ isP p
  | .capped nm p m _ => GoodNm nm ∧ isP p ∧ isA m
  | .least nm p m _ => GoodNm nm ∧ isP p ∧ isA m
  | .bands nm ps _ => GoodNm nm ∧ GoodB ps
  | .ontop nm p _ u => GoodNm nm ∧ isP p ∧ u.Ok
/-- bases: none below nought -/
def posL (bs : List Int) : Prop := ∀ b ∈ bs, 0 ≤ b
theorem sum_pos : ∀ {bs : List Int}, posL bs → 0 ≤ bs.sum
  | [], _ => by simp
  | b :: bs, h => by
    rw [List.sum_cons]
    have := sum_pos (bs := bs) fun x hx => h x (List.mem_cons_of_mem _ hx)
    have := h b List.mem_cons_self
    omega
theorem drop_pos {bs : List Int} (h : posL bs) : posL bs.dropLast := fun b hb => h b (List.dropLast_subset _ hb)
theorem mw_pos (bs : List Int) : 0 ≤ mw bs := by unfold mw; omega
theorem wsum_pos : ∀ (ps : List (Int × Int)) (t : Int), (∀ x ∈ ps, isA x.1 ∧ isP x.2) → 0 ≤ wsum ps t
  | [], _, _ => by simp [wsum]
  | [(b, p)], t, h => by
    have := (h (b, p) List.mem_cons_self).2.1
    exact Int.mul_nonneg this (by omega)
  | (b, p) :: (b', p') :: r, t, h => by
    have h1 := (h (b, p) List.mem_cons_self).2.1
    have h2 := wsum_pos ((b', p') :: r) t fun x hx => h x (List.mem_cons_of_mem _ hx)
    have := Int.mul_nonneg h1 (show 0 ≤ max 0 (min t b' - b) by omega)
    show 0 ≤ p * max 0 (min t b' - b) + wsum ((b', p') :: r) t
    exact Int.add_nonneg this h2
theorem Rl.pos {bs : List Int} (hb : posL bs) : ∀ {r : Rl}, r.Ok → 0 ≤ r.until bs
  | .flat _ _, h => Int.mul_nonneg h.2.1 (mw_pos _)
  | .share _ _ w, h => rnd_pos (Int.mul_nonneg (sum_pos hb) h.2.1) w
  | .capped _ _ m w, h => rnd_pos (Int.mul_nonneg (by have := sum_pos hb; have := h.2.2.1; omega) h.2.1.1) w
  | .least _ _ _ w, h => by
    have := rnd_pos (Int.mul_nonneg (sum_pos hb) h.2.1.1) w
    show 0 ≤ max _ _
    omega
  | .bands _ ps w, h => rnd_pos (wsum_pos ps _ h.2.ok) w
  | .ontop _ _ w u, h => rnd_pos (Int.mul_nonneg (Rl.pos hb h.2.2) h.2.1.1) w
def Rl.month (r : Rl) (bs : List Int) : Int := if bs = [] then 0 else r.until bs - r.until bs.dropLast
theorem ix_t0 {a : D} {r : List D} : index (.tup (a :: r)) (.int 0) M = .ok ⟨.f, a⟩ M := by
  show okO (at? (a :: r) ((0 : Nat) : Int)) M = _
  rw [at_nat]; rfl
theorem ix_t1 {a b : D} {r : List D} : index (.tup (a :: b :: r)) (.int 1) M = .ok ⟨.f, b⟩ M := by
  show okO (at? (a :: b :: r) ((1 : Nat) : Int)) M = _
  rw [at_nat]; rfl
theorem ix_t2 {a b c : D} {r : List D} : index (.tup (a :: b :: c :: r)) (.int 2) M = .ok ⟨.f, c⟩ M := by
  show okO (at? (a :: b :: c :: r) ((2 : Nat) : Int)) M = _
  rw [at_nat]; rfl
theorem ix_t3 {a b c d : D} {r : List D} : index (.tup (a :: b :: c :: d :: r)) (.int 3) M = .ok ⟨.f, d⟩ M := by
  show okO (at? (a :: b :: c :: d :: r) ((3 : Nat) : Int)) M = _
  rw [at_nat]; rfl
theorem ix_t4 {a b c d e : D} {r : List D} : index (.tup (a :: b :: c :: d :: e :: r)) (.int 4) M = .ok ⟨.f, e⟩ M := by
  show okO (at? (a :: b :: c :: d :: e :: r) ((4 : Nat) : Int)) M = _
  rw [at_nat]; rfl
theorem ix_cell {q k : Nat} {xs : List D} {d : D} (h : M[q]? = some (.lst xs)) (hx : xs[k]? = some d) : index (.cell q) (.int (k : Nat)) M = .ok ⟨.f, d⟩ M := by
  simp only [index, deref_cell h, at_nat, hx]; rfl
/-- a cell, mixed: the number -/
def mixv (c k : Int) : Int := (c * 48271 + 7919 * k + 11) % 1000003 * ((c * 48271 + 7919 * k + 11) % 1000003) % 1000003 * ((c * 48271 + 7919 * k + 11) % 1000003) % 1000003
theorem mixv_in (c k : Int) : 0 ≤ mixv c k ∧ mixv c k < 1000003 := by unfold mixv; omega
theorem r_lwhole {i : Int} : call P.pr (n + 1) hot 138 [.int i] M = .ok ⟨.f, .bl true⟩ M := by
  have h1 := isi_some (T := tab) (hot := hot) (M := M) (x := .int i) (u := .int) (t := .int) rfl
  have h2 := isi_some (T := tab) (hot := hot) (M := M) (x := .int i) (u := .bool) (t := .int) rfl
  simp [ex, ev, evs, evb, VM.start, bind_ok, bind_ex, bw_ok, bw_ex, fz_f, fz_n, fz_ex, bl_ok, bl_ex, on_ok, on_ex, next_nx, next_rt, next_ex, res_nx, res_rt, res_ex, out_f, out_n, out_b, okB_some, okI_some, okO_some, ok1_eq, okn_eq, okL_some, add_int, sub_int, mul_int, fdiv_int, mod_int, lt_int, le_int, gt_int, ge_int, eq_int, ne_int, eq_str, ne_str, is_non, isn_non, abs_int, int_int, int_bl, divmod_ok, pfHot, store, setE, isN, noO, isO, wipe, Tg.bind, Tg.binds, Tg.is, evIt, forF, lcF, C.isFrz, bind_if, next_if, res_if, attr, clsOf, deref, getF, fld, E.isNil,  isTn, line, small_mul_r, small_mul_l, small_lit, small_neg, small_mod, it_lst, it_tup, it_scr, go__law_whole, c__law_whole, h1, h2]
end

/-! rules as the laws draw them -/
section
variable {n : Nat} {hot : Hot} {M : Mem}
theorem getD_in {α : Type} {xs : List α} {i : Nat} {z : α} (h : i < xs.length) : xs.getD i z ∈ xs := by
  rw [List.getD_eq_getElem?_getD, List.getElem?_eq_getElem h]
  exact List.getElem_mem h
theorem ix_map {α : Type} {f : α → D} {xs : List α} {i : Int} (z : α) (h0 : 0 ≤ i) (h : i < xs.length) : index (.lst (xs.map f)) (.int i) M = .ok ⟨.f, f (xs.getD i.toNat z)⟩ M := by
  show okO (at? (xs.map f) i) M = _
  rw [at_int _ h0, List.getElem?_map, List.getD_eq_getElem?_getD, List.getElem?_eq_getElem (show i.toNat < xs.length by omega)]
  rfl
theorem ix_ints {xs : List Int} {i : Int} (h0 : 0 ≤ i) (h : i < xs.length) : index (.lst (xs.map D.int)) (.int i) M = .ok ⟨.f, .int (xs.getD i.toNat 0)⟩ M := ix_map (f := D.int) 0 h0 h
theorem ix_strs {xs : List (List Nat)} {i : Int} (h0 : 0 ≤ i) (h : i < xs.length) : index (.lst (xs.map D.str)) (.int i) M = .ok ⟨.f, .str (xs.getD i.toNat [])⟩ M := ix_map (f := D.str) [] h0 h
theorem pow12 : binop .pow (.int 10) (.int 12) M = .ok ⟨.f, .int 1000000000000⟩ M := pow_ten (k := 12) (by decide)
def amtL (m w : Int) : List Int := [0, m / 7 % 30, m / 7 % 40000, m / 7 % 19 * 5000, m / 7 * 50, (m * 1000003 + w) % 1000000000001, 1000000000000]
def amt (c k : Int) : Int := (amtL (mixv c k) (mixv c (k + 60))).getD (mixv c k % 7).toNat 0
theorem amt_ok (c k : Int) : isA (amt c k) := by
  have a := mixv_in c k
  have b := mixv_in c (k + 60)
  have : amt c k ∈ amtL (mixv c k) (mixv c (k + 60)) := getD_in (by simp only [amtL, List.length_cons, List.length_nil]; omega)
  simp only [amtL, List.mem_cons, List.not_mem_nil, or_false] at this
  unfold isA
  omega
def ptsL (m : Int) : List Int := [0, 1, 5000, 2500, 10000, 20000, 19999, 625, m / 10 % 20001, m / 10 % 300]
def pts (c k : Int) : Int := (ptsL (mixv c k)).getD (mixv c k % 10).toNat 0
theorem pts_ok (c k : Int) : isP (pts c k) := by
  have a := mixv_in c k
  have : pts c k ∈ ptsL (mixv c k) := getD_in (by simp only [ptsL, List.length_cons, List.length_nil]; omega)
  simp only [ptsL, List.mem_cons, List.not_mem_nil, or_false] at this
  unfold isP
  omega
def wayv (c k : Int) : Way := [Way.down, .up, .near, .even].getD (mixv c k / 5 % 4).toNat .down
def bsv (c k : Int) : Int := if c % 4 = 1 then amt c (10 + k) % 9 else amt c (10 + k)
theorem bsv_ok (c k : Int) : isA (bsv c k) := by
  have := amt_ok c (10 + k)
  unfold bsv
  split
  · unfold isA at *; omega
  · exact this
def bsL (c : Int) (N : Nat) : List Int := (List.range N).map fun k : Nat => bsv c (k : Int)
theorem bsL_ok {c : Int} {N : Nat} : ∀ b ∈ bsL c N, isA b := fun b hb => by
  obtain ⟨k, _, rfl⟩ := List.mem_map.mp hb
  exact bsv_ok _ _
theorem bsL_pos {c : Int} {N : Nat} : posL (bsL c N) := fun b hb => (bsL_ok b hb).1
theorem bsL_len {c : Int} {N : Nat} : (bsL c N).length = N := by unfold bsL; rw [List.length_map, List.length_range]
theorem bsL_succ {c : Int} {N : Nat} : bsL c (N + 1) = bsL c N ++ [bsv c (N : Int)] := by unfold bsL; rw [List.range_succ, List.map_append]; rfl
/-! names -/
def some21 : List Nat := [97, 99, 100, 102, 103, 104, 105, 106, 107, 108, 111, 112, 113, 114, 116, 117, 118, 119, 120, 121, 122]
def frm (c : Int) : List Nat := (List.range 7).map fun j : Nat => some21.getD (mixv c (120 + (j : Int)) % 21).toNat 0
def wrds : List (List Nat) := [[98, 97, 115, 101, 115], [110, 101, 116, 115], [109, 111, 110, 116, 104, 115], [115, 117, 109], [110, 101], [98, 97, 115, 105, 115], [98, 101, 116], [115, 117, 109, 115, 117, 109], [110, 101, 116, 110, 101, 116], [109, 111, 110, 116]]
def nAt (c : Int) : Int := mixv c 3 / 3 % 8
def nSz (c : Int) : Int := nAt c + mixv c 3 / 24 % (8 - nAt c)
def nm0 (c : Int) (x : Nat) : List Nat := cutL (frm c) none (some (nAt c)) ++ [x] ++ cutL (frm c) (some (nAt c)) (some (nSz c))
def nmv (c : Int) (k : Nat) : List Nat :=
  if mixv c 3 % 3 = 0 then nm0 c (abc.getD ((mixv c 3 / 200 + 3 * (k : Int)) % 26).toNat 0)
  else if mixv c 3 % 3 = 1 then cutL (113 :: frm c) none (some (1 + (k : Int)))
  else wrds.getD ((mixv c 3 / 3 + (k : Int)) % 10).toNat []
def nmL (c : Int) (N : Nat) : List (List Nat) := (List.range N).map (nmv c)
theorem strsOf_map {α : Type} {f : α → List Nat} : ∀ xs : List α, strsOf (xs.map fun x => D.str (f x)) = some (xs.map f)
  | [] => rfl
  | x :: xs => by
    show (strsOf (xs.map fun x => D.str (f x))).map (f x :: ·) = _
    rw [strsOf_map xs]; rfl
theorem join_one {α : Type} {f : α → Nat} : ∀ xs : List α, joinS [] (xs.map fun x => [f x]) = xs.map f
  | [] => rfl
  | [x] => rfl
  | x :: y :: r => by
    show [f x] ++ ([] ++ joinS [] ((y :: r).map fun x => [f x])) = _
    rw [join_one (y :: r)]; rfl
theorem lens_one {α : Type} {f : α → Nat} (xs : List α) : ((xs.map fun x => [f x]).map List.length).sum = xs.length := by
  rw [List.map_map]
  induction xs with
  | nil => rfl
  | cons x xs ih => rw [List.map_cons, List.sum_cons, ih]; show 1 + xs.length = xs.length + 1; omega
theorem join_chars {α : Type} {f : α → Nat} {xs : List α} (h : xs.length < line) : tmD .join [] [.lst (xs.map fun x => D.str [f x])] M = .ok ⟨.f, .str (xs.map f)⟩ M := by
  show (match (some (xs.map fun x => D.str [f x])).bind strsOf with
    | some ps => if (ps.map List.length).sum + ps.length * 0 < line then ok1 (.str (joinS [] ps)) M else .stk
    | none => .stk) = _
  rw [Option.bind_some, strsOf_map (f := fun x => [f x])]
  show (if ((xs.map fun x => [f x]).map List.length).sum + (xs.map fun x => [f x]).length * 0 < line then _ else _) = _
  rw [lens_one, join_one, if_pos (by omega)]; rfl
theorem ix_chr {s : List Nat} {i : Int} (h0 : 0 ≤ i) (h : i < s.length) : index (.str s) (.int i) M = .ok ⟨.f, .str [s.getD i.toNat 0]⟩ M := by
  show okO ((at? s i).map fun c => .str [c]) M = _
  rw [at_int _ h0, List.getD_eq_getElem?_getD, List.getElem?_eq_getElem (show i.toNat < s.length by omega)]
  rfl
theorem add_str {a b : List Nat} (h : a.length + b.length < 16777216) : binop .add (.str a) (.str b) M = .ok ⟨.f, .str (a ++ b)⟩ M := by
  show (if a.length + b.length < line then _ else _) = _
  rw [if_pos (show a.length + b.length < line from h)]; rfl
theorem sl_str {s : List Nat} {lo hi : Option Int} : slD (.str s) lo hi M = .ok ⟨.f, .str (cutL s lo hi)⟩ M := rfl
theorem pr_take {s : List Nat} {i : Int} : prim (.sl false true) [.str s, .int i] M = .ok ⟨.f, .str (cutL s none (some i))⟩ M := rfl
theorem cutL_sub {α : Type} (xs : List α) (lo hi : Option Int) : ∀ x ∈ cutL xs lo hi, x ∈ xs := fun x hx => by
  unfold cutL at hx
  exact List.mem_of_mem_drop (List.mem_of_mem_take hx)
theorem cut_to {α : Type} {xs : List α} {i : Int} (h0 : 0 ≤ i) (h : i ≤ xs.length) : (cutL xs none (some i)).length = i.toNat := by
  unfold cutL clampI
  simp only [List.drop_zero, Nat.sub_zero, List.length_take]
  rw [if_neg (by omega)]
  omega
theorem cut_be {α : Type} {xs : List α} {i j : Int} (h0 : 0 ≤ i) (h : i ≤ j) (h1 : j ≤ xs.length) : (cutL xs (some i) (some j)).length = (j - i).toNat := by
  unfold cutL clampI
  simp only [List.length_take, List.length_drop]
  rw [if_neg (by omega), if_neg (by omega)]
  omega
theorem frm_len {c : Int} : (frm c).length = 7 := by unfold frm; rw [List.length_map, List.length_range]
theorem frm_some {c : Int} : ∀ x ∈ frm c, x ∈ some21 := fun x hx => by
  obtain ⟨j, _, rfl⟩ := List.mem_map.mp hx
  exact getD_in (by simp only [some21, List.length_cons, List.length_nil]; omega)
theorem nAt_in (c : Int) : 0 ≤ nAt c ∧ nAt c ≤ 7 ∧ nAt c ≤ nSz c ∧ nSz c ≤ 7 := by
  have h : 0 ≤ nAt c ∧ nAt c ≤ 7 := by unfold nAt; omega
  have h1 := Int.emod_nonneg (mixv c 3 / 24) (show 8 - nAt c ≠ 0 by omega)
  have h2 := Int.emod_lt_of_pos (mixv c 3 / 24) (show 0 < 8 - nAt c by omega)
  unfold nSz
  omega
theorem some_abc : ∀ x ∈ some21, x ∈ abc := by decide
/-- signs that no frame has -/
def odd (s : List Nat) : Nat := s.countP fun x => decide (x ∉ some21)
theorem odd_no {s : List Nat} (h : odd s ≤ 1) : s ∉ noNm := fun m => by
  have : ∀ t ∈ noNm, 2 ≤ odd t := by decide
  have := this s m
  omega
theorem odd_nil {s : List Nat} (h : ∀ x ∈ s, x ∈ some21) : odd s = 0 := by
  unfold odd
  rw [List.countP_eq_zero]
  intro x hx
  simp [h x hx]
theorem good_of {s : List Nat} (h1 : 1 ≤ s.length) (h2 : s.length ≤ 8) (h3 : ∀ x ∈ s, x ∈ abc) (h4 : odd s ≤ 1) : GoodNm s := by
  refine ⟨?_, odd_no h4⟩
  unfold isNm isOf
  simp only [Bool.and_eq_true, decide_eq_true_eq, List.all_eq_true]
  exact ⟨⟨h1, h2⟩, h3⟩
theorem nm0_good {c : Int} {x : Nat} (hx : x ∈ abc) : GoodNm (nm0 c x) := by
  obtain ⟨a1, a2, a3, a4⟩ := nAt_in c
  have l1 := cut_to (xs := frm c) a1 (by rw [frm_len]; omega)
  have l2 := cut_be (xs := frm c) a1 a3 (by rw [frm_len]; omega)
  have s1 : ∀ y ∈ cutL (frm c) none (some (nAt c)), y ∈ some21 := fun y hy => frm_some y (cutL_sub _ _ _ y hy)
  have s2 : ∀ y ∈ cutL (frm c) (some (nAt c)) (some (nSz c)), y ∈ some21 := fun y hy => frm_some y (cutL_sub _ _ _ y hy)
  have len : (nm0 c x).length = (nAt c).toNat + 1 + (nSz c - nAt c).toNat := by
    unfold nm0
    rw [List.length_append, List.length_append, l1, l2]; rfl
  refine good_of (by omega) (by omega) (fun y hy => ?_) ?_
  · unfold nm0 at hy
    rw [List.mem_append, List.mem_append] at hy
    rcases hy with (hy | hy) | hy
    · exact some_abc _ (s1 y hy)
    · rw [List.mem_singleton] at hy; exact hy ▸ hx
    · exact some_abc _ (s2 y hy)
  · have o1 := odd_nil s1
    have o2 := odd_nil s2
    unfold odd at *
    unfold nm0
    rw [List.countP_append, List.countP_append, o1, o2]
    have := List.countP_le_length (p := fun y => decide (y ∉ some21)) (l := [x])
    simp only [List.length_cons, List.length_nil] at this
    omega
theorem q_some {c : Int} : ∀ x ∈ 113 :: frm c, x ∈ some21 := fun x hx => by
  rcases List.mem_cons.mp hx with rfl | hx
  · decide
  · exact frm_some x hx
theorem wrds_len : wrds.length = 10 := rfl
theorem nmv_good (c : Int) {k : Nat} (hk : k < 8) : GoodNm (nmv c k) := by
  unfold nmv
  split
  · exact nm0_good (getD_in (by have : abc.length = 26 := rfl; omega))
  · split
    · have l := cut_to (xs := 113 :: frm c) (i := 1 + (k : Int)) (by omega) (by rw [List.length_cons, frm_len]; omega)
      have s1 : ∀ y ∈ cutL (113 :: frm c) none (some (1 + (k : Int))), y ∈ some21 := fun y hy => q_some y (cutL_sub _ _ _ y hy)
      exact good_of (by omega) (by omega) (fun y hy => some_abc _ (s1 y hy)) (by rw [odd_nil s1]; omega)
    · have : ∀ w ∈ wrds, isNm w = true ∧ w ∉ noNm := by decide
      have := this _ (getD_in (xs := wrds) (z := []) (i := ((mixv c 3 / 3 + (k : Int)) % 10).toNat) (by rw [wrds_len]; omega))
      exact ⟨this.1, this.2⟩
theorem abc_inj : ∀ i < 26, ∀ j < 26, abc.getD i 0 = abc.getD j 0 → i = j := by decide
theorem wrds_inj : ∀ i < 10, ∀ j < 10, wrds.getD i [] = wrds.getD j [] → i = j := by decide
theorem nmv_inj (c : Int) {k j : Nat} (hk : k < 8) (hj : j < 8) (h : nmv c k = nmv c j) : k = j := by
  unfold nmv at h
  split at h
  · unfold nm0 at h
    have h := List.append_cancel_right h
    have h := List.append_cancel_left h
    have := abc_inj _ (by omega) _ (by omega) (List.cons.inj h).1
    omega
  · split at h
    · have l := cut_to (xs := 113 :: frm c) (i := 1 + (k : Int)) (by omega) (by rw [List.length_cons, frm_len]; omega)
      have l2 := cut_to (xs := 113 :: frm c) (i := 1 + (j : Int)) (by omega) (by rw [List.length_cons, frm_len]; omega)
      rw [h] at l
      omega
    · have := wrds_inj _ (by omega) _ (by omega) h
      omega
theorem nmL_good {c : Int} {N : Nat} (hN : N ≤ 8) : ∀ s ∈ nmL c N, GoodNm s := fun s hs => by
  obtain ⟨k, hk, rfl⟩ := List.mem_map.mp hs
  have := List.mem_range.mp hk
  exact nmv_good c (by omega)
theorem nmL_nodup {c : Int} {N : Nat} (hN : N ≤ 8) : (nmL c N).Nodup := by
  unfold nmL
  rw [List.nodup_iff_pairwise_ne, List.pairwise_map]
  refine (List.pairwise_lt_range (n := N)).imp_of_mem fun {a b} ha hb h e => ?_
  have := List.mem_range.mp ha
  have := List.mem_range.mp hb
  have := nmv_inj c (by omega) (by omega) e
  omega
theorem nmL_len {c : Int} {N : Nat} : (nmL c N).length = N := by unfold nmL; rw [List.length_map, List.length_range]
end

section
variable {n : Nat} {hot : Hot} {M : Mem}
/-- an answer whose text is this one -/
def Tx (M : Mem) (p : List Nat) : Rs KD → Prop
  | .ok ⟨_, d⟩ M' => M' = M ∧ txtOf d = some p
  | _ => False
theorem Tx_ok {p : List Nat} {kd : Kd} {d : D} : Tx M p (.ok ⟨kd, d⟩ M) = (txtOf d = some p) := by simp [Tx]
/-- an f-string's parts are these texts -/
def Pt (hot : Hot) (k : Nat) (σ : List SV) (M : Mem) : E → List (List Nat) → Prop
  | .cons a as, p :: ps => Tx M p (ev tab (call P.pr k hot) hot a σ M) ∧ Pt hot k σ M as ps
  | .nil, [] => True
  | _, _ => False
theorem evf_ok {M : Mem} {hot : Hot} {k : Nat} {σ : List SV} : ∀ {as : E} {ps : List (List Nat)} {acc : List Nat}, Pt hot k σ M as ps → acc.length + (ps.map List.length).sum < line → evf tab (call P.pr k hot) hot as acc σ M = .ok (acc ++ ps.flatten) M
  | .nil, [], acc, _, _ => by simp only [evf, List.flatten_nil, List.append_nil]
  | .cons a as, p :: ps, acc, h, l => by
    obtain ⟨t, h⟩ := h
    cases e : ev tab (call P.pr k hot) hot a σ M with
    | ok r M' =>
      obtain ⟨kd, d⟩ := r
      rw [e] at t
      obtain ⟨rfl, t⟩ := t
      simp only [List.map_cons, List.sum_cons] at l
      have l1 : acc.length + p.length < line := by omega
      have := evf_ok (acc := acc ++ p) h (by rw [List.length_append]; omega)
      simp only [evf, e, bw_ok, bind_ok, t, l1, if_true, this, List.flatten_cons, List.append_assoc]
    | ex C M' => rw [e] at t; exact t.elim
    | stk => rw [e] at t; exact t.elim
theorem txt_int {i : Int} (h : i.natAbs < 10 ^ 200) : txtOf (.int i) = some (intS i) := by
  show (if i.natAbs < 10 ^ 200 then some (intS i) else none) = _
  rw [if_pos h]
theorem txt_str {s : List Nat} : txtOf (.str s) = some s := rfl
theorem str1_int {i : Int} (h : i.natAbs < 10 ^ 200) : prim .str1 [.int i] M = .ok ⟨.f, .str (intS i)⟩ M := by
  show (match txtOf (.int i) with
    | some s => ok1 (.str s) M
    | none => .stk) = _
  rw [txt_int h]; rfl
theorem str1_str {s : List Nat} : prim .str1 [.str s] M = .ok ⟨.f, .str s⟩ M := rfl
theorem join_ok {ps : List (List Nat)} {a : List Nat} (h : (ps.map List.length).sum + ps.length * a.length < line) : tmD .join a [.lst (ps.map D.str)] M = .ok ⟨.f, .str (joinS a ps)⟩ M := by
  show (match (some (ps.map D.str)).bind strsOf with
    | some ps => if (ps.map List.length).sum + ps.length * a.length < line then ok1 (.str (joinS a ps)) M else .stk
    | none => .stk) = _
  have := strsOf_map (f := fun x : List Nat => x) ps
  rw [Option.bind_some, this, List.map_id']
  show (if (ps.map List.length).sum + ps.length * a.length < line then _ else _) = _
  rw [if_pos h]; rfl
theorem fig_len {i : Int} {k : Nat} (h : i.natAbs < 10 ^ (k + 1)) : (intS i).length ≤ k + 2 := by
  have := numS_len k i.natAbs h
  unfold intS
  split
  · rw [List.length_cons]; omega
  · omega
theorem far_ok {i : Int} (h : i.natAbs < 10 ^ 13) : i.natAbs < 10 ^ 200 := Nat.lt_of_lt_of_le h (Nat.pow_le_pow_right (by decide) (by decide))
theorem isA_far {i : Int} (h : isA i) : i.natAbs < 10 ^ 200 := far_ok (by unfold isA at h; omega)
theorem isP_far {i : Int} (h : isP i) : i.natAbs < 10 ^ 200 := far_ok (by unfold isP at h; omega)
theorem isA_len {i : Int} (h : isA i) : (intS i).length ≤ 14 := fig_len (k := 12) (by unfold isA at h; omega)
theorem isP_len {i : Int} (h : isP i) : (intS i).length ≤ 14 := fig_len (k := 12) (by unfold isP at h; omega)
theorem Way.len (w : Way) : w.s.length ≤ 4 := by cases w <;> simp [Way.s]
end

/-! the plain kinds: the program's own -/
section
variable {n : Nat} {hot : Hot} {M : Mem}
theorem getD_end {x : D} : (M ++ [x]).getD M.length .non = x := by
  rw [List.getD_eq_getElem?_getD, List.getElem?_append_right (Nat.le_refl _), Nat.sub_self]; rfl
theorem getQ_end {x : D} : (M ++ [x])[M.length]? = some x := by
  rw [List.getElem?_append_right (Nat.le_refl _), Nat.sub_self]; rfl
theorem set_end {x y : D} : (M ++ [x]).set M.length y = M ++ [y] := by
  rw [List.set_append_right _ _ (Nat.le_refl _), Nat.sub_self]; rfl
theorem take_end {x : D} : (M ++ [x]).take M.length = M := by
  rw [List.take_append_of_le_length (Nat.le_refl _), List.take_length]
theorem mk_ok {x : D} (h : x.low M.length = true) (hd : x.isDlk = false := by rfl) : mkR true M (.ok ⟨.f, .non⟩ (M ++ [x])) = .ok ⟨.n, x⟩ M := by
  show (if (sames ((M ++ [x]).take M.length) M && decide ((M ++ [x]).length = M.length + 1) && ((M ++ [x]).getD M.length .non).low M.length && !((M ++ [x]).getD M.length .non).isDlk) = true then Rs.ok (KD.mk .n ((M ++ [x]).getD M.length .non)) M else .stk) = _
  rw [take_end, getD_end, sames_refl, h, hd, List.length_append]
  have : decide (M.length + [x].length = M.length + 1) = true := by simp
  rw [this]; rfl
theorem no_names {nm : List Nat} (h : GoodNm nm) : cmpop .isin (.str nm) (.tup [.str [98, 97, 115, 101], .str [110, 101, 116], .str [109, 111, 110, 116, 104], .str [115, 117, 109, 115]]) M = some false := by
  have := h.no
  simp only [noNm, List.mem_cons, List.not_mem_nil, or_false, not_or] at this
  obtain ⟨a, b, c, d⟩ := this
  have a := Ne.symm a
  have b := Ne.symm b
  have c := Ne.symm c
  have d := Ne.symm d
  simp [cmpop, isin, deref, D.flat, inL, D.eq, a, b, c, d]
/-! flat -/
/-! share -/
/-! capped -/
/-! least -/
/-! their rows -/
def sp : List Nat := [32]
def Rl.row : Rl → List Nat
  | .flat nm a => [102, 108, 97, 116, 32] ++ (nm ++ (sp ++ intS a))
  | .share nm p w => [115, 104, 97, 114, 101, 32] ++ (nm ++ (sp ++ (intS p ++ (sp ++ w.s))))
  | .capped nm p m w => [99, 97, 112, 112, 101, 100, 32] ++ (nm ++ (sp ++ (intS p ++ (sp ++ (intS m ++ (sp ++ w.s))))))
  | .least nm p m w => [108, 101, 97, 115, 116, 32] ++ (nm ++ (sp ++ (intS p ++ (sp ++ (intS m ++ (sp ++ w.s))))))
  | .bands nm ps w => [98, 97, 110, 100, 115, 32] ++ (nm ++ (sp ++ (joinS [44] (ps.map fun p => intS p.1 ++ ([58] ++ intS p.2)) ++ (sp ++ w.s))))
  | .ontop nm p w u => [111, 110, 116, 111, 112, 32] ++ (nm ++ (sp ++ (intS p ++ (sp ++ (w.s ++ ([32, 111, 102, 32] ++ u.row))))))
theorem line_eq : line = 16777216 := rfl
end

/-! texts: figures, cutting -/
section
theorem dgv_snoc (s : List Nat) (c : Nat) : dgv (s ++ [c]) = dgv s * 10 + (c - 48) := by unfold dgv; rw [List.foldl_append]; rfl
theorem dig_val {m : Nat} (h : m < 10) : (Nat.digitChar m).toNat = 48 + m := by
  have : ∀ k : Nat, k < 10 → (Nat.digitChar k).toNat = 48 + k := by decide
  exact this m h
theorem dgv_num : ∀ (k n : Nat), n < 10 ^ (k + 1) → dgv (numS n) = n
  | 0, n, h => by
    rw [numS_lt (by simpa using h), dig_val (by simpa using h)]
    show 0 * 10 + (48 + n - 48) = n
    omega
  | k + 1, n, h => by
    by_cases h1 : n < 10
    · rw [numS_lt h1, dig_val h1]
      show 0 * 10 + (48 + n - 48) = n
      omega
    · rw [numS_ge h1, dgv_snoc, dgv_num k (n / 10) (by rw [Nat.pow_succ] at h; omega), dig_val (by omega)]
      omega
theorem pow_gt : ∀ n : Nat, n < 10 ^ (n + 1)
  | 0 => by decide
  | n + 1 => by have := pow_gt n; rw [Nat.pow_succ]; omega
theorem dgv_numS (n : Nat) : dgv (numS n) = n := dgv_num n n (pow_gt n)
theorem numS_ne (n : Nat) : numS n ≠ [] := by
  by_cases h : n < 10
  · rw [numS_lt h]; simp
  · rw [numS_ge h]; simp
theorem isDg_numS (n : Nat) : isDg (numS n) = true := by
  unfold isDg
  rw [Bool.and_eq_true]
  refine ⟨?_, ?_⟩
  · cases h : numS n with
    | nil => exact absurd h (numS_ne n)
    | cons a b => rfl
  · rw [List.all_eq_true]
    exact fun c hc => decide_eq_true (numS_dig n c hc)
theorem intS_pos {i : Int} (h : 0 ≤ i) : intS i = numS i.toNat := by
  unfold intS
  rw [if_neg (by omega), show i.natAbs = i.toNat by omega]
theorem dgv_intS {i : Int} (h : 0 ≤ i) : ((dgv (intS i) : Nat) : Int) = i := by
  rw [intS_pos h, dgv_numS]; omega
/-! cutting at one sign -/
theorem cut1_no {c : Nat} : ∀ (w acc : List Nat), c ∉ w → cut1 c acc w = [acc ++ w]
  | [], acc, _ => by simp [cut1]
  | x :: w, acc, h => by
    have h1 : x ≠ c := fun z => h (z ▸ List.mem_cons_self)
    rw [cut1, if_neg h1, cut1_no w _ (fun z => h (List.mem_cons_of_mem _ z))]
    simp
theorem cut1_app {c : Nat} {r : List Nat} : ∀ (w acc : List Nat), c ∉ w → cut1 c acc (w ++ c :: r) = (acc ++ w) :: cut1 c [] r
  | [], acc, _ => by simp [cut1]
  | x :: w, acc, h => by
    have h1 : x ≠ c := fun z => h (z ▸ List.mem_cons_self)
    rw [List.cons_append, cut1, if_neg h1, cut1_app w _ (fun z => h (List.mem_cons_of_mem _ z))]
    simp
theorem cut1_join {c : Nat} : ∀ (ws : List (List Nat)), ws ≠ [] → (∀ w ∈ ws, c ∉ w) → cut1 c [] (joinS [c] ws) = ws
  | [], h, _ => absurd rfl h
  | [w], _, h => by rw [joinS, cut1_no _ _ (h w List.mem_cons_self)]; rfl
  | w :: v :: r, _, h => by
    show cut1 c [] (w ++ ([c] ++ joinS [c] (v :: r))) = _
    rw [List.singleton_append, cut1_app _ _ (h w List.mem_cons_self), cut1_join (v :: r) (by simp) (fun x hx => h x (List.mem_cons_of_mem _ hx))]
    rfl
theorem par1_app {c : Nat} {r : List Nat} : ∀ (w acc : List Nat), c ∉ w → par1 c acc (w ++ c :: r) = some (acc ++ w, r)
  | [], acc, _ => by simp [par1]
  | x :: w, acc, h => by
    have h1 : x ≠ c := fun z => h (z ▸ List.mem_cons_self)
    rw [List.cons_append, par1, if_neg h1, par1_app w _ (fun z => h (List.mem_cons_of_mem _ z))]
    simp
theorem par1_no {c : Nat} : ∀ (w acc : List Nat), c ∉ w → par1 c acc w = none
  | [], acc, _ => rfl
  | x :: w, acc, h => by
    have h1 : x ≠ c := fun z => h (z ▸ List.mem_cons_self)
    rw [par1, if_neg h1, par1_no w _ (fun z => h (List.mem_cons_of_mem _ z))]
/-- what is cut gives the text back -/
theorem cut1_ne {c : Nat} : ∀ (a acc : List Nat), cut1 c acc a ≠ []
  | [], acc => by simp [cut1]
  | x :: a, acc => by
    rw [cut1]
    split
    · simp
    · exact cut1_ne a _
theorem join_cons {c : Nat} (w : List Nat) : ∀ ws : List (List Nat), ws ≠ [] → joinS [c] (w :: ws) = w ++ c :: joinS [c] ws
  | [], h => absurd rfl h
  | v :: r, _ => rfl
theorem join_cut1 {c : Nat} : ∀ (a acc : List Nat), joinS [c] (cut1 c acc a) = acc ++ a
  | [], acc => by simp [cut1, joinS]
  | x :: a, acc => by
    rw [cut1]
    split
    · rename_i h
      subst h
      rw [join_cons _ _ (cut1_ne _ _), join_cut1 a []]
      simp
    · rw [join_cut1 a]
      simp
theorem cut1_mem {c : Nat} : ∀ (a acc : List Nat), c ∉ acc → ∀ w ∈ cut1 c acc a, c ∉ w
  | [], acc, h, w, hw => by
    simp only [cut1, List.mem_singleton] at hw
    exact hw ▸ h
  | x :: a, acc, h, w, hw => by
    rw [cut1] at hw
    split at hw
    · rcases List.mem_cons.mp hw with rfl | hw
      · exact h
      · exact cut1_mem a [] (by simp) w hw
    · rename_i hx
      exact cut1_mem a _ (by simp [h, Ne.symm hx]) w hw
theorem cut1_sub {c : Nat} : ∀ (a acc : List Nat), ∀ w ∈ cut1 c acc a, ∀ x ∈ w, x ∈ acc ∨ x ∈ a
  | [], acc, w, hw, x, hx => by
    simp only [cut1, List.mem_singleton] at hw
    exact .inl (hw ▸ hx)
  | y :: a, acc, w, hw, x, hx => by
    rw [cut1] at hw
    split at hw
    · rcases List.mem_cons.mp hw with rfl | hw
      · exact .inl hx
      · rcases cut1_sub a [] w hw x hx with h | h
        · cases h
        · exact .inr (List.mem_cons_of_mem _ h)
    · rcases cut1_sub a _ w hw x hx with h | h
      · rcases List.mem_append.mp h with h | h
        · exact .inl h
        · rw [List.mem_singleton] at h
          exact .inr (h ▸ List.mem_cons_self)
      · exact .inr (List.mem_cons_of_mem _ h)
theorem cut1_len {c : Nat} : ∀ (a acc : List Nat), ∀ w ∈ cut1 c acc a, w.length ≤ acc.length + a.length
  | [], acc, w, hw => by
    simp only [cut1, List.mem_singleton] at hw
    rw [hw]; omega
  | y :: a, acc, w, hw => by
    rw [cut1] at hw
    split at hw
    · rcases List.mem_cons.mp hw with rfl | hw
      · omega
      · have := cut1_len a [] w hw
        simp only [List.length_nil, List.length_cons] at *; omega
    · have := cut1_len a _ w hw
      simp only [List.length_append, List.length_cons, List.length_nil] at *; omega
theorem cut1_num {c : Nat} : ∀ (a acc : List Nat), (cut1 c acc a).length ≤ a.length + 1
  | [], acc => by simp [cut1]
  | y :: a, acc => by
    rw [cut1]
    split
    · have := cut1_num (c := c) a []
      simp only [List.length_cons]; omega
    · have := cut1_num (c := c) a (acc ++ [y])
      simp only [List.length_cons]; omega
end

/-! rules: read from their rows -/
section
variable {n : Nat} {hot : Hot} {M : Mem}
theorem sp_split {a : List Nat} (h : a.length < 100000) : tmD .split a [.str [32]] M = .ok ⟨.n, .lst ((cut1 32 [] a).map D.str)⟩ M := by
  show (if ([32] : List Nat).isEmpty = false ∧ ([32] : List Nat).all (fun c => decide (c < 256)) = true ∧ a.length + 2 ≤ line then _ else _) = _
  rw [if_pos ⟨rfl, rfl, by rw [line_eq]; omega⟩]; rfl
theorem cm_split {a : List Nat} (h : a.length < 100000) : tmD .split a [.str [44]] M = .ok ⟨.n, .lst ((cut1 44 [] a).map D.str)⟩ M := by
  show (if ([44] : List Nat).isEmpty = false ∧ ([44] : List Nat).all (fun c => decide (c < 256)) = true ∧ a.length + 2 ≤ line then _ else _) = _
  rw [if_pos ⟨rfl, rfl, by rw [line_eq]; omega⟩]; rfl
def figs : List Nat := [48, 49, 50, 51, 52, 53, 54, 55, 56, 57]
def numW (w : List Nat) : Bool := decide (1 ≤ w.length ∧ w.length ≤ 13) && w.all fun c => decide (c ∈ figs)
theorem fig_in {c : Nat} : c ∈ figs ↔ 48 ≤ c ∧ c ≤ 57 := by
  simp only [figs, List.mem_cons, List.not_mem_nil, or_false]; omega
theorem figs_isDg {w : List Nat} (h : (w.all fun c => decide (c ∈ figs)) = true) (ne : w ≠ []) : isDg w = true := by
  unfold isDg
  rw [Bool.and_eq_true]
  refine ⟨by cases w <;> first | exact absurd rfl ne | rfl, ?_⟩
  rw [List.all_eq_true] at h ⊢
  exact fun c hc => decide_eq_true (fig_in.mp (of_decide_eq_true (h c hc)))
theorem lc_sgn {w g : List Nat} {c : Mem → Bool} {f : D → Mem → Rs (Option D)} (hc : c M = true) (h : ∀ x ∈ (w.map fun c => D.str [c]), f x M = .ok (some (match x with
    | .str [c] => .bl (decide (c ∈ g))
    | _ => .non)) M) : lcL c f (w.map fun c => D.str [c]) M = .ok (w.map fun c => D.bl (decide (c ∈ g))) M := by
  rw [lcL_map hc h, List.map_map]; rfl
theorem all_map {w g : List Nat} : pf .all [.lst (w.map fun c => D.bl (decide (c ∈ g)))] M = .ok ⟨.f, .bl (w.all fun c => decide (c ∈ g))⟩ M := by
  show okB (allB (w.map fun c => D.bl (decide (c ∈ g)))) M = _
  rw [allB_map]; rfl
theorem numW_of {i : Int} (h0 : 0 ≤ i) (h : i ≤ 1000000000000) : numW (intS i) = true ∧ ((dgv (intS i) : Nat) : Int) = i := by
  refine ⟨?_, dgv_intS h0⟩
  rw [intS_pos h0]
  unfold numW
  rw [Bool.and_eq_true]
  refine ⟨decide_eq_true ⟨?_, ?_⟩, ?_⟩
  · have := numS_ne i.toNat
    cases k : numS i.toNat with
    | nil => exact absurd k this
    | cons a b => simp
  · exact numS_len 12 _ (by omega)
  · rw [List.all_eq_true]
    exact fun c hc => decide_eq_true (fig_in.mpr (numS_dig _ c hc))
theorem isP_A {p : Int} (h : isP p) : isA p := by unfold isP at h; unfold isA; omega
end

section
variable {n : Nat} {hot : Hot} {M : Mem}
theorem r_cell (xs : List Int) {k : Int} (hk : 0 ≤ k) : ∃ c : Int, call P.pr (n + 1) hot n__law_cell [.scr (xs.map .int), .int k] M = .ok ⟨.f, .int c⟩ M := by
  have e : pf .len [.scr (xs.map .int)] M = .ok ⟨.f, .int xs.length⟩ M := len_ok (by simp [deref, lenD])
  by_cases h : k < xs.length
  · have hi : index (.scr (xs.map .int)) (.int k) M = .ok ⟨.f, .int (xs.getD k.toNat 0)⟩ M := by
      show okO (at? (xs.map .int) k) M = _
      rw [at_int _ hk, List.getElem?_map, List.getElem?_eq_getElem (by omega)]
      simp [okO, ok1, List.getD, List.getElem?_eq_getElem (show k.toNat < xs.length by omega)]
    exact ⟨xs.getD k.toNat 0, by simp [ex, ev, evs, evb, VM.start, bind_ok, bind_ex, bw_ok, bw_ex, fz_f, fz_n, fz_ex, bl_ok, bl_ex, on_ok, on_ex, next_nx, next_rt, next_ex, res_nx, res_rt, res_ex, out_f, out_n, out_b, okB_some, okI_some, okO_some, ok1_eq, okn_eq, okL_some, add_int, sub_int, mul_int, fdiv_int, mod_int, lt_int, le_int, gt_int, ge_int, eq_int, ne_int, eq_str, ne_str, is_non, isn_non, abs_int, int_int, int_bl, divmod_ok, pfHot, store, setE, isN, noO, isO, wipe, Tg.bind, Tg.binds, Tg.is, evIt, forF, lcF, C.isFrz, bind_if, next_if, res_if, attr, clsOf, deref, getF, fld, E.isNil,  isTn, line, small_mul_r, small_mul_l, small_lit, small_neg, small_mod, it_lst, it_tup, it_scr, n__law_cell, go__law_cell, c__law_cell, e, hi, h]⟩
  · exact ⟨0, by simp [ex, ev, evs, evb, VM.start, bind_ok, bind_ex, bw_ok, bw_ex, fz_f, fz_n, fz_ex, bl_ok, bl_ex, on_ok, on_ex, next_nx, next_rt, next_ex, res_nx, res_rt, res_ex, out_f, out_n, out_b, okB_some, okI_some, okO_some, ok1_eq, okn_eq, okL_some, add_int, sub_int, mul_int, fdiv_int, mod_int, lt_int, le_int, gt_int, ge_int, eq_int, ne_int, eq_str, ne_str, is_non, isn_non, abs_int, int_int, int_bl, divmod_ok, pfHot, store, setE, isN, noO, isO, wipe, Tg.bind, Tg.binds, Tg.is, evIt, forF, lcF, C.isFrz, bind_if, next_if, res_if, attr, clsOf, deref, getF, fld, E.isNil,  isTn, line, small_mul_r, small_mul_l, small_lit, small_neg, small_mod, it_lst, it_tup, it_scr, n__law_cell, go__law_cell, c__law_cell, e, h]⟩
theorem r_mix (xs : List Int) {k : Int} (h0 : 0 ≤ k) (hk : k < 1000) : ∃ m : Int, (0 ≤ m ∧ m < 2147483647) ∧ call P.pr (n + 2) hot n__law_mixed_v0 [.scr (xs.map .int), .int k] M = .ok ⟨.f, .int m⟩ M := by
  obtain ⟨c, hc⟩ := r_cell (n := n) (hot := hot) (M := M) xs h0
  simp only [n__law_cell] at hc
  have k1 : ∀ i, mulOk i k = true := fun i => small_mul_r (small_in (by omega) (by omega))
  have l1 : ∀ i, mulOk i 48271 = true := fun i => small_mul_r (by decide)
  have l2 : ∀ i, mulOk i 16807 = true := fun i => small_mul_r (by decide)
  refine ⟨_, ?_, by
    simp [ex, ev, evs, evb, VM.start, bind_ok, bind_ex, bw_ok, bw_ex, fz_f, fz_n, fz_ex, bl_ok, bl_ex, on_ok, on_ex, next_nx, next_rt, next_ex, res_nx, res_rt, res_ex, out_f, out_n, out_b, okB_some, okI_some, okO_some, ok1_eq, okn_eq, okL_some, add_int, sub_int, mul_int, fdiv_int, mod_int, lt_int, le_int, gt_int, ge_int, eq_int, ne_int, eq_str, ne_str, is_non, isn_non, abs_int, int_int, int_bl, divmod_ok, pfHot, store, setE, isN, noO, isO, wipe, Tg.bind, Tg.binds, Tg.is, evIt, forF, lcF, C.isFrz, bind_if, next_if, res_if, attr, clsOf, deref, getF, fld, E.isNil,  isTn, line, small_mul_r, small_mul_l, small_lit, small_neg, small_mod, it_lst, it_tup, it_scr, n__law_mixed_v0, go__law_mixed_v0, c__law_mixed_v0, hc, k1, l1, l2]
    rfl⟩
  omega
end

/-! amounts as texts: plainly -/
section
def z2 (r : Nat) : List Nat := [48 + r / 10 % 10, 48 + r % 10]
def tolA (a : Int) : List Nat := (if a < 0 then [45] else []) ++ (numS (a.natAbs / 100) ++ ([46] ++ z2 (a.natAbs % 100)))
def fgs : List Nat := [48, 49, 50, 51, 52, 53, 54, 55, 56, 57]
theorem fgs_in {c : Nat} : c ∈ fgs ↔ 48 ≤ c ∧ c ≤ 57 := by
  simp only [fgs, List.mem_cons, List.not_mem_nil, or_false]; omega
def figD (t : List Nat) : Bool := decide (t ≠ []) && t.all fun c => decide (c ∈ fgs)
theorem figD_mem {t : List Nat} (h : figD t = true) : t ≠ [] ∧ ∀ c ∈ t, 48 ≤ c ∧ c ≤ 57 := by
  unfold figD at h
  simp only [Bool.and_eq_true, decide_eq_true_eq, List.all_eq_true] at h
  exact ⟨h.1, fun c hc => fgs_in.mp (h.2 c hc)⟩
theorem figD_of {t : List Nat} (h : t ≠ []) (k : ∀ c ∈ t, 48 ≤ c ∧ c ≤ 57) : figD t = true := by
  unfold figD
  simp only [Bool.and_eq_true, decide_eq_true_eq, List.all_eq_true]
  exact ⟨h, fun c hc => fgs_in.mpr (k c hc)⟩
theorem figD_isDg {t : List Nat} (h : figD t = true) : isDg t = true := by
  obtain ⟨a, b⟩ := figD_mem h
  unfold isDg
  rw [Bool.and_eq_true]
  refine ⟨by cases t <;> first | exact absurd rfl a | rfl, ?_⟩
  rw [List.all_eq_true]
  exact fun c hc => decide_eq_true (b c hc)
theorem numS_snoc {n d : Nat} (hn : 0 < n) (hd : d < 10) : numS (10 * n + d) = numS n ++ [48 + d] := by
  rw [numS_ge (by omega), show (10 * n + d) / 10 = n by omega, show (10 * n + d) % 10 = d by omega, dig_val hd]
theorem numS_one {d : Nat} (hd : d < 10) : numS d = [48 + d] := by rw [numS_lt hd, dig_val hd]
/-- figures without noughts ahead -/
def plainF (w : List Nat) : Prop := w.length = 1 ∨ w.head? ≠ some 48
theorem snocC (w : List Nat) : w = [] ∨ ∃ v c, w = v ++ [c] := by
  rcases List.eq_nil_or_concat w with h | ⟨v, c, h⟩
  · exact .inl h
  · exact .inr ⟨v, c, by rw [h, List.concat_eq_append]⟩
theorem dgv_pos : ∀ {w : List Nat}, w ≠ [] → (∀ c ∈ w, 48 ≤ c ∧ c ≤ 57) → w.head? ≠ some 48 → 0 < dgv w := by
  intro w
  rcases snocC w with rfl | ⟨v, c, rfl⟩
  · exact fun h => absurd rfl h
  · induction hv : v.length generalizing v c with
    | zero =>
      have : v = [] := List.length_eq_zero_iff.mp hv
      subst this
      intro _ hc hh
      have := hc c (by simp)
      have : c ≠ 48 := fun e => hh (by rw [e]; rfl)
      show 0 < 0 * 10 + (c - 48)
      omega
    | succ n ih =>
      intro _ hc hh
      rw [dgv_snoc]
      rcases snocC v with rfl | ⟨u, d, rfl⟩
      · simp at hv
      · have := ih u d (by simpa using hv) (by simp) (fun x hx => hc x (List.mem_append_left _ hx)) (by
          intro e
          apply hh
          cases u with
          | nil => simpa using e
          | cons a b => simpa using e)
        omega
theorem numS_dgv : ∀ {w : List Nat}, w ≠ [] → (∀ c ∈ w, 48 ≤ c ∧ c ≤ 57) → plainF w → numS (dgv w) = w := by
  intro w
  rcases snocC w with rfl | ⟨v, c, rfl⟩
  · exact fun h => absurd rfl h
  · induction hv : v.length generalizing v c with
    | zero =>
      have : v = [] := List.length_eq_zero_iff.mp hv
      subst this
      intro _ hc _
      have := hc c (by simp)
      show numS (0 * 10 + (c - 48)) = [c]
      rw [show 0 * 10 + (c - 48) = c - 48 by omega, numS_one (by omega)]
      congr 1
      omega
    | succ n ih =>
      intro _ hc hp
      rcases snocC v with rfl | ⟨u, d, rfl⟩
      · simp at hv
      · have hh : (u ++ [d]).head? ≠ some 48 := by
          rcases hp with h | h
          · simp at h
          · intro e
            apply h
            cases u with
            | nil => simpa using e
            | cons a b => simpa using e
        have ih := ih u d (by simpa using hv) (by simp) (fun x hx => hc x (List.mem_append_left _ hx)) (.inr hh)
        have p := dgv_pos (w := u ++ [d]) (by simp) (fun x hx => hc x (List.mem_append_left _ hx)) hh
        have := hc c (by simp)
        rw [dgv_snoc, show dgv (u ++ [d]) * 10 + (c - 48) = 10 * dgv (u ++ [d]) + (c - 48) by omega, numS_snoc p (by omega), ih]
        congr 2
        omega
theorem numS_plain : ∀ (k n : Nat), n < 10 ^ (k + 1) → plainF (numS n)
  | 0, n, h => .inl (by rw [numS_one (by simpa using h)]; rfl)
  | k + 1, n, h => by
    by_cases h1 : n < 10
    · exact .inl (by rw [numS_one h1]; rfl)
    · refine .inr ?_
      rw [numS_ge h1]
      have ih := numS_plain k (n / 10) (by rw [Nat.pow_succ] at h; omega)
      have ne := numS_ne (n / 10)
      cases e : numS (n / 10) with
      | nil => exact absurd e ne
      | cons a b =>
        rw [e] at ih
        rcases ih with h | h
        · have : b = [] := by simpa using h
          subst this
          intro z
          have za : a = 48 := by simpa using z
          subst za
          have := dgv_numS (n / 10)
          rw [e] at this
          have : n / 10 = 0 := this.symm
          omega
        · exact h
theorem numS_pl (n : Nat) : plainF (numS n) := numS_plain n n (pow_gt n)
theorem z2_fig (r : Nat) : ∀ c ∈ z2 r, 48 ≤ c ∧ c ≤ 57 := fun c hc => by
  simp only [z2, List.mem_cons, List.not_mem_nil, or_false] at hc
  rcases hc with rfl | rfl <;> omega
theorem z2_dgv {r : Nat} (h : r < 100) : dgv (z2 r) = r := by
  show (0 * 10 + (48 + r / 10 % 10 - 48)) * 10 + (48 + r % 10 - 48) = r
  omega
theorem z2_of {x y : Nat} (hx : 48 ≤ x ∧ x ≤ 57) (hy : 48 ≤ y ∧ y ≤ 57) : z2 (dgv [x, y]) = [x, y] := by
  have e : dgv [x, y] = (0 * 10 + (x - 48)) * 10 + (y - 48) := rfl
  unfold z2
  rw [e]
  simp only [List.cons.injEq, and_true]
  omega
theorem dgv_lt {x y : Nat} (hx : x ≤ 57) (hy : y ≤ 57) : dgv [x, y] < 100 := by
  show (0 * 10 + (x - 48)) * 10 + (y - 48) < 100
  omega
def numT (t : List Nat) : Option Nat := if t.length ≤ 30 ∧ figD t = true ∧ (t.head? = some 48 → t = [48]) then some (dgv t) else none
theorem numS_48 {n : Nat} (e : (numS n).head? = some 48) : numS n = [48] := by
  rcases numS_pl n with p | p
  · cases k : numS n with
    | nil => exact absurd k (numS_ne n)
    | cons a b =>
      rw [k] at p e
      have : b = [] := by simpa using p
      subst this
      have : a = 48 := by simpa using e
      rw [this]
  · exact absurd e p
theorem numT_num {n : Nat} (h : (numS n).length ≤ 30) : numT (numS n) = some n := by
  unfold numT
  rw [if_pos ⟨h, figD_of (numS_ne n) (numS_dig n), numS_48⟩, dgv_numS]
def bodyA (t : List Nat) : List Nat := if [45].isPrefixOf t then t.drop 1 else t
def sgnA (t : List Nat) (k : Nat) : Int := if [45].isPrefixOf t then 0 - (k : Int) else k
def inA (t : List Nat) : Option Int := match par1 46 [] (bodyA t) with
  | none => none
  | some (l, r) => if (numT l).isSome = true ∧ r.length = 2 ∧ figD r = true then (if tolA (sgnA t (100 * dgv l + dgv r)) = t then some (sgnA t (100 * dgv l + dgv r)) else none) else none
theorem inA_told {t : List Nat} {a : Int} (h : inA t = some a) : tolA a = t := by
  unfold inA at h
  split at h
  · cases h
  · split at h
    · split at h
      · rename_i e
        cases h
        exact e
      · cases h
    · cases h
theorem pre45 {t : List Nat} : [45].isPrefixOf t = true ↔ t.head? = some 45 := by
  cases t with
  | nil => simp [List.isPrefixOf]
  | cons a b =>
    simp [List.isPrefixOf]
    exact ⟨Eq.symm, Eq.symm⟩
theorem told_head {a : Int} : [45].isPrefixOf (tolA a) = decide (a < 0) := by
  unfold tolA
  by_cases h : a < 0
  · rw [if_pos h, decide_eq_true h]; rfl
  · rw [if_neg h, decide_eq_false h]
    rw [Bool.eq_false_iff]
    intro z
    rw [pre45] at z
    have ne := numS_ne (a.natAbs / 100)
    have dg := numS_dig (a.natAbs / 100)
    cases e : numS (a.natAbs / 100) with
    | nil => exact absurd e ne
    | cons x y =>
      rw [e] at z dg
      have := dg x (by simp)
      have : x = 45 := by simpa using z
      omega
theorem told_body (a : Int) : bodyA (tolA a) = numS (a.natAbs / 100) ++ 46 :: z2 (a.natAbs % 100) := by
  unfold bodyA
  rw [told_head]
  unfold tolA
  by_cases h : a < 0
  · rw [decide_eq_true h, if_pos rfl, if_pos h]; rfl
  · rw [decide_eq_false h, if_neg (by simp), if_neg h]; rfl
theorem told_sgn (a : Int) : sgnA (tolA a) (100 * (a.natAbs / 100) + a.natAbs % 100) = a := by
  unfold sgnA
  rw [told_head, show 100 * (a.natAbs / 100) + a.natAbs % 100 = a.natAbs by omega]
  by_cases h : a < 0
  · rw [decide_eq_true h, if_pos rfl]; omega
  · rw [decide_eq_false h, if_neg (by simp)]; omega
theorem num_no46 (n : Nat) : 46 ∉ numS n := fun z => by have := numS_dig n _ z; omega
theorem inA_of {a : Int} (h : (numS (a.natAbs / 100)).length ≤ 30) : inA (tolA a) = some a := by
  unfold inA
  rw [told_body, par1_app _ _ (num_no46 _)]
  simp only [List.nil_append]
  rw [if_pos ⟨by rw [numT_num h]; rfl, rfl, figD_of (by simp [z2]) (z2_fig _)⟩, dgv_numS, z2_dgv (Nat.mod_lt _ (by decide)), told_sgn, if_pos rfl]
theorem told_len (a : Int) : (numS (a.natAbs / 100)).length + 3 ≤ (tolA a).length := by
  unfold tolA
  simp [z2]
/-! the law's reading -/
def lrA (t : List Nat) : Option Int :=
  if 30 < t.length then none else
  let b := t.drop (if t.take 1 = [45] then 1 else 0)
  let f := b.take (b.length - 3) ++ b.drop (b.length - 2)
  if (b.drop (b.length - 3)).take 1 ≠ [46] ∨ b.length < 4 ∨ (f.any fun c => decide (c ∉ fgs)) = true then none
  else if (4 < b.length ∧ b.head? = some 48) ∨ t = [45, 48, 46, 48, 48] then none
  else some ((dgv f : Int) * (if t.take 1 = [45] then -1 else 1))
theorem take45 {t : List Nat} : t.take 1 = [45] ↔ [45].isPrefixOf t = true := by
  rw [pre45]
  cases t with
  | nil => simp
  | cons a b => simp
theorem bodyA_eq (t : List Nat) : t.drop (if t.take 1 = [45] then 1 else 0) = bodyA t := by
  unfold bodyA
  by_cases h : t.take 1 = [45]
  · rw [if_pos h, if_pos (take45.mp h)]
  · rw [if_neg h, if_neg (fun z => h (take45.mpr z))]; rfl
theorem dgv_app (s : List Nat) (x y : Nat) (hx : 48 ≤ x) (hy : 48 ≤ y) : dgv (s ++ [x, y]) = 100 * dgv s + dgv [x, y] := by
  rw [show s ++ [x, y] = (s ++ [x]) ++ [y] by simp, dgv_snoc, dgv_snoc]
  show _ = 100 * dgv s + ((0 * 10 + (x - 48)) * 10 + (y - 48))
  omega
theorem split3 {b : List Nat} (h : 4 ≤ b.length) : ∃ w c x y, b = w ++ [c, x, y] ∧ w ≠ [] ∧ b.take (b.length - 3) = w ∧ (b.drop (b.length - 3)).take 1 = [c] ∧ b.drop (b.length - 2) = [x, y] := by
  have e := List.take_append_drop (b.length - 3) b
  have l : (b.drop (b.length - 3)).length = 3 := by rw [List.length_drop]; omega
  match k : b.drop (b.length - 3), l with
  | [c, x, y], _ =>
    rw [k] at e
    refine ⟨b.take (b.length - 3), c, x, y, e.symm, ?_, rfl, rfl, ?_⟩
    · intro z
      have := congrArg List.length z
      rw [List.length_take] at this
      simp at this
      omega
    · have : b.drop (b.length - 2) = (b.drop (b.length - 3)).drop 1 := by
        rw [List.drop_drop]
        congr 1
        omega
      rw [this, k]; rfl
theorem lrA_some {t : List Nat} {a : Int} (h : lrA t = some a) : t.length ≤ 30 ∧ tolA a = t := by
  unfold lrA at h
  split at h
  · cases h
  rename_i h30
  refine ⟨by omega, ?_⟩
  rw [bodyA_eq] at h
  simp only [] at h
  split at h
  · cases h
  rename_i h1
  split at h
  · cases h
  rename_i h2
  simp only [not_or, Decidable.not_not, Nat.not_lt] at h1
  obtain ⟨k1, k2, k3⟩ := h1
  obtain ⟨w, c, x, y, e, wn, e1, e2, e3⟩ := split3 k2
  rw [e1, e3] at h k3
  rw [e2] at k1
  have hc : c = 46 := by simpa using k1
  have fg : ∀ z ∈ w ++ [x, y], 48 ≤ z ∧ z ≤ 57 := fun z hz => by
    have := List.any_eq_false.mp (Bool.eq_false_iff.mpr k3) z hz
    exact fgs_in.mp (by simpa using this)
  have fw : ∀ z ∈ w, 48 ≤ z ∧ z ≤ 57 := fun z hz => fg z (List.mem_append_left _ hz)
  have fx := fg x (by simp)
  have fy := fg y (by simp)
  have pl : plainF w := by
    by_cases k : w.length = 1
    · exact .inl k
    · refine .inr fun z => h2 (.inl ⟨?_, ?_⟩)
      · rw [e, List.length_append]
        have : 0 < w.length := List.length_pos_iff.mpr wn
        simp; omega
      · rw [e]
        cases w with
        | nil => exact absurd rfl wn
        | cons p q => simpa using z
  rw [dgv_app _ _ _ fx.1 fy.1] at h
  have lt := dgv_lt fx.2 fy.2
  have nd := numS_dgv wn fw pl
  have zz := z2_of fx fy
  have eb : bodyA t = w ++ 46 :: [x, y] := by rw [e, hc]
  cases h
  have na : ((((100 * dgv w + dgv [x, y] : Nat) : Int) * (if t.take 1 = [45] then -1 else 1))).natAbs = 100 * dgv w + dgv [x, y] := by split <;> omega
  unfold tolA
  rw [na, show (100 * dgv w + dgv [x, y]) / 100 = dgv w by omega, show (100 * dgv w + dgv [x, y]) % 100 = dgv [x, y] by omega, nd, zz]
  by_cases s : t.take 1 = [45]
  · rw [if_pos s]
    have pos : 0 < 100 * dgv w + dgv [x, y] := by
      rcases Nat.eq_zero_or_pos (100 * dgv w + dgv [x, y]) with z | z
      · exfalso
        apply h2
        right
        have z1 : dgv w = 0 := by omega
        have z3 : dgv [x, y] = 0 := by omega
        rw [z1] at nd
        have w0 : w = [48] := by rw [← nd, numS_one (by decide)]
        rw [z3] at zz
        have xy : [x, y] = [48, 48] := by rw [← zz]; rfl
        have bt : t = 45 :: bodyA t := by
          unfold bodyA
          rw [if_pos (take45.mp s)]
          cases t with
          | nil => simp at s
          | cons p q =>
            have : p = 45 := by simpa using s
            rw [this]; rfl
        rw [bt, eb, w0, xy]; rfl
      · exact z
    rw [if_pos (by omega)]
    have bt : t = 45 :: bodyA t := by
      unfold bodyA
      rw [if_pos (take45.mp s)]
      cases t with
      | nil => simp at s
      | cons p q =>
        have : p = 45 := by simpa using s
        rw [this]; rfl
    rw [bt, eb]; rfl
  · rw [if_neg s, if_neg (by omega)]
    have bt : bodyA t = t := by unfold bodyA; rw [if_neg (fun z => s (take45.mpr z))]
    rw [← bt, eb]; rfl
theorem lrA_of {a : Int} (h : (tolA a).length ≤ 30) : lrA (tolA a) = some a := by
  have nd := numS_dig (a.natAbs / 100)
  have nn := numS_ne (a.natAbs / 100)
  have zf := z2_fig (a.natAbs % 100)
  have hb := told_body a
  unfold lrA
  rw [if_neg (by omega), bodyA_eq, hb]
  simp only []
  have l : (numS (a.natAbs / 100) ++ 46 :: z2 (a.natAbs % 100)).length = (numS (a.natAbs / 100)).length + 3 := by simp [z2]
  have wp : 0 < (numS (a.natAbs / 100)).length := List.length_pos_iff.mpr nn
  have d3 : (numS (a.natAbs / 100) ++ 46 :: z2 (a.natAbs % 100)).drop (numS (a.natAbs / 100)).length = 46 :: z2 (a.natAbs % 100) := by rw [List.drop_append_of_le_length (Nat.le_refl _), List.drop_length]; rfl
  have t3 : (numS (a.natAbs / 100) ++ 46 :: z2 (a.natAbs % 100)).take (numS (a.natAbs / 100)).length = numS (a.natAbs / 100) := by rw [List.take_append_of_le_length (Nat.le_refl _), List.take_length]
  have d2 : (numS (a.natAbs / 100) ++ 46 :: z2 (a.natAbs % 100)).drop ((numS (a.natAbs / 100)).length + 1) = z2 (a.natAbs % 100) := by
    rw [← List.drop_drop, d3]; rfl
  rw [l, show (numS (a.natAbs / 100)).length + 3 - 3 = (numS (a.natAbs / 100)).length by omega, show (numS (a.natAbs / 100)).length + 3 - 2 = (numS (a.natAbs / 100)).length + 1 by omega, d3, t3, d2]
  rw [if_neg (by
    simp only [not_or]
    refine ⟨by simp, by omega, ?_⟩
    intro z
    obtain ⟨c, hc, k⟩ := List.any_eq_true.mp z
    have : c ∉ fgs := by simpa using k
    rcases List.mem_append.mp hc with hc | hc
    · exact this (fgs_in.mpr (nd c hc))
    · exact this (fgs_in.mpr (zf c hc)))]
  rw [if_neg (by
    simp only [not_or, not_and]
    refine ⟨fun z k => ?_, fun z => ?_⟩
    · rcases numS_pl (a.natAbs / 100) with p | p
      · omega
      · apply p
        cases e : numS (a.natAbs / 100) with
        | nil => exact absurd e nn
        | cons x y => rw [e] at k; simpa using k
    · by_cases s : a < 0
      · have b := hb
        rw [z] at b
        have b' : bodyA [45, 48, 46, 48, 48] = [48, 46, 48, 48] := rfl
        rw [b'] at b
        have pa := congrArg (par1 46 []) b
        rw [par1_app _ _ (num_no46 _)] at pa
        have pa' : some (([48] : List Nat), ([48, 48] : List Nat)) = some (numS (a.natAbs / 100), z2 (a.natAbs % 100)) := pa
        have q := Option.some.inj pa'
        have q1 : numS (a.natAbs / 100) = [48] := (congrArg Prod.fst q).symm
        have q2 : z2 (a.natAbs % 100) = [48, 48] := (congrArg Prod.snd q).symm
        have u1 := dgv_numS (a.natAbs / 100)
        rw [q1] at u1
        have u2 := z2_dgv (r := a.natAbs % 100) (Nat.mod_lt _ (by decide))
        rw [q2] at u2
        have u1 : 0 = a.natAbs / 100 := u1
        have u2 : 0 = a.natAbs % 100 := u2
        omega
      · have hh := told_head (a := a)
        rw [z, decide_eq_false s] at hh
        cases hh)]
  congr 1
  have e2 : dgv (numS (a.natAbs / 100) ++ z2 (a.natAbs % 100)) = a.natAbs := by
    show dgv (numS (a.natAbs / 100) ++ [48 + a.natAbs % 100 / 10 % 10, 48 + a.natAbs % 100 % 10]) = _
    rw [dgv_app _ _ _ (by omega) (by omega), dgv_numS]
    have := z2_dgv (r := a.natAbs % 100) (Nat.mod_lt _ (by decide))
    have e : dgv [48 + a.natAbs % 100 / 10 % 10, 48 + a.natAbs % 100 % 10] = a.natAbs % 100 := this
    rw [e]; omega
  rw [e2]
  by_cases s : a < 0
  · rw [if_pos (take45.mpr (by rw [told_head]; exact decide_eq_true s))]; omega
  · rw [if_neg (fun z => by have := take45.mp z; rw [told_head, decide_eq_false s] at this; cases this)]; omega
/-- both read alike -/
theorem lrA_inA {t : List Nat} (h : t.length ≤ 30) : lrA t = inA t := by
  cases e : lrA t with
  | some a =>
    obtain ⟨_, f⟩ := lrA_some e
    have := told_len a
    rw [← f, inA_of (by rw [f] at this; omega)]
  | none =>
    cases k : inA t with
    | none => rfl
    | some a =>
      have f := inA_told k
      rw [← f, lrA_of (by rw [f]; exact h)] at e
      cases e
theorem lrA_long {t : List Nat} (h : 30 < t.length) : lrA t = none := by unfold lrA; rw [if_pos h]
end

/-! amounts as texts: the program's functions -/
section
variable {n : Nat} {hot : Hot} {M : Mem}
theorem cutH {α : Type} (t : List α) (k : Nat) : cutL t none (some (k : Int)) = t.take k := by
  unfold cutL clampI
  simp only [List.drop_zero, Nat.sub_zero]
  rw [if_neg (by omega), Int.toNat_natCast]
  by_cases h : k ≤ t.length
  · rw [Nat.min_eq_left h]
  · rw [Nat.min_eq_right (by omega), List.take_length, List.take_of_length_le (by omega)]
theorem cutHn {α : Type} (t : List α) (k : Nat) (h : 0 < k) : cutL t none (some (-(k : Int))) = t.take (t.length - k) := by
  unfold cutL clampI
  simp only [List.drop_zero, Nat.sub_zero]
  rw [if_pos (by omega)]
  congr 1
  omega
theorem cutLo {α : Type} (t : List α) (k : Nat) : cutL t (some (k : Int)) none = t.drop k := by
  unfold cutL clampI
  simp only []
  rw [if_neg (by omega), Int.toNat_natCast]
  by_cases h : k ≤ t.length
  · rw [Nat.min_eq_left h, ← List.length_drop, List.take_length]
  · rw [Nat.min_eq_right (by omega), List.drop_length, List.drop_eq_nil_of_le (show t.length ≤ k by omega), List.take_nil]
theorem cutLn {α : Type} (t : List α) (k : Nat) (h : 0 < k) : cutL t (some (-(k : Int))) none = t.drop (t.length - k) := by
  unfold cutL clampI
  simp only []
  rw [if_pos (by omega), show (-(k : Int) + (t.length : Nat)).toNat = t.length - k by omega, ← List.length_drop, List.take_length]
theorem r_figs {t : List Nat} (ht : t.length < 100000) : call P.pr (n + 1) none 8 [.str t] M = .ok ⟨.f, .bl (figD t)⟩ M := by
  by_cases ne : t = []
  · subst ne
    simp [ex, ev, evs, evb, VM.start, bind_ok, bind_ex, bw_ok, bw_ex, fz_f, fz_n, fz_ex, bl_ok, bl_ex, on_ok, on_ex, next_nx, next_rt, next_ex, res_nx, res_rt, res_ex, out_f, out_n, out_b, okB_some, okI_some, okO_some, ok1_eq, okn_eq, okL_some, add_int, sub_int, mul_int, fdiv_int, mod_int, lt_int, le_int, gt_int, ge_int, eq_int, ne_int, eq_str, ne_str, is_non, isn_non, abs_int, int_int, int_bl, divmod_ok, pfHot, store, setE, isN, noO, isO, wipe, Tg.bind, Tg.binds, Tg.is, evIt, forF, lcF, C.isFrz, bind_if, next_if, res_if, attr, clsOf, deref, getF, fld, E.isNil,  isTn, line, small_mul_r, small_mul_l, small_lit, small_neg, small_mod, it_lst, it_tup, it_scr, go_are_figures, c_are_figures, figD]
  · have al := all_map (M := M) (w := t) (g := figs)
    have hl : t.length < 16777216 := by omega
    have fd : figD t = t.all fun c => decide (c ∈ figs) := by unfold figD; rw [decide_eq_true ne]; rfl
    rw [fd]
    simp [ex, ev, evs, evb, VM.start, bind_ok, bind_ex, bw_ok, bw_ex, fz_f, fz_n, fz_ex, bl_ok, bl_ex, on_ok, on_ex, next_nx, next_rt, next_ex, res_nx, res_rt, res_ex, out_f, out_n, out_b, okB_some, okI_some, okO_some, ok1_eq, okn_eq, okL_some, add_int, sub_int, mul_int, fdiv_int, mod_int, lt_int, le_int, gt_int, ge_int, eq_int, ne_int, eq_str, ne_str, is_non, isn_non, abs_int, int_int, int_bl, divmod_ok, pfHot, store, setE, isN, noO, isO, wipe, Tg.bind, Tg.binds, Tg.is, evIt, forF, lcF, C.isFrz, bind_if, next_if, res_if, attr, clsOf, deref, getF, fld, E.isNil,  isTn, line, small_mul_r, small_mul_l, small_lit, small_neg, small_mod, it_lst, it_tup, it_scr, go_are_figures, c_are_figures, gv_5, itemsK, hl, ne]
    rw [lc_sgn (g := figs) (by simp [stills]) (fun x hx => by
      obtain ⟨c, hc, rfl⟩ := List.mem_map.mp hx
      simp [ex, ev, evs, evb, VM.start, bind_ok, bind_ex, bw_ok, bw_ex, fz_f, fz_n, fz_ex, bl_ok, bl_ex, on_ok, on_ex, next_nx, next_rt, next_ex, res_nx, res_rt, res_ex, out_f, out_n, out_b, okB_some, okI_some, okO_some, ok1_eq, okn_eq, okL_some, add_int, sub_int, mul_int, fdiv_int, mod_int, lt_int, le_int, gt_int, ge_int, eq_int, ne_int, eq_str, ne_str, is_non, isn_non, abs_int, int_int, int_bl, divmod_ok, pfHot, store, setE, isN, noO, isO, wipe, Tg.bind, Tg.binds, Tg.is, evIt, forF, lcF, C.isFrz, bind_if, next_if, res_if, attr, clsOf, deref, getF, fld, E.isNil,  isTn, line, small_mul_r, small_mul_l, small_lit, small_neg, small_mod, it_lst, it_tup, it_scr, cmpop, isin, figs])]
    simp [ex, ev, evs, evb, VM.start, bind_ok, bind_ex, bw_ok, bw_ex, fz_f, fz_n, fz_ex, bl_ok, bl_ex, on_ok, on_ex, next_nx, next_rt, next_ex, res_nx, res_rt, res_ex, out_f, out_n, out_b, okB_some, okI_some, okO_some, ok1_eq, okn_eq, okL_some, add_int, sub_int, mul_int, fdiv_int, mod_int, lt_int, le_int, gt_int, ge_int, eq_int, ne_int, eq_str, ne_str, is_non, isn_non, abs_int, int_int, int_bl, divmod_ok, pfHot, store, setE, isN, noO, isO, wipe, Tg.bind, Tg.binds, Tg.is, evIt, forF, lcF, C.isFrz, bind_if, next_if, res_if, attr, clsOf, deref, getF, fld, E.isNil,  isTn, line, small_mul_r, small_mul_l, small_lit, small_neg, small_mod, it_lst, it_tup, it_scr, al]
def oI : Option Int → D
  | some i => .int i
  | none => .non
theorem z2_zf : ∀ r, r < 100 → List.replicate (padN (numS r).length 2) 48 ++ numS r = z2 r ∧ signed (numS r) = false := by decide +kernel
theorem zf_ok {r : Int} (h0 : 0 ≤ r) (h : r < 100) : tmD .zf (intS r) [.int 2] M = .ok ⟨.f, .str (z2 r.toNat)⟩ M := by
  obtain ⟨a, b⟩ := z2_zf r.toNat (by omega)
  rw [intS_pos h0]
  show (if (2 : Int) < 100000 ∧ -100000 < (2 : Int) ∧ signed (numS r.toNat) = false then ok1 (.str (List.replicate (padN (numS r.toNat).length 2) 48 ++ numS r.toNat)) M else .stk) = _
  rw [if_pos ⟨by decide, by decide, b⟩, a]; rfl
theorem far200 {a : Int} (h : a.natAbs < 10 ^ 200) {q : Int} (h1 : q.natAbs ≤ a.natAbs) : q.natAbs < 10 ^ 200 := Nat.lt_of_le_of_lt h1 h
theorem numS_200 {k : Nat} (h : k < 10 ^ 200) : (numS k).length ≤ 200 := numS_len 199 k h
theorem par_ok {t : List Nat} (h : t.length < 100000) : tmD .part t [.str [46]] M = .ok ⟨.f, (match par1 46 [] t with
    | some (l, r) => .tup [.str l, .str [46], .str r]
    | none => .tup [.str t, .str [], .str []])⟩ M := by
  show (if 46 < 256 ∧ t.length ≤ line then (match par1 46 [] t with
    | some (l, r) => ok1 (.tup [.str l, .str [46], .str r]) M
    | none => ok1 (.tup [.str t, .str [], .str []]) M) else .stk) = _
  rw [if_pos ⟨by decide, by rw [line_eq]; omega⟩]
  cases par1 46 [] t <;> rfl
theorem par1_len {c : Nat} : ∀ (w acc : List Nat) {l r : List Nat}, par1 c acc w = some (l, r) → l.length + r.length + 1 = acc.length + w.length
  | [], _, _, _, h => by cases h
  | x :: w, acc, l, r, h => by
    have h : (if x = c then some (acc, w) else par1 c (acc ++ [x]) w) = some (l, r) := h
    split at h
    · cases h
      simp only [List.length_cons]; omega
    · have := par1_len w (acc ++ [x]) h
      simp only [List.length_append, List.length_cons, List.length_nil] at this ⊢
      omega
theorem bodyA_len (t : List Nat) : (bodyA t).length ≤ t.length := by
  unfold bodyA
  split
  · rw [List.length_drop]; omega
  · exact Nat.le_refl _
theorem dgv_lim : ∀ (t : List Nat), (∀ c ∈ t, 48 ≤ c ∧ c ≤ 57) → dgv t < 10 ^ t.length := by
  intro t
  induction hv : t.length generalizing t with
  | zero =>
    have : t = [] := List.length_eq_zero_iff.mp hv
    subst this
    intro _; decide
  | succ k ih =>
    rcases snocC t with rfl | ⟨u, c, rfl⟩
    · simp at hv
    · intro h
      have := ih u (by simpa using hv) fun x hx => h x (List.mem_append_left _ hx)
      have hc := h c (by simp)
      rw [dgv_snoc, Nat.pow_succ]
      omega
theorem dgv_200 {t : List Nat} (h : ∀ c ∈ t, 48 ≤ c ∧ c ≤ 57) (l : t.length ≤ 30) : dgv t < 10 ^ 30 := Nat.lt_of_lt_of_le (dgv_lim t h) (Nat.pow_le_pow_right (by decide) l)
def rdA (t : List Nat) : Option Int := if t.length ≤ 30 then inA t else none
end

/-! k10: the law's own reading, word by word -/
section
variable {n : Nat} {M : Mem}
theorem any_filt {f g : List Nat} : ((f.filter fun c => decide (c ∉ g)) = []) ↔ f.all (fun c => decide (c ∈ g)) = true := by
  rw [List.filter_eq_nil_iff, List.all_eq_true]
  simp
theorem drs_w : ∀ ws : List (List Nat), drys (ws.map D.str) = true
  | [] => rfl
  | w :: ws => by
    show (true && drys (ws.map D.str)) = true
    rw [drs_w ws]; rfl
theorem dps_w (k : Nat) : ∀ ws : List (List Nat), dps (k + 1) (ws.map D.str) = true
  | [] => by simp [dps]
  | w :: ws => by
    have := dps_w k ws
    simp only [List.map_cons, dps, this, D.dp, Bool.and_self]
theorem eq_nilw (ws : List (List Nat)) : cmpop .eq (.lst (ws.map D.str)) (.lst []) M = some (decide (ws = [])) ∧ cmpop .ne (.lst (ws.map D.str)) (.lst []) M = some (!decide (ws = [])) := by
  have e : eqop (.lst (ws.map D.str)) (.lst []) M = some (decide (ws = [])) := by
    unfold eqop
    rw [show deref M (.lst (ws.map D.str)) = .lst (ws.map D.str) from rfl, show deref M (.lst []) = .lst [] from rfl, res_dry 4 (show D.dry (.lst (ws.map D.str)) = true from drs_w ws), res_dry 4 (show D.dry (.lst []) = true from rfl), show D.dp 60 (.lst (ws.map D.str)) = true from dps_w 58 ws]
    cases ws <;> rfl
  exact ⟨e, by show (eqop _ _ M).map (!·) = _; rw [e]; rfl⟩
/-- what signs of a text are not among these -/
theorem lc_not {f g : List Nat} {c : Mem → Bool} {F : D → Mem → Rs (Option D)} (hc : c M = true) (h : ∀ x ∈ f, F (.str [x]) M = .ok (if decide (x ∉ g) then some (.str [x]) else none) M) : lcL c F (f.map fun c => D.str [c]) M = .ok ((f.filter fun c => decide (c ∉ g)).map fun c => D.str [c]) M := lst_filter (f := fun c => D.str [c]) (g := fun c => D.str [c]) (p := fun c => decide (c ∉ g)) hc h
theorem notin_w {x : Nat} {g : List Nat} : cmpop .notin (.str [x]) (.str g) M = some (decide (x ∉ g)) := by
  show (some (decide (x ∈ g))).map (!·) = _
  by_cases h : x ∈ g
  · rw [decide_eq_true h, decide_eq_false (fun z => z h)]; rfl
  · rw [decide_eq_false h, decide_eq_true h]; rfl
theorem filt_eq {f g : List Nat} : cmpop .ne (.lst ((f.filter fun c => decide (c ∉ g)).map fun c => D.str [c])) (.lst []) M = some (!f.all fun c => decide (c ∈ g)) ∧ cmpop .eq (.lst ((f.filter fun c => decide (c ∉ g)).map fun c => D.str [c])) (.lst []) M = some (f.all fun c => decide (c ∈ g)) := by
  have e := eq_nilw (M := M) ((f.filter fun c => decide (c ∉ g)).map fun c => [c])
  rw [List.map_map] at e
  have d : decide (((f.filter fun c => decide (c ∉ g)).map fun c => [c]) = []) = f.all fun c => decide (c ∈ g) := by
    cases k : f.all fun c => decide (c ∈ g) with
    | true => exact decide_eq_true (by rw [any_filt.mpr k]; rfl)
    | false => exact decide_eq_false (fun z => by
        have := any_filt.mp (List.map_eq_nil_iff.mp z)
        rw [k] at this; cases this)
  rw [d] at e
  exact ⟨e.2, e.1⟩
def lnum (w : List Nat) (most : Int) : Option Int := if numW w = true ∧ intS (dgv w : Nat) = w ∧ ((dgv w : Nat) : Int) ≤ most then some ((dgv w : Nat) : Int) else none
def oI10 : Option Int → D
  | some i => .int i
  | none => .non
theorem figs_14 {w : List Nat} (h : numW w = true) : dgv w < 10 ^ 200 := by
  unfold numW at h
  simp only [Bool.and_eq_true, decide_eq_true_eq, List.all_eq_true] at h
  have key : ∀ (t : List Nat) (a : Nat), (∀ c ∈ t, c ∈ figs) → t.foldl (fun a c => a * 10 + (c - 48)) a < (a + 1) * 10 ^ t.length := by
    intro t
    induction t with
    | nil => intro a _; simp
    | cons c t ih =>
      intro a hc
      have c1 := fig_in.mp (hc c List.mem_cons_self)
      have := ih (a * 10 + (c - 48)) fun x hx => hc x (List.mem_cons_of_mem _ hx)
      rw [List.foldl_cons]
      refine Nat.lt_of_lt_of_le this ?_
      rw [List.length_cons, Nat.pow_succ]
      have : a * 10 + (c - 48) + 1 ≤ (a + 1) * 10 := by omega
      calc (a * 10 + (c - 48) + 1) * 10 ^ t.length ≤ ((a + 1) * 10) * 10 ^ t.length := Nat.mul_le_mul_right _ this
        _ = (a + 1) * (10 ^ t.length * 10) := by rw [Nat.mul_assoc, Nat.mul_comm 10]
  have := key w 0 h.2
  rw [Nat.zero_add, Nat.one_mul] at this
  exact Nat.lt_of_lt_of_le this (Nat.pow_le_pow_right (by decide) (by omega))
end

/-! k04: months as texts -/
section
variable {n : Nat} {M : Mem}
def isM4 (i : Int) : Prop := 0 ≤ i ∧ i ≤ 119999
def z4 (y : Nat) : List Nat := List.replicate (4 - (numS y).length) 48 ++ numS y
def mtx (m : Int) : List Nat := z4 (m / 12).toNat ++ ([45] ++ z2 (m % 12 + 1).toNat)
theorem signed_dig {s : List Nat} (h : ∀ c ∈ s, 48 ≤ c) : signed s = false := by
  cases s with
  | nil => rfl
  | cons c r =>
    have := h c List.mem_cons_self
    unfold signed
    split
    · rename_i e; cases e; omega
    · rename_i e; cases e; omega
    · rfl
theorem numS_4 {y : Nat} (h : y < 10000) : 1 ≤ (numS y).length ∧ (numS y).length ≤ 4 := ⟨List.length_pos_iff.mpr (numS_ne y), numS_len 3 y (by omega)⟩
theorem zf4 {y : Int} (h0 : 0 ≤ y) (h : y < 10000) : tmD .zf (intS y) [.int 4] M = .ok ⟨.f, .str (z4 y.toNat)⟩ M := by
  have l := numS_4 (y := y.toNat) (by omega)
  rw [intS_pos h0]
  show (if (4 : Int) < 100000 ∧ -100000 < (4 : Int) ∧ signed (numS y.toNat) = false then ok1 (.str (List.replicate (padN (numS y.toNat).length 4) 48 ++ numS y.toNat)) M else .stk) = _
  rw [if_pos ⟨by decide, by decide, signed_dig fun c hc => (numS_dig _ c hc).1⟩]
  rfl
theorem z4_len {y : Nat} (h : y < 10000) : (z4 y).length = 4 := by
  have := numS_4 h
  unfold z4
  rw [List.length_append, List.length_replicate]; omega
theorem drop_len (s : List Nat) : ∀ k, 1 ≤ s.length → s.length = k → k ≤ 4 → ([48, 48, 48] ++ s).drop (k - 1) = List.replicate (4 - k) 48 ++ s
  | 0, h, e, _ => by omega
  | 1, _, _, _ => rfl
  | 2, _, _, _ => rfl
  | 3, _, _, _ => rfl
  | 4, _, _, _ => rfl
  | k + 5, _, _, h => by omega
theorem law4 {y : Nat} (h : y < 10000) : cutL ([48, 48, 48] ++ numS y) (some (-4)) none = z4 y := by
  have l := numS_4 h
  have := cutLn ([48, 48, 48] ++ numS y) 4 (by omega)
  rw [show (-((4 : Nat) : Int)) = -4 from rfl] at this
  have e : ([48, 48, 48] ++ numS y).length - 4 = (numS y).length - 1 := by rw [List.length_append]; simp only [List.length_cons, List.length_nil]; omega
  rw [this, e]
  exact drop_len (numS y) _ l.1 rfl l.2
theorem law2 : ∀ p, p < 13 → ([48] ++ numS p).drop (([48] ++ numS p).length - 2) = z2 p := by decide +kernel
theorem law2c {p : Nat} (h : p < 13) : cutL ([48] ++ numS p) (some (-2)) none = z2 p := by
  have := cutLn ([48] ++ numS p) 2 (by omega)
  rw [show (-((2 : Nat) : Int)) = -2 from rfl] at this
  rw [this]
  exact law2 p h
theorem r_month_text {m : Int} (h : isM4 m) : call P.pr (n + 4) none 16 [.int m] M = .ok ⟨.f, .str (mtx m)⟩ M := by
  obtain ⟨h0, h1⟩ := h
  have nm := r_need_month (n := n) (M := M) h0 h1
  have a := zf4 (M := M) (y := m / 12) (by omega) (by omega)
  have b := zf_ok (M := M) (r := m % 12 + 1) (by omega) (by omega)
  have p1 : (m / 12).natAbs < 10 ^ 200 := Nat.lt_of_lt_of_le (show (m / 12).natAbs < 10 ^ 4 by omega) (Nat.pow_le_pow_right (by decide) (by decide))
  have p2 : (m % 12 + 1).natAbs < 10 ^ 200 := Nat.lt_of_lt_of_le (show (m % 12 + 1).natAbs < 10 ^ 4 by omega) (Nat.pow_le_pow_right (by decide) (by decide))
  have t1 := str1_int (M := M) p1
  have t2 := str1_int (M := M) p2
  have l4 := z4_len (y := (m / 12).toNat) (by omega)
  have e := evf_ok (hot := none) (k := n + 3) (M := M) (σ := [.v (.int m), .v (.int (m / 12)), .v (.int (m % 12))]) (as := (.cons (.pm (.tm .zf) (.pr .str1 (.cons (.v 1) .nil)) (.cons (.c (.int 4)) .nil)) (.cons (.c (.str [45])) (.cons (.pm (.tm .zf) (.pr .str1 (.cons (.bin .add (.v 2) (.c (.int 1))) .nil)) (.cons (.c (.int 2)) .nil)) .nil)))) (ps := [z4 (m / 12).toNat, [45], z2 (m % 12 + 1).toNat]) (acc := []) (by simp [Pt, Tx_ok, ex, ev, evs, evb, VM.start, bind_ok, bind_ex, bw_ok, bw_ex, fz_f, fz_n, fz_ex, bl_ok, bl_ex, on_ok, on_ex, next_nx, next_rt, next_ex, res_nx, res_rt, res_ex, out_f, out_n, out_b, okB_some, okI_some, okO_some, ok1_eq, okn_eq, okL_some, add_int, sub_int, mul_int, fdiv_int, mod_int, lt_int, le_int, gt_int, ge_int, eq_int, ne_int, eq_str, ne_str, is_non, isn_non, abs_int, int_int, int_bl, divmod_ok, pfHot, store, setE, isN, noO, isO, wipe, Tg.bind, Tg.binds, Tg.is, evIt, forF, lcF, C.isFrz, bind_if, next_if, res_if, attr, clsOf, deref, getF, fld, E.isNil,  isTn, line, small_mul_r, small_mul_l, small_lit, small_neg, small_mod, it_lst, it_tup, it_scr, txt_str, t1, t2, a, b, pmOk, pm, isStr]) (by simp [line_eq, z2, l4])
  simp [ex, ev, evs, evb, VM.start, bind_ok, bind_ex, bw_ok, bw_ex, fz_f, fz_n, fz_ex, bl_ok, bl_ex, on_ok, on_ex, next_nx, next_rt, next_ex, res_nx, res_rt, res_ex, out_f, out_n, out_b, okB_some, okI_some, okO_some, ok1_eq, okn_eq, okL_some, add_int, sub_int, mul_int, fdiv_int, mod_int, lt_int, le_int, gt_int, ge_int, eq_int, ne_int, eq_str, ne_str, is_non, isn_non, abs_int, int_int, int_bl, divmod_ok, pfHot, store, setE, isN, noO, isO, wipe, Tg.bind, Tg.binds, Tg.is, evIt, forF, lcF, C.isFrz, bind_if, next_if, res_if, attr, clsOf, deref, getF, fld, E.isNil,  isTn, line, small_mul_r, small_mul_l, small_lit, small_neg, small_mod, it_lst, it_tup, it_scr, go_month_text, c_month_text, nm, gv_8, e, mtx]
theorem l_month_text {m : Int} (h : isM4 m) : call P.pr (n + 1) none 213 [.int m] M = .ok ⟨.f, .str (mtx m)⟩ M := by
  obtain ⟨h0, h1⟩ := h
  have p1 : (m / 12).natAbs < 10 ^ 200 := Nat.lt_of_lt_of_le (show (m / 12).natAbs < 10 ^ 4 by omega) (Nat.pow_le_pow_right (by decide) (by decide))
  have p2 : (m % 12 + 1).natAbs < 10 ^ 200 := Nat.lt_of_lt_of_le (show (m % 12 + 1).natAbs < 10 ^ 4 by omega) (Nat.pow_le_pow_right (by decide) (by decide))
  have t1 := str1_int (M := M) p1
  have t2 := str1_int (M := M) p2
  rw [intS_pos (by omega)] at t1 t2
  have n1 := numS_4 (y := (m / 12).toNat) (by omega)
  have n2 := numS_len 2 (m % 12 + 1).toNat (by omega)
  have a1 := add_str (M := M) (a := [48, 48, 48]) (b := numS (m / 12).toNat) (by simp only [List.length_cons, List.length_nil]; omega)
  have a2 := add_str (M := M) (a := [48]) (b := numS (m % 12 + 1).toNat) (by simp only [List.length_cons, List.length_nil]; omega)
  have s1 : prim (.sl true false) [.str ([48, 48, 48] ++ numS (m / 12).toNat), .int (-4)] M = .ok ⟨.f, .str (z4 (m / 12).toNat)⟩ M := by
    rw [← law4 (by omega)]; rfl
  have s2 : prim (.sl true false) [.str ([48] ++ numS (m % 12 + 1).toNat), .int (-2)] M = .ok ⟨.f, .str (z2 (m % 12 + 1).toNat)⟩ M := by
    rw [← law2c (by omega)]; rfl
  have l4 := z4_len (y := (m / 12).toNat) (by omega)
  have a3 := add_str (M := M) (a := z4 (m / 12).toNat) (b := [45]) (by rw [l4]; decide)
  have a4 := add_str (M := M) (a := z4 (m / 12).toNat ++ [45]) (b := z2 (m % 12 + 1).toNat) (by rw [List.length_append, l4]; simp [z2])
  have e : mtx m = z4 (m / 12).toNat ++ [45] ++ z2 (m % 12 + 1).toNat := by unfold mtx; rw [List.append_assoc]
  rw [e]
  generalize [48, 48, 48] ++ numS (m / 12).toNat = A at *
  generalize [48] ++ numS (m % 12 + 1).toNat = B at *
  generalize z4 (m / 12).toNat ++ [45] = C' at *
  generalize C' ++ z2 (m % 12 + 1).toNat = D' at *
  simp [ex, ev, evs, evb, VM.start, bind_ok, bind_ex, bw_ok, bw_ex, fz_f, fz_n, fz_ex, bl_ok, bl_ex, on_ok, on_ex, next_nx, next_rt, next_ex, res_nx, res_rt, res_ex, out_f, out_n, out_b, okB_some, okI_some, okO_some, ok1_eq, okn_eq, okL_some, add_int, sub_int, mul_int, fdiv_int, mod_int, lt_int, le_int, gt_int, ge_int, eq_int, ne_int, eq_str, ne_str, is_non, isn_non, abs_int, int_int, int_bl, divmod_ok, pfHot, store, setE, isN, noO, isO, wipe, Tg.bind, Tg.binds, Tg.is, evIt, forF, lcF, C.isFrz, bind_if, next_if, res_if, attr, clsOf, deref, getF, fld, E.isNil,  isTn, line, small_mul_r, small_mul_l, small_lit, small_neg, small_mod, it_lst, it_tup, it_scr, go__law_month_text_v0, c__law_month_text_v0, t1, t2, a1, a2, s1, s2, a3, a4]
theorem r_year_of4 {m : Int} (h : isM4 m) : call P.pr (n + 4) none 18 [.int m] M = .ok ⟨.f, .int (m / 12)⟩ M := by
  have a := r_need_month (n := n) (M := M) h.1 h.2
  simp [ex, ev, evs, evb, VM.start, bind_ok, bind_ex, bw_ok, bw_ex, fz_f, fz_n, fz_ex, bl_ok, bl_ex, on_ok, on_ex, next_nx, next_rt, next_ex, res_nx, res_rt, res_ex, out_f, out_n, out_b, okB_some, okI_some, okO_some, ok1_eq, okn_eq, okL_some, add_int, sub_int, mul_int, fdiv_int, mod_int, lt_int, le_int, gt_int, ge_int, eq_int, ne_int, eq_str, ne_str, is_non, isn_non, abs_int, int_int, int_bl, divmod_ok, pfHot, store, setE, isN, noO, isO, wipe, Tg.bind, Tg.binds, Tg.is, evIt, forF, lcF, C.isFrz, bind_if, next_if, res_if, attr, clsOf, deref, getF, fld, E.isNil,  isTn, line, small_mul_r, small_mul_l, small_lit, small_neg, small_mod, it_lst, it_tup, it_scr, go_year_of, c_year_of, a, gv_8]
theorem r_place_of {m : Int} (h : isM4 m) : call P.pr (n + 4) none 19 [.int m] M = .ok ⟨.f, .int (m % 12 + 1)⟩ M := by
  have a := r_need_month (n := n) (M := M) h.1 h.2
  simp [ex, ev, evs, evb, VM.start, bind_ok, bind_ex, bw_ok, bw_ex, fz_f, fz_n, fz_ex, bl_ok, bl_ex, on_ok, on_ex, next_nx, next_rt, next_ex, res_nx, res_rt, res_ex, out_f, out_n, out_b, okB_some, okI_some, okO_some, ok1_eq, okn_eq, okL_some, add_int, sub_int, mul_int, fdiv_int, mod_int, lt_int, le_int, gt_int, ge_int, eq_int, ne_int, eq_str, ne_str, is_non, isn_non, abs_int, int_int, int_bl, divmod_ok, pfHot, store, setE, isN, noO, isO, wipe, Tg.bind, Tg.binds, Tg.is, evIt, forF, lcF, C.isFrz, bind_if, next_if, res_if, attr, clsOf, deref, getF, fld, E.isNil,  isTn, line, small_mul_r, small_mul_l, small_lit, small_neg, small_mod, it_lst, it_tup, it_scr, go_place_of, c_place_of, a, gv_8]
theorem r_need_year4 {y : Int} (h : 0 ≤ y) (h2 : y ≤ 9999) : call P.pr (n + 3) none 15 [.int y] M = .ok ⟨.f, .non⟩ M := by
  simp [ex, ev, evs, evb, VM.start, bind_ok, bind_ex, bw_ok, bw_ex, fz_f, fz_n, fz_ex, bl_ok, bl_ex, on_ok, on_ex, next_nx, next_rt, next_ex, res_nx, res_rt, res_ex, out_f, out_n, out_b, okB_some, okI_some, okO_some, ok1_eq, okn_eq, okL_some, add_int, sub_int, mul_int, fdiv_int, mod_int, lt_int, le_int, gt_int, ge_int, eq_int, ne_int, eq_str, ne_str, is_non, isn_non, abs_int, int_int, int_bl, divmod_ok, pfHot, store, setE, isN, noO, isO, wipe, Tg.bind, Tg.binds, Tg.is, evIt, forF, lcF, C.isFrz, bind_if, next_if, res_if, attr, clsOf, deref, getF, fld, E.isNil,  isTn, line, small_mul_r, small_mul_l, small_lit, small_neg, small_mod, it_lst, it_tup, it_scr, go_need_year, c_need_year, r_among_i, gv_7, h, h2]
theorem r_months_of4 {y : Int} (h : 0 ≤ y) (h2 : y ≤ 9999) : call P.pr (n + 4) none 20 [.int y] M = .ok ⟨.n, .lst (rgA (12 * y) 12)⟩ M := by
  have a := r_need_year4 (n := n) (M := M) h h2
  have c := rngL2_ok (a := 12 * y) (b := 12 * y + 12) (by omega) (by omega) (by omega)
  have e : (12 * y + 12 - 12 * y).toNat = 12 := by omega
  rw [e] at c
  simp [ex, ev, evs, evb, VM.start, bind_ok, bind_ex, bw_ok, bw_ex, fz_f, fz_n, fz_ex, bl_ok, bl_ex, on_ok, on_ex, next_nx, next_rt, next_ex, res_nx, res_rt, res_ex, out_f, out_n, out_b, okB_some, okI_some, okO_some, ok1_eq, okn_eq, okL_some, add_int, sub_int, mul_int, fdiv_int, mod_int, lt_int, le_int, gt_int, ge_int, eq_int, ne_int, eq_str, ne_str, is_non, isn_non, abs_int, int_int, int_bl, divmod_ok, pfHot, store, setE, isN, noO, isO, wipe, Tg.bind, Tg.binds, Tg.is, evIt, forF, lcF, C.isFrz, bind_if, next_if, res_if, attr, clsOf, deref, getF, fld, E.isNil,  isTn, line, small_mul_r, small_mul_l, small_lit, small_neg, small_mod, it_lst, it_tup, it_scr, go_months_of, c_months_of, a, gv_8, c, okLs]
/-! read again -/
def rdm (t : List Nat) : Option Int := match t with
  | [a, b, c, d, e, f, g] => if e = 45 ∧ figD [a, b, c, d, f, g] = true ∧ 1 ≤ dgv [f, g] ∧ dgv [f, g] ≤ 12 then some (12 * ((dgv [a, b, c, d] : Nat) : Int) + ((dgv [f, g] : Nat) : Int) - 1) else none
  | _ => none
theorem rdm_no {t : List Nat} (h : t.length ≠ 7) : rdm t = none := by
  unfold rdm
  split
  · exact absurd rfl h
  · rfl
theorem len7 {t : List Nat} (h : t.length = 7) : ∃ a b c d e f g, t = [a, b, c, d, e, f, g] := by
  match t, h with
  | [a, b, c, d, e, f, g], _ => exact ⟨a, b, c, d, e, f, g, rfl⟩
theorem fig6 {a b c d f g : Nat} (h : figD [a, b, c, d, f, g] = true) : pf .int [.str [a, b, c, d]] M = .ok ⟨.f, .int (dgv [a, b, c, d] : Nat)⟩ M ∧ pf .int [.str [f, g]] M = .ok ⟨.f, .int (dgv [f, g] : Nat)⟩ M := by
  obtain ⟨_, m⟩ := figD_mem h
  have m1 : isDg [a, b, c, d] = true := figD_isDg (figD_of (by simp) fun c hc => m c (by simp only [List.mem_cons, List.not_mem_nil, or_false] at hc ⊢; omega))
  have m2 : isDg [f, g] = true := figD_isDg (figD_of (by simp) fun c hc => m c (by simp only [List.mem_cons, List.not_mem_nil, or_false] at hc ⊢; omega))
  constructor
  · show (if isDg [a, b, c, d] = true ∧ [a, b, c, d].length ≤ 640 then ok1 (.int (dgv [a, b, c, d])) M else .stk) = _
    rw [if_pos ⟨m1, by simp⟩]; rfl
  · show (if isDg [f, g] = true ∧ [f, g].length ≤ 640 then ok1 (.int (dgv [f, g])) M else .stk) = _
    rw [if_pos ⟨m2, by simp⟩]; rfl
theorem r_read_month {t : List Nat} : call P.pr (n + 2) none 17 [.str t] M = match rdm t with
    | some v => .ok ⟨.f, .int v⟩ M
    | none => .ex 3 M := by
  have is : isInst tab none M (.str t) .str = some true := rfl
  have ln := len_ok (M := M) (x := .str t) (n := (t.length : Nat)) rfl
  by_cases h7 : t.length = 7
  · obtain ⟨a, b, c, d, e, f, g, rfl⟩ := len7 h7
    have i4 : index (.str [a, b, c, d, e, f, g]) (.int 4) M = .ok ⟨.f, .str [e]⟩ M := rfl
    have s1 : prim (.sl false true) [.str [a, b, c, d, e, f, g], .int 4] M = .ok ⟨.f, .str [a, b, c, d]⟩ M := rfl
    have s2 : prim (.sl true false) [.str [a, b, c, d, e, f, g], .int 5] M = .ok ⟨.f, .str [f, g]⟩ M := rfl
    have ad := add_str (M := M) (a := [a, b, c, d]) (b := [f, g]) (by simp)
    simp only [List.cons_append, List.nil_append] at ad
    have fg := r_figs (n := n) (M := M) (t := [a, b, c, d, f, g]) (by simp)
    have rd : rdm [a, b, c, d, e, f, g] = if e = 45 ∧ figD [a, b, c, d, f, g] = true ∧ 1 ≤ dgv [f, g] ∧ dgv [f, g] ≤ 12 then some (12 * ((dgv [a, b, c, d] : Nat) : Int) + ((dgv [f, g] : Nat) : Int) - 1) else none := rfl
    rw [rd]
    have ln : pf .len [.str [a, b, c, d, e, f, g]] M = .ok ⟨.f, .int 7⟩ M := ln
    generalize [a, b, c, d, e, f, g] = T at *
    by_cases he : e = 45
    · subst he
      cases hf : figD [a, b, c, d, f, g] with
      | false =>
        rw [hf] at fg
        simp [ex, ev, evs, evb, VM.start, bind_ok, bind_ex, bw_ok, bw_ex, fz_f, fz_n, fz_ex, bl_ok, bl_ex, on_ok, on_ex, next_nx, next_rt, next_ex, res_nx, res_rt, res_ex, out_f, out_n, out_b, okB_some, okI_some, okO_some, ok1_eq, okn_eq, okL_some, add_int, sub_int, mul_int, fdiv_int, mod_int, lt_int, le_int, gt_int, ge_int, eq_int, ne_int, eq_str, ne_str, is_non, isn_non, abs_int, int_int, int_bl, divmod_ok, pfHot, store, setE, isN, noO, isO, wipe, Tg.bind, Tg.binds, Tg.is, evIt, forF, lcF, C.isFrz, bind_if, next_if, res_if, attr, clsOf, deref, getF, fld, E.isNil,  isTn, line, small_mul_r, small_mul_l, small_lit, small_neg, small_mod, it_lst, it_tup, it_scr, go_read_month, c_read_month, is, ln, i4, s1, s2, ad, fg]
      | true =>
        rw [hf] at fg
        obtain ⟨p1, p2⟩ := fig6 (M := M) hf
        generalize dgv [a, b, c, d] = u at *
        generalize dgv [f, g] = v at *
        have m12 : ∀ i, mulOk 12 i = true := fun i => small_mul_l (by decide)
        by_cases h1 : 1 ≤ v
        · by_cases h2 : v ≤ 12
          · have e1 : (1 : Int) ≤ (v : Nat) := by omega
            have e2 : ((v : Nat) : Int) ≤ 12 := by omega
            simp [ex, ev, evs, evb, VM.start, bind_ok, bind_ex, bw_ok, bw_ex, fz_f, fz_n, fz_ex, bl_ok, bl_ex, on_ok, on_ex, next_nx, next_rt, next_ex, res_nx, res_rt, res_ex, out_f, out_n, out_b, okB_some, okI_some, okO_some, ok1_eq, okn_eq, okL_some, add_int, sub_int, mul_int, fdiv_int, mod_int, lt_int, le_int, gt_int, ge_int, eq_int, ne_int, eq_str, ne_str, is_non, isn_non, abs_int, int_int, int_bl, divmod_ok, pfHot, store, setE, isN, noO, isO, wipe, Tg.bind, Tg.binds, Tg.is, evIt, forF, lcF, C.isFrz, bind_if, next_if, res_if, attr, clsOf, deref, getF, fld, E.isNil,  isTn, line, small_mul_r, small_mul_l, small_lit, small_neg, small_mod, it_lst, it_tup, it_scr, go_read_month, c_read_month, is, ln, i4, s1, s2, ad, fg, p1, p2, gv_8, m12, e1, e2, h1, h2]
          · have e1 : (1 : Int) ≤ (v : Nat) := by omega
            have e2 : ¬ ((v : Nat) : Int) ≤ 12 := by omega
            simp [ex, ev, evs, evb, VM.start, bind_ok, bind_ex, bw_ok, bw_ex, fz_f, fz_n, fz_ex, bl_ok, bl_ex, on_ok, on_ex, next_nx, next_rt, next_ex, res_nx, res_rt, res_ex, out_f, out_n, out_b, okB_some, okI_some, okO_some, ok1_eq, okn_eq, okL_some, add_int, sub_int, mul_int, fdiv_int, mod_int, lt_int, le_int, gt_int, ge_int, eq_int, ne_int, eq_str, ne_str, is_non, isn_non, abs_int, int_int, int_bl, divmod_ok, pfHot, store, setE, isN, noO, isO, wipe, Tg.bind, Tg.binds, Tg.is, evIt, forF, lcF, C.isFrz, bind_if, next_if, res_if, attr, clsOf, deref, getF, fld, E.isNil,  isTn, line, small_mul_r, small_mul_l, small_lit, small_neg, small_mod, it_lst, it_tup, it_scr, go_read_month, c_read_month, is, ln, i4, s1, s2, ad, fg, p1, p2, gv_8, m12, e1, e2, h1, h2]
        · have e1 : ¬ (1 : Int) ≤ (v : Nat) := by omega
          simp [ex, ev, evs, evb, VM.start, bind_ok, bind_ex, bw_ok, bw_ex, fz_f, fz_n, fz_ex, bl_ok, bl_ex, on_ok, on_ex, next_nx, next_rt, next_ex, res_nx, res_rt, res_ex, out_f, out_n, out_b, okB_some, okI_some, okO_some, ok1_eq, okn_eq, okL_some, add_int, sub_int, mul_int, fdiv_int, mod_int, lt_int, le_int, gt_int, ge_int, eq_int, ne_int, eq_str, ne_str, is_non, isn_non, abs_int, int_int, int_bl, divmod_ok, pfHot, store, setE, isN, noO, isO, wipe, Tg.bind, Tg.binds, Tg.is, evIt, forF, lcF, C.isFrz, bind_if, next_if, res_if, attr, clsOf, deref, getF, fld, E.isNil,  isTn, line, small_mul_r, small_mul_l, small_lit, small_neg, small_mod, it_lst, it_tup, it_scr, go_read_month, c_read_month, is, ln, i4, s1, s2, ad, fg, p1, p2, gv_8, m12, e1, h1]
    · simp [ex, ev, evs, evb, VM.start, bind_ok, bind_ex, bw_ok, bw_ex, fz_f, fz_n, fz_ex, bl_ok, bl_ex, on_ok, on_ex, next_nx, next_rt, next_ex, res_nx, res_rt, res_ex, out_f, out_n, out_b, okB_some, okI_some, okO_some, ok1_eq, okn_eq, okL_some, add_int, sub_int, mul_int, fdiv_int, mod_int, lt_int, le_int, gt_int, ge_int, eq_int, ne_int, eq_str, ne_str, is_non, isn_non, abs_int, int_int, int_bl, divmod_ok, pfHot, store, setE, isN, noO, isO, wipe, Tg.bind, Tg.binds, Tg.is, evIt, forF, lcF, C.isFrz, bind_if, next_if, res_if, attr, clsOf, deref, getF, fld, E.isNil,  isTn, line, small_mul_r, small_mul_l, small_lit, small_neg, small_mod, it_lst, it_tup, it_scr, go_read_month, c_read_month, is, ln, i4, he]
  · rw [rdm_no h7]
    have q : ¬ ((t.length : Nat) : Int) = 7 := by omega
    simp [ex, ev, evs, evb, VM.start, bind_ok, bind_ex, bw_ok, bw_ex, fz_f, fz_n, fz_ex, bl_ok, bl_ex, on_ok, on_ex, next_nx, next_rt, next_ex, res_nx, res_rt, res_ex, out_f, out_n, out_b, okB_some, okI_some, okO_some, ok1_eq, okn_eq, okL_some, add_int, sub_int, mul_int, fdiv_int, mod_int, lt_int, le_int, gt_int, ge_int, eq_int, ne_int, eq_str, ne_str, is_non, isn_non, abs_int, int_int, int_bl, divmod_ok, pfHot, store, setE, isN, noO, isO, wipe, Tg.bind, Tg.binds, Tg.is, evIt, forF, lcF, C.isFrz, bind_if, next_if, res_if, attr, clsOf, deref, getF, fld, E.isNil,  isTn, line, small_mul_r, small_mul_l, small_lit, small_neg, small_mod, it_lst, it_tup, it_scr, go_read_month, c_read_month, is, ln, q]
theorem r_read_month_no {d : D} {u : Tn} (h : tnOf (deref M d) = some u) (ne : u ≠ .str) : call P.pr (n + 1) none 17 [d] M = .ex 3 M := by
  have i := isi_some (T := tab) (hot := none) (M := M) (x := d) (u := .str) h
  have f : isTn u .str = false := by cases u <;> first | rfl | exact absurd rfl ne
  rw [f] at i
  simp [ex, ev, evs, evb, VM.start, bind_ok, bind_ex, bw_ok, bw_ex, fz_f, fz_n, fz_ex, bl_ok, bl_ex, on_ok, on_ex, next_nx, next_rt, next_ex, res_nx, res_rt, res_ex, out_f, out_n, out_b, okB_some, okI_some, okO_some, ok1_eq, okn_eq, okL_some, add_int, sub_int, mul_int, fdiv_int, mod_int, lt_int, le_int, gt_int, ge_int, eq_int, ne_int, eq_str, ne_str, is_non, isn_non, abs_int, int_int, int_bl, divmod_ok, pfHot, store, setE, isN, noO, isO, wipe, Tg.bind, Tg.binds, Tg.is, evIt, forF, lcF, C.isFrz, bind_if, next_if, res_if, attr, clsOf, deref, getF, fld, E.isNil,  isTn, line, small_mul_r, small_mul_l, small_lit, small_neg, small_mod, it_lst, it_tup, it_scr, go_read_month, c_read_month, i]
theorem l_read_month {t : List Nat} (ht : t.length < 90000) : call P.pr (n + 1) none 179 [.str t] M = .ok ⟨.f, oI (rdm t)⟩ M := by
  have ln := len_ok (M := M) (x := .str t) (n := (t.length : Nat)) rfl
  by_cases h7 : t.length = 7
  · obtain ⟨a, b, c, d, e, f, g, rfl⟩ := len7 h7
    have i4 : index (.str [a, b, c, d, e, f, g]) (.int 4) M = .ok ⟨.f, .str [e]⟩ M := rfl
    have s1 : prim (.sl false true) [.str [a, b, c, d, e, f, g], .int 4] M = .ok ⟨.f, .str [a, b, c, d]⟩ M := rfl
    have s2 : prim (.sl true false) [.str [a, b, c, d, e, f, g], .int 5] M = .ok ⟨.f, .str [f, g]⟩ M := rfl
    have ad := add_str (M := M) (a := [a, b, c, d]) (b := [f, g]) (by simp)
    simp only [List.cons_append, List.nil_append] at ad
    have rd : rdm [a, b, c, d, e, f, g] = if e = 45 ∧ figD [a, b, c, d, f, g] = true ∧ 1 ≤ dgv [f, g] ∧ dgv [f, g] ≤ 12 then some (12 * ((dgv [a, b, c, d] : Nat) : Int) + ((dgv [f, g] : Nat) : Int) - 1) else none := rfl
    have ff : (figD [a, b, c, d, f, g] : Bool) = [a, b, c, d, f, g].all fun c => decide (c ∈ figs) := rfl
    have pp : figD [a, b, c, d, f, g] = true → pf .int [.str [a, b, c, d]] M = .ok ⟨.f, .int (dgv [a, b, c, d] : Nat)⟩ M ∧ pf .int [.str [f, g]] M = .ok ⟨.f, .int (dgv [f, g] : Nat)⟩ M := fig6
    have lw : [a, b, c, d, f, g].length < 16777216 := by simp
    rw [rd]
    have ln : pf .len [.str [a, b, c, d, e, f, g]] M = .ok ⟨.f, .int 7⟩ M := ln
    have m12 : ∀ i, mulOk 12 i = true := fun i => small_mul_l (by decide)
    generalize [a, b, c, d, f, g] = W at *
    generalize [a, b, c, d, e, f, g] = T at *
    generalize dgv [a, b, c, d] = u at *
    generalize dgv [f, g] = v at *
    have fe := (filt_eq (M := M) (f := W) (g := figs)).1
    have pre : e = 45 → ex tab (call P.pr n) none (C.pre 2 c__law_read_month) [.v (.str T), .u, .u] M = if figD W = true then .nx [.v (.str T), .v (.str W), .u] M else .rt ⟨.f, .non⟩ M := fun he => by
      subst he
      simp [ex, ev, evs, evb, VM.start, bind_ok, bind_ex, bw_ok, bw_ex, fz_f, fz_n, fz_ex, bl_ok, bl_ex, on_ok, on_ex, next_nx, next_rt, next_ex, res_nx, res_rt, res_ex, out_f, out_n, out_b, okB_some, okI_some, okO_some, ok1_eq, okn_eq, okL_some, add_int, sub_int, mul_int, fdiv_int, mod_int, lt_int, le_int, gt_int, ge_int, eq_int, ne_int, eq_str, ne_str, is_non, isn_non, abs_int, int_int, int_bl, divmod_ok, pfHot, store, setE, isN, noO, isO, wipe, Tg.bind, Tg.binds, Tg.is, evIt, forF, lcF, C.isFrz, bind_if, next_if, res_if, attr, clsOf, deref, getF, fld, E.isNil,  isTn, line, small_mul_r, small_mul_l, small_lit, small_neg, small_mod, it_lst, it_tup, it_scr, C.pre, c__law_read_month, ln, i4, s1, s2, ad, itemsK, lw]
      rw [lc_not (g := figs) (by simp [stills]) (fun x _ => by
        have ni : cmpop .notin (.str [x]) (.str [48, 49, 50, 51, 52, 53, 54, 55, 56, 57]) M = some (decide (x ∉ figs)) := notin_w
        by_cases hx : x ∈ figs <;> simp [ex, ev, evs, evb, VM.start, bind_ok, bind_ex, bw_ok, bw_ex, fz_f, fz_n, fz_ex, bl_ok, bl_ex, on_ok, on_ex, next_nx, next_rt, next_ex, res_nx, res_rt, res_ex, out_f, out_n, out_b, okB_some, okI_some, okO_some, ok1_eq, okn_eq, okL_some, add_int, sub_int, mul_int, fdiv_int, mod_int, lt_int, le_int, gt_int, ge_int, eq_int, ne_int, eq_str, ne_str, is_non, isn_non, abs_int, int_int, int_bl, divmod_ok, pfHot, store, setE, isN, noO, isO, wipe, Tg.bind, Tg.binds, Tg.is, evIt, forF, lcF, C.isFrz, bind_if, next_if, res_if, attr, clsOf, deref, getF, fld, E.isNil,  isTn, line, small_mul_r, small_mul_l, small_lit, small_neg, small_mod, it_lst, it_tup, it_scr, ni, hx])]
      rw [← ff] at fe
      cases k : figD W <;> rw [k] at fe <;> generalize (W.filter fun c => decide (c ∉ figs)).map (fun c => D.str [c]) = Z at * <;> simp [ex, ev, evs, evb, VM.start, bind_ok, bind_ex, bw_ok, bw_ex, fz_f, fz_n, fz_ex, bl_ok, bl_ex, on_ok, on_ex, next_nx, next_rt, next_ex, res_nx, res_rt, res_ex, out_f, out_n, out_b, okB_some, okI_some, okO_some, ok1_eq, okn_eq, okL_some, add_int, sub_int, mul_int, fdiv_int, mod_int, lt_int, le_int, gt_int, ge_int, eq_int, ne_int, eq_str, ne_str, is_non, isn_non, abs_int, int_int, int_bl, divmod_ok, pfHot, store, setE, isN, noO, isO, wipe, Tg.bind, Tg.binds, Tg.is, evIt, forF, lcF, C.isFrz, bind_if, next_if, res_if, attr, clsOf, deref, getF, fld, E.isNil,  isTn, line, small_mul_r, small_mul_l, small_lit, small_neg, small_mod, it_lst, it_tup, it_scr, fe]
    rw [go__law_read_month, ex_pre 2 c__law_read_month]
    by_cases he : e = 45
    · rw [pre he]
      cases hf : figD W with
      | false => simp [ex, ev, evs, evb, VM.start, bind_ok, bind_ex, bw_ok, bw_ex, fz_f, fz_n, fz_ex, bl_ok, bl_ex, on_ok, on_ex, next_nx, next_rt, next_ex, res_nx, res_rt, res_ex, out_f, out_n, out_b, okB_some, okI_some, okO_some, ok1_eq, okn_eq, okL_some, add_int, sub_int, mul_int, fdiv_int, mod_int, lt_int, le_int, gt_int, ge_int, eq_int, ne_int, eq_str, ne_str, is_non, isn_non, abs_int, int_int, int_bl, divmod_ok, pfHot, store, setE, isN, noO, isO, wipe, Tg.bind, Tg.binds, Tg.is, evIt, forF, lcF, C.isFrz, bind_if, next_if, res_if, attr, clsOf, deref, getF, fld, E.isNil,  isTn, line, small_mul_r, small_mul_l, small_lit, small_neg, small_mod, it_lst, it_tup, it_scr, oI]
      | true =>
        obtain ⟨p1, p2⟩ := pp hf
        rw [if_pos rfl, next_nx]
        by_cases h1 : 1 ≤ v
        · by_cases h2 : v ≤ 12
          · have e1 : (1 : Int) ≤ (v : Nat) := by omega
            have e2 : ((v : Nat) : Int) < 13 := by omega
            have ir : prim (.inr true) [.int (v : Nat), .int 1, .int 13] M = .ok ⟨.f, .bl false⟩ M := by
              show ok1 (.bl (!decide ((1 : Int) ≤ (v : Nat) ∧ ((v : Nat) : Int) < 13))) M = _
              rw [decide_eq_true ⟨e1, e2⟩]; rfl
            simp [ex, ev, evs, evb, VM.start, bind_ok, bind_ex, bw_ok, bw_ex, fz_f, fz_n, fz_ex, bl_ok, bl_ex, on_ok, on_ex, next_nx, next_rt, next_ex, res_nx, res_rt, res_ex, out_f, out_n, out_b, okB_some, okI_some, okO_some, ok1_eq, okn_eq, okL_some, add_int, sub_int, mul_int, fdiv_int, mod_int, lt_int, le_int, gt_int, ge_int, eq_int, ne_int, eq_str, ne_str, is_non, isn_non, abs_int, int_int, int_bl, divmod_ok, pfHot, store, setE, isN, noO, isO, wipe, Tg.bind, Tg.binds, Tg.is, evIt, forF, lcF, C.isFrz, bind_if, next_if, res_if, attr, clsOf, deref, getF, fld, E.isNil,  isTn, line, small_mul_r, small_mul_l, small_lit, small_neg, small_mod, it_lst, it_tup, it_scr, C.drop, c__law_read_month, s1, s2, p1, p2, ir, m12, he, h1, h2, oI]
          · have ir : prim (.inr true) [.int (v : Nat), .int 1, .int 13] M = .ok ⟨.f, .bl true⟩ M := by
              show ok1 (.bl (!decide ((1 : Int) ≤ (v : Nat) ∧ ((v : Nat) : Int) < 13))) M = _
              rw [decide_eq_false (by omega)]; rfl
            simp [ex, ev, evs, evb, VM.start, bind_ok, bind_ex, bw_ok, bw_ex, fz_f, fz_n, fz_ex, bl_ok, bl_ex, on_ok, on_ex, next_nx, next_rt, next_ex, res_nx, res_rt, res_ex, out_f, out_n, out_b, okB_some, okI_some, okO_some, ok1_eq, okn_eq, okL_some, add_int, sub_int, mul_int, fdiv_int, mod_int, lt_int, le_int, gt_int, ge_int, eq_int, ne_int, eq_str, ne_str, is_non, isn_non, abs_int, int_int, int_bl, divmod_ok, pfHot, store, setE, isN, noO, isO, wipe, Tg.bind, Tg.binds, Tg.is, evIt, forF, lcF, C.isFrz, bind_if, next_if, res_if, attr, clsOf, deref, getF, fld, E.isNil,  isTn, line, small_mul_r, small_mul_l, small_lit, small_neg, small_mod, it_lst, it_tup, it_scr, C.drop, c__law_read_month, s1, s2, p1, p2, ir, m12, he, h1, h2, oI]
        · have ir : prim (.inr true) [.int (v : Nat), .int 1, .int 13] M = .ok ⟨.f, .bl true⟩ M := by
            show ok1 (.bl (!decide ((1 : Int) ≤ (v : Nat) ∧ ((v : Nat) : Int) < 13))) M = _
            rw [decide_eq_false (by omega)]; rfl
          simp [ex, ev, evs, evb, VM.start, bind_ok, bind_ex, bw_ok, bw_ex, fz_f, fz_n, fz_ex, bl_ok, bl_ex, on_ok, on_ex, next_nx, next_rt, next_ex, res_nx, res_rt, res_ex, out_f, out_n, out_b, okB_some, okI_some, okO_some, ok1_eq, okn_eq, okL_some, add_int, sub_int, mul_int, fdiv_int, mod_int, lt_int, le_int, gt_int, ge_int, eq_int, ne_int, eq_str, ne_str, is_non, isn_non, abs_int, int_int, int_bl, divmod_ok, pfHot, store, setE, isN, noO, isO, wipe, Tg.bind, Tg.binds, Tg.is, evIt, forF, lcF, C.isFrz, bind_if, next_if, res_if, attr, clsOf, deref, getF, fld, E.isNil,  isTn, line, small_mul_r, small_mul_l, small_lit, small_neg, small_mod, it_lst, it_tup, it_scr, C.drop, c__law_read_month, s1, s2, p1, p2, ir, m12, he, h1, oI]
    · simp [ex, ev, evs, evb, VM.start, bind_ok, bind_ex, bw_ok, bw_ex, fz_f, fz_n, fz_ex, bl_ok, bl_ex, on_ok, on_ex, next_nx, next_rt, next_ex, res_nx, res_rt, res_ex, out_f, out_n, out_b, okB_some, okI_some, okO_some, ok1_eq, okn_eq, okL_some, add_int, sub_int, mul_int, fdiv_int, mod_int, lt_int, le_int, gt_int, ge_int, eq_int, ne_int, eq_str, ne_str, is_non, isn_non, abs_int, int_int, int_bl, divmod_ok, pfHot, store, setE, isN, noO, isO, wipe, Tg.bind, Tg.binds, Tg.is, evIt, forF, lcF, C.isFrz, bind_if, next_if, res_if, attr, clsOf, deref, getF, fld, E.isNil,  isTn, line, small_mul_r, small_mul_l, small_lit, small_neg, small_mod, it_lst, it_tup, it_scr, C.pre, c__law_read_month, ln, i4, s1, s2, ad, he, oI]
  · rw [rdm_no h7]
    have q : ¬ ((t.length : Nat) : Int) = 7 := by omega
    have s1 : prim (.sl false true) [.str t, .int 4] M = .ok ⟨.f, .str (cutL t none (some 4))⟩ M := rfl
    have s2 : prim (.sl true false) [.str t, .int 5] M = .ok ⟨.f, .str (cutL t (some 5) none)⟩ M := rfl
    have l1 : (cutL t none (some 4)).length ≤ t.length := ((List.take_sublist _ _).trans (List.drop_sublist _ _)).length_le
    have l2 : (cutL t (some 5) none).length ≤ t.length := ((List.take_sublist _ _).trans (List.drop_sublist _ _)).length_le
    have ad := add_str (M := M) (a := cutL t none (some 4)) (b := cutL t (some 5) none) (by omega)
    generalize cutL t none (some 4) ++ cutL t (some 5) none = W at *
    simp [ex, ev, evs, evb, VM.start, bind_ok, bind_ex, bw_ok, bw_ex, fz_f, fz_n, fz_ex, bl_ok, bl_ex, on_ok, on_ex, next_nx, next_rt, next_ex, res_nx, res_rt, res_ex, out_f, out_n, out_b, okB_some, okI_some, okO_some, ok1_eq, okn_eq, okL_some, add_int, sub_int, mul_int, fdiv_int, mod_int, lt_int, le_int, gt_int, ge_int, eq_int, ne_int, eq_str, ne_str, is_non, isn_non, abs_int, int_int, int_bl, divmod_ok, pfHot, store, setE, isN, noO, isO, wipe, Tg.bind, Tg.binds, Tg.is, evIt, forF, lcF, C.isFrz, bind_if, next_if, res_if, attr, clsOf, deref, getF, fld, E.isNil,  isTn, line, small_mul_r, small_mul_l, small_lit, small_neg, small_mod, it_lst, it_tup, it_scr, go__law_read_month, c__law_read_month, ln, q, s1, s2, ad, oI]
end

section
variable {n : Nat} {M : Mem}
/-! k04: what the law does -/
theorem cutL_le4 {α : Type} (xs : List α) (lo hi : Option Int) : (cutL xs lo hi).length ≤ xs.length := ((List.take_sublist _ _).trans (List.drop_sublist _ _)).length_le
def sg4 : List Nat := [48, 49, 50, 51, 52, 53, 54, 55, 56, 57, 45, 32, 47, 43, 46, 95]
def ot4 : List (List Nat) := [[50, 48, 51, 49, 45, 48, 48], [50, 48, 51, 49, 45, 49, 51], [50, 48, 51, 49, 45, 49], [51, 49, 45, 48, 52], [50, 48, 51, 49, 47, 48, 52], [50, 48, 51, 49, 49, 45, 48, 52], [50, 48, 51, 49, 45, 48, 48, 52], [45, 48, 51, 49, 45, 48, 52], [50, 48, 51, 49, 45, 45, 52], []]
def ou4 : List (List Nat) := [[50, 48, 51, 49, 45, 32, 52], [32, 48, 51, 49, 45, 48, 52], [50, 48, 51, 49, 45, 52, 32], [48, 48, 48, 48, 45, 48, 49], [57, 57, 57, 57, 45, 49, 50], [50, 48, 51, 49, 48, 52]]
theorem l_bent4 {t : List Nat} {i : Int} (hi : 0 ≤ i) (ht : t.length < 20000) : ∃ s : List Nat, s.length ≤ t.length + 20 ∧ call P.pr (n + 1) none 214 [.str t, .int i] M = .ok ⟨.f, .str s⟩ M := by
  have ln := len_ok (M := M) (x := .str t) (n := (t.length : Nat)) rfl
  obtain ⟨c, hc⟩ : ∃ c, sg4[(i / 70 % 16).toNat]? = some c := ⟨_, List.getElem?_eq_getElem (show (i / 70 % 16).toNat < sg4.length by rw [show sg4.length = 16 from rfl]; omega)⟩
  have ix : index (.str sg4) (.int (i / 70 % 16)) M = .ok ⟨.f, .str [c]⟩ M := by
    show okO ((at? sg4 (i / 70 % 16)).map fun c => .str [c]) M = _
    rw [at_int _ (by omega), hc]; rfl
  have p : (0 : Int) < (t.length : Nat) + 1 := by omega
  obtain ⟨a, ha⟩ : ∃ a, a = i / 70 / 16 % ((t.length : Nat) + 1) := ⟨_, rfl⟩
  have md : binop .mod (.int (i / 70 / 16)) (.int ((t.length : Nat) + 1)) M = .ok ⟨.f, .int a⟩ M := by rw [ha]; exact mod_int p
  have pre : ex tab (call P.pr n) none (C.pre 4 c__law_bent_v1) [.v (.str t), .v (.int i), .u, .u, .u, .u, .u] M = .nx [.v (.str t), .v (.int i), .v (.int (i / 70)), .v (.str [c]), .v (.int a), .v (.int (i % 7)), .u] M := by
    simp only [sg4] at ix
    simp [ex, ev, evs, evb, VM.start, bind_ok, bind_ex, bw_ok, bw_ex, fz_f, fz_n, fz_ex, bl_ok, bl_ex, on_ok, on_ex, next_nx, next_rt, next_ex, res_nx, res_rt, res_ex, out_f, out_n, out_b, okB_some, okI_some, okO_some, ok1_eq, okn_eq, okL_some, add_int, sub_int, mul_int, fdiv_int, mod_int, lt_int, le_int, gt_int, ge_int, eq_int, ne_int, eq_str, ne_str, is_non, isn_non, abs_int, int_int, int_bl, divmod_ok, pfHot, store, setE, isN, noO, isO, wipe, Tg.bind, Tg.binds, Tg.is, evIt, forF, lcF, C.isFrz, bind_if, next_if, res_if, attr, clsOf, deref, getF, fld, E.isNil,  isTn, line, small_mul_r, small_mul_l, small_lit, small_neg, small_mod, it_lst, it_tup, it_scr, C.pre, c__law_bent_v1, ln, ix, md]
  rw [go__law_bent_v1, ex_pre 4 c__law_bent_v1, pre, next_nx]
  have hh := cutL_le4 t none (some a)
  have hg := cutL_le4 t (some a) none
  have hg2 := cutL_le4 t (some (a + 1)) none
  have lh : (cutL t none (some a)).length + (cutL t (some a) none).length ≤ t.length + t.length := by omega
  have a0 : 0 ≤ a := by rw [ha]; exact Int.emod_nonneg _ (by omega)
  have split' : (cutL t none (some a)).length + (cutL t (some a) none).length ≤ t.length := by
    obtain ⟨k, hk⟩ : ∃ k : Nat, a = (k : Nat) := ⟨a.toNat, by omega⟩
    rw [hk, cutH, cutLo, List.length_take, List.length_drop]; omega
  have split2 : (cutL t none (some a)).length + (cutL t (some (a + 1)) none).length ≤ t.length := by
    obtain ⟨k, hk⟩ : ∃ k : Nat, a = (k : Nat) := ⟨a.toNat, by omega⟩
    rw [hk, show ((k : Nat) : Int) + 1 = ((k + 1 : Nat) : Int) by omega, cutH, cutLo, List.length_take, List.length_drop]; omega
  have sh : prim (.sl false true) [.str t, .int a] M = .ok ⟨.f, .str (cutL t none (some a))⟩ M := rfl
  have sl : prim (.sl true false) [.str t, .int a] M = .ok ⟨.f, .str (cutL t (some a) none)⟩ M := rfl
  have sl2 : prim (.sl true false) [.str t, .int (a + 1)] M = .ok ⟨.f, .str (cutL t (some (a + 1)) none)⟩ M := rfl
  have a1 := add_str (M := M) (a := cutL t none (some a)) (b := [c]) (by simp only [List.length_cons, List.length_nil]; omega)
  by_cases q1 : i % 7 < 2
  · have a2 := add_str (M := M) (a := cutL t none (some a) ++ [c]) (b := cutL t (some a) none) (by simp only [List.length_append, List.length_cons, List.length_nil]; omega)
    refine ⟨cutL t none (some a) ++ [c] ++ cutL t (some a) none, by simp only [List.length_append, List.length_cons, List.length_nil]; omega, ?_⟩
    simp [ex, ev, evs, evb, VM.start, bind_ok, bind_ex, bw_ok, bw_ex, fz_f, fz_n, fz_ex, bl_ok, bl_ex, on_ok, on_ex, next_nx, next_rt, next_ex, res_nx, res_rt, res_ex, out_f, out_n, out_b, okB_some, okI_some, okO_some, ok1_eq, okn_eq, okL_some, add_int, sub_int, mul_int, fdiv_int, mod_int, lt_int, le_int, gt_int, ge_int, eq_int, ne_int, eq_str, ne_str, is_non, isn_non, abs_int, int_int, int_bl, divmod_ok, pfHot, store, setE, isN, noO, isO, wipe, Tg.bind, Tg.binds, Tg.is, evIt, forF, lcF, C.isFrz, bind_if, next_if, res_if, attr, clsOf, deref, getF, fld, E.isNil,  isTn, line, small_mul_r, small_mul_l, small_lit, small_neg, small_mod, it_lst, it_tup, it_scr, C.drop, c__law_bent_v1, q1, sh, sl, a1, a2, -List.append_assoc]
  by_cases q2 : i % 7 < 4
  · have a2 := add_str (M := M) (a := cutL t none (some a)) (b := cutL t (some (a + 1)) none) (by omega)
    refine ⟨cutL t none (some a) ++ cutL t (some (a + 1)) none, by simp only [List.length_append]; omega, ?_⟩
    simp [ex, ev, evs, evb, VM.start, bind_ok, bind_ex, bw_ok, bw_ex, fz_f, fz_n, fz_ex, bl_ok, bl_ex, on_ok, on_ex, next_nx, next_rt, next_ex, res_nx, res_rt, res_ex, out_f, out_n, out_b, okB_some, okI_some, okO_some, ok1_eq, okn_eq, okL_some, add_int, sub_int, mul_int, fdiv_int, mod_int, lt_int, le_int, gt_int, ge_int, eq_int, ne_int, eq_str, ne_str, is_non, isn_non, abs_int, int_int, int_bl, divmod_ok, pfHot, store, setE, isN, noO, isO, wipe, Tg.bind, Tg.binds, Tg.is, evIt, forF, lcF, C.isFrz, bind_if, next_if, res_if, attr, clsOf, deref, getF, fld, E.isNil,  isTn, line, small_mul_r, small_mul_l, small_lit, small_neg, small_mod, it_lst, it_tup, it_scr, C.drop, c__law_bent_v1, q1, q2, sh, sl2, a2]
  by_cases q3 : i % 7 < 6
  · have a2 := add_str (M := M) (a := cutL t none (some a) ++ [c]) (b := cutL t (some (a + 1)) none) (by simp only [List.length_append, List.length_cons, List.length_nil]; omega)
    refine ⟨cutL t none (some a) ++ [c] ++ cutL t (some (a + 1)) none, by simp only [List.length_append, List.length_cons, List.length_nil]; omega, ?_⟩
    simp [ex, ev, evs, evb, VM.start, bind_ok, bind_ex, bw_ok, bw_ex, fz_f, fz_n, fz_ex, bl_ok, bl_ex, on_ok, on_ex, next_nx, next_rt, next_ex, res_nx, res_rt, res_ex, out_f, out_n, out_b, okB_some, okI_some, okO_some, ok1_eq, okn_eq, okL_some, add_int, sub_int, mul_int, fdiv_int, mod_int, lt_int, le_int, gt_int, ge_int, eq_int, ne_int, eq_str, ne_str, is_non, isn_non, abs_int, int_int, int_bl, divmod_ok, pfHot, store, setE, isN, noO, isO, wipe, Tg.bind, Tg.binds, Tg.is, evIt, forF, lcF, C.isFrz, bind_if, next_if, res_if, attr, clsOf, deref, getF, fld, E.isNil,  isTn, line, small_mul_r, small_mul_l, small_lit, small_neg, small_mod, it_lst, it_tup, it_scr, C.drop, c__law_bent_v1, q1, q2, q3, sh, sl2, a1, a2, -List.append_assoc]
  obtain ⟨z, hz⟩ : ∃ z, (ot4 ++ ou4)[(i / 70 % 16).toNat]? = some z := ⟨_, List.getElem?_eq_getElem (show (i / 70 % 16).toNat < (ot4 ++ ou4).length by rw [show (ot4 ++ ou4).length = 16 from rfl]; omega)⟩
  have zl : z.length ≤ 8 := by
    have : ∀ z ∈ ot4 ++ ou4, z.length ≤ 8 := by decide
    exact this z (List.mem_of_getElem? hz)
  have ad : binop .add (.lst (ot4.map D.str)) (.lst (ou4.map D.str)) M = .ok ⟨.n, .lst ((ot4 ++ ou4).map D.str)⟩ M := by
    rw [add_lst (by decide), List.map_append]
  have ixz : index (.lst ((ot4 ++ ou4).map D.str)) (.int (i / 70 % 16)) M = .ok ⟨.f, .str z⟩ M := by
    have : index (.lst ((ot4 ++ ou4).map D.str)) (.int ((i / 70 % 16).toNat : Nat)) M = .ok ⟨.f, .str z⟩ M := ix_nat (by rw [List.getElem?_map, hz]; rfl)
    rw [Int.toNat_of_nonneg (by omega)] at this
    exact this
  refine ⟨z, by omega, ?_⟩
  generalize (ot4 ++ ou4).map D.str = Z at *
  simp only [ot4, ou4, List.map_cons, List.map_nil] at ad
  simp [ex, ev, evs, evb, VM.start, bind_ok, bind_ex, bw_ok, bw_ex, fz_f, fz_n, fz_ex, bl_ok, bl_ex, on_ok, on_ex, next_nx, next_rt, next_ex, res_nx, res_rt, res_ex, out_f, out_n, out_b, okB_some, okI_some, okO_some, ok1_eq, okn_eq, okL_some, add_int, sub_int, mul_int, fdiv_int, mod_int, lt_int, le_int, gt_int, ge_int, eq_int, ne_int, eq_str, ne_str, is_non, isn_non, abs_int, int_int, int_bl, divmod_ok, pfHot, store, setE, isN, noO, isO, wipe, Tg.bind, Tg.binds, Tg.is, evIt, forF, lcF, C.isFrz, bind_if, next_if, res_if, attr, clsOf, deref, getF, fld, E.isNil,  isTn, line, small_mul_r, small_mul_l, small_lit, small_neg, small_mod, it_lst, it_tup, it_scr, C.drop, c__law_bent_v1, q1, q2, q3, ad, ixz]
/-! what is tried -/
def kM4 : D := .lst [.str [109, 111, 110, 116, 104], .str [118, 97, 108, 117, 101]]
def kY4 : D := .lst [.str [121, 101, 97, 114], .str [118, 97, 108, 117, 101]]
def kT4 : D := .lst [.str [116, 101, 120, 116], .str [118, 97, 108, 117, 101]]
theorem k4_t : call P.pr (n + 1) (some 3) 163 [.exc] M = .ok ⟨.n, kT4⟩ M := by rfl
theorem k4_m : call P.pr (n + 1) (some 4) 163 [.exc] M = .ok ⟨.n, kM4⟩ M := by rfl
theorem k4_y : call P.pr (n + 1) (some 5) 163 [.exc] M = .ok ⟨.n, kY4⟩ M := by rfl
theorem t4_m {w : Int} {d : D} (h0 : 0 ≤ w) (h4 : w < 4) (h : ∀ k, call P.pr (k + 3) none 14 [d] M = .ex 4 M) : call P.pr (n + 5) none 215 [.int w, d] M = .ok ⟨.n, kM4⟩ M := by
  have k := k4_m (n := n + 3) (M := M)
  have s4 : subC tab.up 9 4 0 = true := by decide
  have r4 : tab.rl[4]?.getD false = true := rfl
  have dx : kM4.nox = true := rfl
  have e0 := h (n + 1)
  have e3 := h n
  have e1 : call P.pr (n + 4) none 16 [d] M = .ex 4 M := by simp [ex, ev, evs, evb, VM.start, bind_ok, bind_ex, bw_ok, bw_ex, fz_f, fz_n, fz_ex, bl_ok, bl_ex, on_ok, on_ex, next_nx, next_rt, next_ex, res_nx, res_rt, res_ex, out_f, out_n, out_b, okB_some, okI_some, okO_some, ok1_eq, okn_eq, okL_some, add_int, sub_int, mul_int, fdiv_int, mod_int, lt_int, le_int, gt_int, ge_int, eq_int, ne_int, eq_str, ne_str, is_non, isn_non, abs_int, int_int, int_bl, divmod_ok, pfHot, store, setE, isN, noO, isO, wipe, Tg.bind, Tg.binds, Tg.is, evIt, forF, lcF, C.isFrz, bind_if, next_if, res_if, attr, clsOf, deref, getF, fld, E.isNil,  isTn, line, small_mul_r, small_mul_l, small_lit, small_neg, small_mod, it_lst, it_tup, it_scr, go_month_text, c_month_text, e3]
  have e2 : call P.pr (n + 4) none 18 [d] M = .ex 4 M := by simp [ex, ev, evs, evb, VM.start, bind_ok, bind_ex, bw_ok, bw_ex, fz_f, fz_n, fz_ex, bl_ok, bl_ex, on_ok, on_ex, next_nx, next_rt, next_ex, res_nx, res_rt, res_ex, out_f, out_n, out_b, okB_some, okI_some, okO_some, ok1_eq, okn_eq, okL_some, add_int, sub_int, mul_int, fdiv_int, mod_int, lt_int, le_int, gt_int, ge_int, eq_int, ne_int, eq_str, ne_str, is_non, isn_non, abs_int, int_int, int_bl, divmod_ok, pfHot, store, setE, isN, noO, isO, wipe, Tg.bind, Tg.binds, Tg.is, evIt, forF, lcF, C.isFrz, bind_if, next_if, res_if, attr, clsOf, deref, getF, fld, E.isNil,  isTn, line, small_mul_r, small_mul_l, small_lit, small_neg, small_mod, it_lst, it_tup, it_scr, go_year_of, c_year_of, e3]
  have e3' : call P.pr (n + 4) none 19 [d] M = .ex 4 M := by simp [ex, ev, evs, evb, VM.start, bind_ok, bind_ex, bw_ok, bw_ex, fz_f, fz_n, fz_ex, bl_ok, bl_ex, on_ok, on_ex, next_nx, next_rt, next_ex, res_nx, res_rt, res_ex, out_f, out_n, out_b, okB_some, okI_some, okO_some, ok1_eq, okn_eq, okL_some, add_int, sub_int, mul_int, fdiv_int, mod_int, lt_int, le_int, gt_int, ge_int, eq_int, ne_int, eq_str, ne_str, is_non, isn_non, abs_int, int_int, int_bl, divmod_ok, pfHot, store, setE, isN, noO, isO, wipe, Tg.bind, Tg.binds, Tg.is, evIt, forF, lcF, C.isFrz, bind_if, next_if, res_if, attr, clsOf, deref, getF, fld, E.isNil,  isTn, line, small_mul_r, small_mul_l, small_lit, small_neg, small_mod, it_lst, it_tup, it_scr, go_place_of, c_place_of, e3]
  generalize kM4 = Z at *
  have : w = 0 ∨ w = 1 ∨ w = 2 ∨ w = 3 := by omega
  rcases this with rfl | rfl | rfl | rfl
  · have ix : index (.lst [.fn 14, .fn 16, .fn 18, .fn 19]) (.int 0) M = .ok ⟨.f, .fn 14⟩ M := rfl
    simp [ex, ev, evs, evb, VM.start, bind_ok, bind_ex, bw_ok, bw_ex, fz_f, fz_n, fz_ex, bl_ok, bl_ex, on_ok, on_ex, next_nx, next_rt, next_ex, res_nx, res_rt, res_ex, out_f, out_n, out_b, okB_some, okI_some, okO_some, ok1_eq, okn_eq, okL_some, add_int, sub_int, mul_int, fdiv_int, mod_int, lt_int, le_int, gt_int, ge_int, eq_int, ne_int, eq_str, ne_str, is_non, isn_non, abs_int, int_int, int_bl, divmod_ok, pfHot, store, setE, isN, noO, isO, wipe, Tg.bind, Tg.binds, Tg.is, evIt, forF, lcF, C.isFrz, bind_if, next_if, res_if, attr, clsOf, deref, getF, fld, E.isNil,  isTn, line, small_mul_r, small_mul_l, small_lit, small_neg, small_mod, it_lst, it_tup, it_scr, go__law_tried_v2, c__law_tried_v2, ix, e0, hx, s4, r4, k, dx, sames_refl]
  · have ix : index (.lst [.fn 14, .fn 16, .fn 18, .fn 19]) (.int 1) M = .ok ⟨.f, .fn 16⟩ M := rfl
    simp [ex, ev, evs, evb, VM.start, bind_ok, bind_ex, bw_ok, bw_ex, fz_f, fz_n, fz_ex, bl_ok, bl_ex, on_ok, on_ex, next_nx, next_rt, next_ex, res_nx, res_rt, res_ex, out_f, out_n, out_b, okB_some, okI_some, okO_some, ok1_eq, okn_eq, okL_some, add_int, sub_int, mul_int, fdiv_int, mod_int, lt_int, le_int, gt_int, ge_int, eq_int, ne_int, eq_str, ne_str, is_non, isn_non, abs_int, int_int, int_bl, divmod_ok, pfHot, store, setE, isN, noO, isO, wipe, Tg.bind, Tg.binds, Tg.is, evIt, forF, lcF, C.isFrz, bind_if, next_if, res_if, attr, clsOf, deref, getF, fld, E.isNil,  isTn, line, small_mul_r, small_mul_l, small_lit, small_neg, small_mod, it_lst, it_tup, it_scr, go__law_tried_v2, c__law_tried_v2, ix, e1, hx, s4, r4, k, dx, sames_refl]
  · have ix : index (.lst [.fn 14, .fn 16, .fn 18, .fn 19]) (.int 2) M = .ok ⟨.f, .fn 18⟩ M := rfl
    simp [ex, ev, evs, evb, VM.start, bind_ok, bind_ex, bw_ok, bw_ex, fz_f, fz_n, fz_ex, bl_ok, bl_ex, on_ok, on_ex, next_nx, next_rt, next_ex, res_nx, res_rt, res_ex, out_f, out_n, out_b, okB_some, okI_some, okO_some, ok1_eq, okn_eq, okL_some, add_int, sub_int, mul_int, fdiv_int, mod_int, lt_int, le_int, gt_int, ge_int, eq_int, ne_int, eq_str, ne_str, is_non, isn_non, abs_int, int_int, int_bl, divmod_ok, pfHot, store, setE, isN, noO, isO, wipe, Tg.bind, Tg.binds, Tg.is, evIt, forF, lcF, C.isFrz, bind_if, next_if, res_if, attr, clsOf, deref, getF, fld, E.isNil,  isTn, line, small_mul_r, small_mul_l, small_lit, small_neg, small_mod, it_lst, it_tup, it_scr, go__law_tried_v2, c__law_tried_v2, ix, e2, hx, s4, r4, k, dx, sames_refl]
  · have ix : index (.lst [.fn 14, .fn 16, .fn 18, .fn 19]) (.int 3) M = .ok ⟨.f, .fn 19⟩ M := rfl
    simp [ex, ev, evs, evb, VM.start, bind_ok, bind_ex, bw_ok, bw_ex, fz_f, fz_n, fz_ex, bl_ok, bl_ex, on_ok, on_ex, next_nx, next_rt, next_ex, res_nx, res_rt, res_ex, out_f, out_n, out_b, okB_some, okI_some, okO_some, ok1_eq, okn_eq, okL_some, add_int, sub_int, mul_int, fdiv_int, mod_int, lt_int, le_int, gt_int, ge_int, eq_int, ne_int, eq_str, ne_str, is_non, isn_non, abs_int, int_int, int_bl, divmod_ok, pfHot, store, setE, isN, noO, isO, wipe, Tg.bind, Tg.binds, Tg.is, evIt, forF, lcF, C.isFrz, bind_if, next_if, res_if, attr, clsOf, deref, getF, fld, E.isNil,  isTn, line, small_mul_r, small_mul_l, small_lit, small_neg, small_mod, it_lst, it_tup, it_scr, go__law_tried_v2, c__law_tried_v2, ix, e3', hx, s4, r4, k, dx, sames_refl]
theorem t4_y {w : Int} {d : D} (hw : w = 4 ∨ w = 5) (h : ∀ k, call P.pr (k + 3) none 15 [d] M = .ex 5 M) : call P.pr (n + 5) none 215 [.int w, d] M = .ok ⟨.n, kY4⟩ M := by
  have k := k4_y (n := n + 3) (M := M)
  have s4 : subC tab.up 9 5 0 = true := by decide
  have r4 : tab.rl[5]?.getD false = true := rfl
  have dx : kY4.nox = true := rfl
  have e0 := h (n + 1)
  have e3 := h n
  have e1 : call P.pr (n + 4) none 20 [d] M = .ex 5 M := by simp [ex, ev, evs, evb, VM.start, bind_ok, bind_ex, bw_ok, bw_ex, fz_f, fz_n, fz_ex, bl_ok, bl_ex, on_ok, on_ex, next_nx, next_rt, next_ex, res_nx, res_rt, res_ex, out_f, out_n, out_b, okB_some, okI_some, okO_some, ok1_eq, okn_eq, okL_some, add_int, sub_int, mul_int, fdiv_int, mod_int, lt_int, le_int, gt_int, ge_int, eq_int, ne_int, eq_str, ne_str, is_non, isn_non, abs_int, int_int, int_bl, divmod_ok, pfHot, store, setE, isN, noO, isO, wipe, Tg.bind, Tg.binds, Tg.is, evIt, forF, lcF, C.isFrz, bind_if, next_if, res_if, attr, clsOf, deref, getF, fld, E.isNil,  isTn, line, small_mul_r, small_mul_l, small_lit, small_neg, small_mod, it_lst, it_tup, it_scr, go_months_of, c_months_of, e3]
  generalize kY4 = Z at *
  rcases hw with rfl | rfl
  · have ix : index (.lst [.fn 15, .fn 20]) (.int 0) M = .ok ⟨.f, .fn 15⟩ M := rfl
    simp [ex, ev, evs, evb, VM.start, bind_ok, bind_ex, bw_ok, bw_ex, fz_f, fz_n, fz_ex, bl_ok, bl_ex, on_ok, on_ex, next_nx, next_rt, next_ex, res_nx, res_rt, res_ex, out_f, out_n, out_b, okB_some, okI_some, okO_some, ok1_eq, okn_eq, okL_some, add_int, sub_int, mul_int, fdiv_int, mod_int, lt_int, le_int, gt_int, ge_int, eq_int, ne_int, eq_str, ne_str, is_non, isn_non, abs_int, int_int, int_bl, divmod_ok, pfHot, store, setE, isN, noO, isO, wipe, Tg.bind, Tg.binds, Tg.is, evIt, forF, lcF, C.isFrz, bind_if, next_if, res_if, attr, clsOf, deref, getF, fld, E.isNil,  isTn, line, small_mul_r, small_mul_l, small_lit, small_neg, small_mod, it_lst, it_tup, it_scr, go__law_tried_v2, c__law_tried_v2, ix, e0, hx, s4, r4, k, dx, sames_refl]
  · have ix : index (.lst [.fn 15, .fn 20]) (.int 1) M = .ok ⟨.f, .fn 20⟩ M := rfl
    simp [ex, ev, evs, evb, VM.start, bind_ok, bind_ex, bw_ok, bw_ex, fz_f, fz_n, fz_ex, bl_ok, bl_ex, on_ok, on_ex, next_nx, next_rt, next_ex, res_nx, res_rt, res_ex, out_f, out_n, out_b, okB_some, okI_some, okO_some, ok1_eq, okn_eq, okL_some, add_int, sub_int, mul_int, fdiv_int, mod_int, lt_int, le_int, gt_int, ge_int, eq_int, ne_int, eq_str, ne_str, is_non, isn_non, abs_int, int_int, int_bl, divmod_ok, pfHot, store, setE, isN, noO, isO, wipe, Tg.bind, Tg.binds, Tg.is, evIt, forF, lcF, C.isFrz, bind_if, next_if, res_if, attr, clsOf, deref, getF, fld, E.isNil,  isTn, line, small_mul_r, small_mul_l, small_lit, small_neg, small_mod, it_lst, it_tup, it_scr, go__law_tried_v2, c__law_tried_v2, ix, e1, hx, s4, r4, k, dx, sames_refl]
theorem t4_t {d : D} (h : call P.pr (n + 4) none 17 [d] M = .ex 3 M) : call P.pr (n + 5) none 215 [.int 6, d] M = .ok ⟨.n, kT4⟩ M := by
  have k := k4_t (n := n + 3) (M := M)
  have s4 : subC tab.up 9 3 0 = true := by decide
  have r4 : tab.rl[3]?.getD false = true := rfl
  have dx : kT4.nox = true := rfl
  generalize kT4 = Z at *
  simp [ex, ev, evs, evb, VM.start, bind_ok, bind_ex, bw_ok, bw_ex, fz_f, fz_n, fz_ex, bl_ok, bl_ex, on_ok, on_ex, next_nx, next_rt, next_ex, res_nx, res_rt, res_ex, out_f, out_n, out_b, okB_some, okI_some, okO_some, ok1_eq, okn_eq, okL_some, add_int, sub_int, mul_int, fdiv_int, mod_int, lt_int, le_int, gt_int, ge_int, eq_int, ne_int, eq_str, ne_str, is_non, isn_non, abs_int, int_int, int_bl, divmod_ok, pfHot, store, setE, isN, noO, isO, wipe, Tg.bind, Tg.binds, Tg.is, evIt, forF, lcF, C.isFrz, bind_if, next_if, res_if, attr, clsOf, deref, getF, fld, E.isNil,  isTn, line, small_mul_r, small_mul_l, small_lit, small_neg, small_mod, it_lst, it_tup, it_scr, go__law_tried_v2, c__law_tried_v2, h, hx, s4, r4, k, dx, sames_refl]
theorem t4_ok {d : D} {v : Int} (h : call P.pr (n + 4) none 17 [d] M = .ok ⟨.f, .int v⟩ M) : call P.pr (n + 5) none 215 [.int 6, d] M = .ok ⟨.n, .lst [.int v]⟩ M := by
  simp [ex, ev, evs, evb, VM.start, bind_ok, bind_ex, bw_ok, bw_ex, fz_f, fz_n, fz_ex, bl_ok, bl_ex, on_ok, on_ex, next_nx, next_rt, next_ex, res_nx, res_rt, res_ex, out_f, out_n, out_b, okB_some, okI_some, okO_some, ok1_eq, okn_eq, okL_some, add_int, sub_int, mul_int, fdiv_int, mod_int, lt_int, le_int, gt_int, ge_int, eq_int, ne_int, eq_str, ne_str, is_non, isn_non, abs_int, int_int, int_bl, divmod_ok, pfHot, store, setE, isN, noO, isO, wipe, Tg.bind, Tg.binds, Tg.is, evIt, forF, lcF, C.isFrz, bind_if, next_if, res_if, attr, clsOf, deref, getF, fld, E.isNil,  isTn, line, small_mul_r, small_mul_l, small_lit, small_neg, small_mod, it_lst, it_tup, it_scr, go__law_tried_v2, c__law_tried_v2, h]
theorem r_fits {t : List Nat} (ht : t.length < 90000) : call P.pr (n + 6) none 217 [.str t] M = .ok ⟨.f, .bl true⟩ M := by
  have l := l_read_month (n := n + 4) (M := M) ht
  have r := r_read_month (n := n + 2) (M := M) (t := t)
  cases k : rdm t with
  | none =>
    rw [k] at l r
    have td := t4_t (n := n) r
    have eq1 : cmpop .eq kT4 (.lst [.str [116, 101, 120, 116], .str [118, 97, 108, 117, 101]]) M = some true := eq_same rfl rfl
    simp only [oI] at l
    generalize kT4 = Z at *
    simp [ex, ev, evs, evb, VM.start, bind_ok, bind_ex, bw_ok, bw_ex, fz_f, fz_n, fz_ex, bl_ok, bl_ex, on_ok, on_ex, next_nx, next_rt, next_ex, res_nx, res_rt, res_ex, out_f, out_n, out_b, okB_some, okI_some, okO_some, ok1_eq, okn_eq, okL_some, add_int, sub_int, mul_int, fdiv_int, mod_int, lt_int, le_int, gt_int, ge_int, eq_int, ne_int, eq_str, ne_str, is_non, isn_non, abs_int, int_int, int_bl, divmod_ok, pfHot, store, setE, isN, noO, isO, wipe, Tg.bind, Tg.binds, Tg.is, evIt, forF, lcF, C.isFrz, bind_if, next_if, res_if, attr, clsOf, deref, getF, fld, E.isNil,  isTn, line, small_mul_r, small_mul_l, small_lit, small_neg, small_mod, it_lst, it_tup, it_scr, go__law_read_fits_v1, c__law_read_fits_v1, l, td, eq1]
  | some v =>
    rw [k] at l r
    have td := t4_ok (n := n) r
    have eq1 : cmpop .eq (.lst [.int v]) (.lst [.int v]) M = some true := eq_same rfl rfl
    have ix : index (.lst [.int v]) (.int 0) M = .ok ⟨.f, .int v⟩ M := rfl
    have w := r_lwhole (n := n + 4) (hot := none) (M := M) (i := v)
    simp only [oI] at l
    simp [ex, ev, evs, evb, VM.start, bind_ok, bind_ex, bw_ok, bw_ex, fz_f, fz_n, fz_ex, bl_ok, bl_ex, on_ok, on_ex, next_nx, next_rt, next_ex, res_nx, res_rt, res_ex, out_f, out_n, out_b, okB_some, okI_some, okO_some, ok1_eq, okn_eq, okL_some, add_int, sub_int, mul_int, fdiv_int, mod_int, lt_int, le_int, gt_int, ge_int, eq_int, ne_int, eq_str, ne_str, is_non, isn_non, abs_int, int_int, int_bl, divmod_ok, pfHot, store, setE, isN, noO, isO, wipe, Tg.bind, Tg.binds, Tg.is, evIt, forF, lcF, C.isFrz, bind_if, next_if, res_if, attr, clsOf, deref, getF, fld, E.isNil,  isTn, line, small_mul_r, small_mul_l, small_lit, small_neg, small_mod, it_lst, it_tup, it_scr, go__law_read_fits_v1, c__law_read_fits_v1, l, td, eq1, ix, w]
theorem fn4 : True := trivial
theorem noM {m : Int} (h0 : 0 ≤ m) {d : D} (hd : d ∈ [D.int (-1), .int 120000, .bl true, .non, .str [48], .lst [.int 0], .int (120000 + m), .int (-1 - m), .bl false, .str [50, 48, 51, 49, 45, 48, 52]]) (k : Nat) : call P.pr (k + 3) none 14 [d] M = .ex 4 M := by
  simp only [List.mem_cons, List.not_mem_nil, or_false] at hd
  rcases hd with rfl | rfl | rfl | rfl | rfl | rfl | rfl | rfl | rfl | rfl
  · exact r_need_month_no (by omega)
  · exact r_need_month_no (by omega)
  · exact r_need_month_t (t := .bool) rfl (by decide)
  · exact r_need_month_t (t := .none) rfl (by decide)
  · exact r_need_month_t (t := .str) rfl (by decide)
  · exact r_need_month_t (t := .list) rfl (by decide)
  · exact r_need_month_no (by omega)
  · exact r_need_month_no (by omega)
  · exact r_need_month_t (t := .bool) rfl (by decide)
  · exact r_need_month_t (t := .str) rfl (by decide)
theorem need_year_no {y : Int} (h : y < 0 ∨ 9999 < y) : call P.pr (n + 3) none 15 [.int y] M = .ex 5 M := by
  have no : ¬ (0 ≤ y ∧ y ≤ 9999) := by omega
  have e := r_among_i (n := n) (hot := none) (M := M) (i := y) (a := 0) (b := 9999)
  rw [decide_eq_false no] at e
  simp [ex, ev, evs, evb, VM.start, bind_ok, bind_ex, bw_ok, bw_ex, fz_f, fz_n, fz_ex, bl_ok, bl_ex, on_ok, on_ex, next_nx, next_rt, next_ex, res_nx, res_rt, res_ex, out_f, out_n, out_b, okB_some, okI_some, okO_some, ok1_eq, okn_eq, okL_some, add_int, sub_int, mul_int, fdiv_int, mod_int, lt_int, le_int, gt_int, ge_int, eq_int, ne_int, eq_str, ne_str, is_non, isn_non, abs_int, int_int, int_bl, divmod_ok, pfHot, store, setE, isN, noO, isO, wipe, Tg.bind, Tg.binds, Tg.is, evIt, forF, lcF, C.isFrz, bind_if, next_if, res_if, attr, clsOf, deref, getF, fld, E.isNil,  isTn, line, small_mul_r, small_mul_l, small_lit, small_neg, small_mod, it_lst, it_tup, it_scr, go_need_year, c_need_year, gv_7, e]
theorem need_year_t {d : D} {t : Tn} (h : tnOf (deref M d) = some t) (ne : t ≠ .int) : call P.pr (n + 3) none 15 [d] M = .ex 5 M := by
  have e := r_among_no (n := n) (hot := none) (x := .int 0) (y := .int 9999) h ne
  simp [ex, ev, evs, evb, VM.start, bind_ok, bind_ex, bw_ok, bw_ex, fz_f, fz_n, fz_ex, bl_ok, bl_ex, on_ok, on_ex, next_nx, next_rt, next_ex, res_nx, res_rt, res_ex, out_f, out_n, out_b, okB_some, okI_some, okO_some, ok1_eq, okn_eq, okL_some, add_int, sub_int, mul_int, fdiv_int, mod_int, lt_int, le_int, gt_int, ge_int, eq_int, ne_int, eq_str, ne_str, is_non, isn_non, abs_int, int_int, int_bl, divmod_ok, pfHot, store, setE, isN, noO, isO, wipe, Tg.bind, Tg.binds, Tg.is, evIt, forF, lcF, C.isFrz, bind_if, next_if, res_if, attr, clsOf, deref, getF, fld, E.isNil,  isTn, line, small_mul_r, small_mul_l, small_lit, small_neg, small_mod, it_lst, it_tup, it_scr, go_need_year, c_need_year, gv_7, e]
theorem noY4 {m : Int} (h0 : 0 ≤ m) {d : D} (hd : d ∈ [D.int (-1), .int 10000, .bl true, .non, .str [48], .lst [.int 0], .int (10000 + m), .int (-1 - m), .bl false, .str [50, 48, 51, 49]]) (k : Nat) : call P.pr (k + 3) none 15 [d] M = .ex 5 M := by
  simp only [List.mem_cons, List.not_mem_nil, or_false] at hd
  rcases hd with rfl | rfl | rfl | rfl | rfl | rfl | rfl | rfl | rfl | rfl
  · exact need_year_no (by omega)
  · exact need_year_no (by omega)
  · exact need_year_t (t := .bool) rfl (by decide)
  · exact need_year_t (t := .none) rfl (by decide)
  · exact need_year_t (t := .str) rfl (by decide)
  · exact need_year_t (t := .list) rfl (by decide)
  · exact need_year_no (by omega)
  · exact need_year_no (by omega)
  · exact need_year_t (t := .bool) rfl (by decide)
  · exact need_year_t (t := .str) rfl (by decide)
theorem r_refused4 {m : Int} (h0 : 0 ≤ m) : call P.pr (n + 6) none 216 [.int m] M = .ok ⟨.f, .bl true⟩ M := by
  obtain ⟨dm, im, mm⟩ := ix_lst (xs := [D.int (-1), .int 120000, .bl true, .non, .str [48], .lst [.int 0], .int (120000 + m), .int (-1 - m), .bl false, .str [50, 48, 51, 49, 45, 48, 52]]) M (i := m % 10) (by omega) (by simp only [List.length_cons, List.length_nil]; omega)
  obtain ⟨dy, iy, my⟩ := ix_lst (xs := [D.int (-1), .int 10000, .bl true, .non, .str [48], .lst [.int 0], .int (10000 + m), .int (-1 - m), .bl false, .str [50, 48, 51, 49]]) M (i := m / 10 % 10) (by omega) (by simp only [List.length_cons, List.length_nil]; omega)
  obtain ⟨dt, it, mt⟩ := ix_lst (xs := [D.non, .int 5, .bl true, .lst [.str [50, 48, 51, 49, 45, 48, 52]], .int 24376, .dct [] []]) M (i := m / 100 % 6) (by omega) (by simp only [List.length_cons, List.length_nil]; omega)
  have em := fun k => noM (M := M) h0 mm k
  have ey := fun k => noY4 (M := M) h0 my k
  have et : call P.pr (n + 4) none 17 [dt] M = .ex 3 M := by
    simp only [List.mem_cons, List.not_mem_nil, or_false] at mt
    rcases mt with rfl | rfl | rfl | rfl | rfl | rfl
    · exact r_read_month_no (u := .none) rfl (by decide)
    · exact r_read_month_no (u := .int) rfl (by decide)
    · exact r_read_month_no (u := .bool) rfl (by decide)
    · exact r_read_month_no (u := .list) rfl (by decide)
    · exact r_read_month_no (u := .int) rfl (by decide)
    · exact r_read_month_no (u := .dict) rfl (by decide)
  have tt := t4_t (n := n) et
  have qt : cmpop .eq kT4 (.lst [.str [116, 101, 120, 116], .str [118, 97, 108, 117, 101]]) M = some true := eq_same rfl rfl
  have qm : cmpop .ne kM4 (.lst [.str [109, 111, 110, 116, 104], .str [118, 97, 108, 117, 101]]) M = some false := ne_same rfl rfl
  have qy : cmpop .ne kY4 (.lst [.str [121, 101, 97, 114], .str [118, 97, 108, 117, 101]]) M = some false := ne_same rfl rfl
  obtain ⟨XM, eM⟩ : ∃ X, D.lst [D.int (-1), .int 120000, .bl true, .non, .str [48], .lst [.int 0], .int (120000 + m), .int (-1 - m), .bl false, .str [50, 48, 51, 49, 45, 48, 52]] = X := ⟨_, rfl⟩
  obtain ⟨XY, eY⟩ : ∃ X, D.lst [D.int (-1), .int 10000, .bl true, .non, .str [48], .lst [.int 0], .int (10000 + m), .int (-1 - m), .bl false, .str [50, 48, 51, 49]] = X := ⟨_, rfl⟩
  have pre : ex tab (call P.pr (n + 5)) none (C.pre 2 c__law_refused_v2) [.v (.int m), .u, .u, .u] M = .nx [.v (.int m), .v XM, .v XY, .u] M := by
    rw [← eM, ← eY]
    simp [ex, ev, evs, evb, VM.start, bind_ok, bind_ex, bw_ok, bw_ex, fz_f, fz_n, fz_ex, bl_ok, bl_ex, on_ok, on_ex, next_nx, next_rt, next_ex, res_nx, res_rt, res_ex, out_f, out_n, out_b, okB_some, okI_some, okO_some, ok1_eq, okn_eq, okL_some, add_int, sub_int, mul_int, fdiv_int, mod_int, lt_int, le_int, gt_int, ge_int, eq_int, ne_int, eq_str, ne_str, is_non, isn_non, abs_int, int_int, int_bl, divmod_ok, pfHot, store, setE, isN, noO, isO, wipe, Tg.bind, Tg.binds, Tg.is, evIt, forF, lcF, C.isFrz, bind_if, next_if, res_if, attr, clsOf, deref, getF, fld, E.isNil,  isTn, line, small_mul_r, small_mul_l, small_lit, small_neg, small_mod, it_lst, it_tup, it_scr, C.pre, c__law_refused_v2]
  rw [eM] at im
  rw [eY] at iy
  obtain ⟨σ', M', e, hM, s3, hσ⟩ := forL_up (N := 4) (f := forF (.n 3) (ex tab (call P.pr (n + 5)) none b__law_refused_v2_0)) (P := fun k σ M' => M' = M ∧ ∃ s3, σ = [.v (.int m), .v XM, .v XY, s3]) (fun k σ M1 hk hq => by
    obtain ⟨rfl, s3, rfl⟩ := hq
    have t := t4_m (n := n) (w := (k : Nat)) (d := dm) (by omega) (by omega) em
    refine ⟨_, _, ?_, rfl, .v (.int (k : Nat)), rfl⟩
    generalize kM4 = Z at *
    simp [ex, ev, evs, evb, VM.start, bind_ok, bind_ex, bw_ok, bw_ex, fz_f, fz_n, fz_ex, bl_ok, bl_ex, on_ok, on_ex, next_nx, next_rt, next_ex, res_nx, res_rt, res_ex, out_f, out_n, out_b, okB_some, okI_some, okO_some, ok1_eq, okn_eq, okL_some, add_int, sub_int, mul_int, fdiv_int, mod_int, lt_int, le_int, gt_int, ge_int, eq_int, ne_int, eq_str, ne_str, is_non, isn_non, abs_int, int_int, int_bl, divmod_ok, pfHot, store, setE, isN, noO, isO, wipe, Tg.bind, Tg.binds, Tg.is, evIt, forF, lcF, C.isFrz, bind_if, next_if, res_if, attr, clsOf, deref, getF, fld, E.isNil,  isTn, line, small_mul_r, small_mul_l, small_lit, small_neg, small_mod, it_lst, it_tup, it_scr, b__law_refused_v2_0, im, t, qm]) (σ := [.v (.int m), .v XM, .v XY, .u]) (M := M) ⟨rfl, .u, rfl⟩
  subst hM
  subst hσ
  have rg : rng1 (.int 4) = some (rgL 4) := rng1_ok (i := 4) (by omega) (by omega)
  have t4 := t4_y (n := n) (w := 4) (d := dy) (.inl rfl) ey
  have t5 := t4_y (n := n) (w := 5) (d := dy) (.inr rfl) ey
  rw [go__law_refused_v2, ex_pre 2 c__law_refused_v2, pre, next_nx]
  generalize kT4 = ZT at *
  generalize kM4 = ZM at *
  generalize kY4 = ZY at *
  simp [ex, ev, evs, evb, VM.start, bind_ok, bind_ex, bw_ok, bw_ex, fz_f, fz_n, fz_ex, bl_ok, bl_ex, on_ok, on_ex, next_nx, next_rt, next_ex, res_nx, res_rt, res_ex, out_f, out_n, out_b, okB_some, okI_some, okO_some, ok1_eq, okn_eq, okL_some, add_int, sub_int, mul_int, fdiv_int, mod_int, lt_int, le_int, gt_int, ge_int, eq_int, ne_int, eq_str, ne_str, is_non, isn_non, abs_int, int_int, int_bl, divmod_ok, pfHot, store, setE, isN, noO, isO, wipe, Tg.bind, Tg.binds, Tg.is, evIt, forF, lcF, C.isFrz, bind_if, next_if, res_if, attr, clsOf, deref, getF, fld, E.isNil,  isTn, line, small_mul_r, small_mul_l, small_lit, small_neg, small_mod, it_lst, it_tup, it_scr, C.drop, c__law_refused_v2, rg]
  rw [e]
  simp [ex, ev, evs, evb, VM.start, bind_ok, bind_ex, bw_ok, bw_ex, fz_f, fz_n, fz_ex, bl_ok, bl_ex, on_ok, on_ex, next_nx, next_rt, next_ex, res_nx, res_rt, res_ex, out_f, out_n, out_b, okB_some, okI_some, okO_some, ok1_eq, okn_eq, okL_some, add_int, sub_int, mul_int, fdiv_int, mod_int, lt_int, le_int, gt_int, ge_int, eq_int, ne_int, eq_str, ne_str, is_non, isn_non, abs_int, int_int, int_bl, divmod_ok, pfHot, store, setE, isN, noO, isO, wipe, Tg.bind, Tg.binds, Tg.is, evIt, forF, lcF, C.isFrz, bind_if, next_if, res_if, attr, clsOf, deref, getF, fld, E.isNil,  isTn, line, small_mul_r, small_mul_l, small_lit, small_neg, small_mod, it_lst, it_tup, it_scr, forL, still, b__law_refused_v2_1, iy, t4, t5, qy, it, tt, qt]
theorem l_month4 {x : Int} : ∃ m : Int, isM4 m ∧ call P.pr (n + 1) none 212 [.int x] M = .ok ⟨.f, .int m⟩ M := by
  obtain ⟨d, e, md⟩ := ix_lst (xs := [D.int (x / 3 % 120000), .int (x / 3 % 24), .int (119999 - x / 3 % 24)]) M (i := x % 3) (by omega) (by simp only [List.length_cons, List.length_nil]; omega)
  simp only [List.mem_cons, List.not_mem_nil, or_false] at md
  have go : call P.pr (n + 1) none 212 [.int x] M = .ok ⟨.f, d⟩ M := by simp [ex, ev, evs, evb, VM.start, bind_ok, bind_ex, bw_ok, bw_ex, fz_f, fz_n, fz_ex, bl_ok, bl_ex, on_ok, on_ex, next_nx, next_rt, next_ex, res_nx, res_rt, res_ex, out_f, out_n, out_b, okB_some, okI_some, okO_some, ok1_eq, okn_eq, okL_some, add_int, sub_int, mul_int, fdiv_int, mod_int, lt_int, le_int, gt_int, ge_int, eq_int, ne_int, eq_str, ne_str, is_non, isn_non, abs_int, int_int, int_bl, divmod_ok, pfHot, store, setE, isN, noO, isO, wipe, Tg.bind, Tg.binds, Tg.is, evIt, forF, lcF, C.isFrz, bind_if, next_if, res_if, attr, clsOf, deref, getF, fld, E.isNil,  isTn, line, small_mul_r, small_mul_l, small_lit, small_neg, small_mod, it_lst, it_tup, it_scr, go__law_month_v0, c__law_month_v0, e]
  rcases md with rfl | rfl | rfl
  · exact ⟨_, by unfold isM4; omega, go⟩
  · exact ⟨_, by unfold isM4; omega, go⟩
  · exact ⟨_, by unfold isM4; omega, go⟩
theorem mtx_len {m : Int} (h : isM4 m) : (mtx m).length = 7 := by
  obtain ⟨h0, h1⟩ := h
  have l4 := z4_len (y := (m / 12).toNat) (by omega)
  unfold mtx
  rw [List.length_append, List.length_append, l4]; rfl
theorem law_holds (xs : List Int) : ∃ kd M, call P.pr (n + 8) none n_law [.scr (xs.map .int)] [] = .ok ⟨kd, .bl true⟩ M := by
  have hR : ∀ k : Int, 0 ≤ k → k < 1000 → ∃ m : Int, (0 ≤ m ∧ m < 2147483647) ∧ call P.pr (n + 7) none 142 [.scr (xs.map .int), .int k] [] = .ok ⟨.f, .int m⟩ [] := fun k h h2 => r_mix (n := n + 5) (hot := none) xs h h2
  obtain ⟨x0, p0, h0⟩ := hR 0 (by omega) (by omega)
  obtain ⟨x1, p1, h1⟩ := hR 1 (by omega) (by omega)
  obtain ⟨x2, p2, h2⟩ := hR 2 (by omega) (by omega)
  obtain ⟨x3, p3, h3⟩ := hR 3 (by omega) (by omega)
  obtain ⟨x4, p4, h4⟩ := hR 4 (by omega) (by omega)
  obtain ⟨x5, p5, h5⟩ := hR 5 (by omega) (by omega)
  obtain ⟨m, hm, em⟩ := l_month4 (n := n + 6) (M := []) (x := x0)
  obtain ⟨m2, hm2, em2⟩ := l_month4 (n := n + 6) (M := []) (x := x2)
  obtain ⟨m4, hm4, em4⟩ := l_month4 (n := n + 6) (M := []) (x := x4)
  have lm := mtx_len hm
  have lm2 := mtx_len hm2
  have t1 := r_month_text (n := n + 3) (M := []) hm
  have l1 := l_month_text (n := n + 6) (M := []) hm
  have l2 := l_month_text (n := n + 6) (M := []) hm2
  have nm := r_need_month (n := n + 4) (M := []) hm.1 hm.2
  have yo := r_year_of4 (n := n + 3) (M := []) hm
  have po := r_place_of (n := n + 3) (M := []) hm
  have pe : m % 12 + 1 = m - m / 12 * 12 + 1 := by omega
  have w := fun i : Int => r_lwhole (n := n + 6) (hot := none) (M := []) (i := i)
  have f0 := r_fits (n := n + 1) (M := []) (t := mtx m) (by omega)
  obtain ⟨b1, lb1, eb1⟩ := l_bent4 (n := n + 6) (M := []) (t := mtx m) (i := x1) p1.1 (by omega)
  have f1 := r_fits (n := n + 1) (M := []) (t := b1) (by omega)
  obtain ⟨b2, lb2, eb2⟩ := l_bent4 (n := n + 6) (M := []) (t := mtx m2) (i := x3) p3.1 (by omega)
  have f2 := r_fits (n := n + 1) (M := []) (t := b2) (by omega)
  obtain ⟨y, hy⟩ : ∃ y, y = m4 / 12 := ⟨_, rfl⟩
  have y0 : 0 ≤ y := by have := hm4.1; omega
  have y1 : y ≤ 9999 := by have := hm4.2; omega
  have ny := r_need_year4 (n := n + 4) (M := []) y0 y1
  have mo := r_months_of4 (n := n + 3) (M := []) y0 y1
  have rg : rngL [.int 12] = some (rgL 12) := rngL1_ok (a := 12) (by omega) (by omega)
  have rf := r_refused4 (n := n + 1) (M := []) p5.1
  have ge : rgA (12 * y) 12 = (List.range 12).map fun k : Nat => D.int (12 * y + (k : Int)) := rgA_map
  have il : isInst tab none [] (.lst (rgA (12 * y) 12)) .list = some true := rfl
  have dd : (D.lst (rgA (12 * y) 12)).dry = true := drys_map (f := fun k : Nat => D.int (12 * y + (k : Int))) (fun _ => rfl) _
  have dp : (D.lst (rgA (12 * y) 12)).dp 60 = true := dps_map (f := fun k : Nat => D.int (12 * y + (k : Int))) (n := 59) (fun _ => rfl) _
  have q1 : cmpop .ne (.lst (rgA (12 * y) 12)) (.lst (rgA (12 * y) 12)) [] = some false := ne_same dd dp
  have q2 : cmpop .eq (.lst (rgA (12 * y) 12)) (.lst (rgA (12 * y) 12)) [] = some true := eq_same dd dp
  have m12 : mulOk 12 y = true := small_mul_l (by decide)
  have lc : ∀ (c : Mem → Bool) (F : D → Mem → Rs (Option D)), c [] = true → (∀ k ∈ List.range 12, F (.int (k : Nat)) [] = .ok (some (.int (12 * y + (k : Int)))) []) → lcL c F (rgL 12) [] = .ok (rgA (12 * y) 12) [] := fun c F hc h => by
    rw [rgL_map, ge]
    exact lst_map (f := fun k : Nat => D.int (k : Nat)) (g := fun k : Nat => D.int (12 * y + (k : Int))) hc h
  have lw : ∀ (c : Mem → Bool) (F : D → Mem → Rs (Option D)), c [] = true → (∀ k ∈ List.range 12, F (.int (12 * y + (k : Int))) [] = .ok (some (.bl true)) []) → lcL c F (rgA (12 * y) 12) [] = .ok ((List.range 12).map fun _ => D.bl true) [] := fun c F hc h => by
    rw [ge]
    exact lst_map (f := fun k : Nat => D.int (12 * y + (k : Int))) (g := fun _ => D.bl true) hc h
  have al : pf .all [.lst ((List.range 12).map fun _ => D.bl true)] [] = .ok ⟨.f, .bl true⟩ [] := rfl
  have pop : ∃ ys : List D, ys.length = 11 ∧ muL .pop (rgA (12 * y) 12) [.int 0] = some ys := ⟨_, rfl, rfl⟩
  obtain ⟨ys, yl, pp⟩ := pop
  have l11 : pf .len [.lst ys] [] = .ok ⟨.f, .int (ys.length : Nat)⟩ [] := len_ok rfl
  rw [yl] at l11
  have itA : items (.lst (rgA (12 * y) 12)) [] = some (rgA (12 * y) 12) := rfl
  refine ⟨.f, [], ?_⟩
  generalize rgA (12 * y) 12 = A at *
  generalize mtx m = T at *
  generalize mtx m2 = T2 at *
  have st1 : ex tab (call P.pr (n + 7)) none (C.pre 8 c_law) [.v (.scr (xs.map .int)), .u, .u, .u, .u, .u, .u, .u] [] = .nx [.v (.scr (xs.map .int)), .v (.int m), .v (.str T), .v (.int y), .u, .u, .u, .u] [] := by
    rw [hy]
    have isT : isInst tab none [] (.str T) .str = some true := rfl
    simp [ex, ev, evs, evb, VM.start, bind_ok, bind_ex, bw_ok, bw_ex, fz_f, fz_n, fz_ex, bl_ok, bl_ex, on_ok, on_ex, next_nx, next_rt, next_ex, res_nx, res_rt, res_ex, out_f, out_n, out_b, okB_some, okI_some, okO_some, ok1_eq, okn_eq, okL_some, add_int, sub_int, mul_int, fdiv_int, mod_int, lt_int, le_int, gt_int, ge_int, eq_int, ne_int, eq_str, ne_str, is_non, isn_non, abs_int, int_int, int_bl, divmod_ok, pfHot, store, setE, isN, noO, isO, wipe, Tg.bind, Tg.binds, Tg.is, evIt, forF, lcF, C.isFrz, bind_if, next_if, res_if, attr, clsOf, deref, getF, fld, E.isNil,  isTn, line, small_mul_r, small_mul_l, small_lit, small_neg, small_mod, it_lst, it_tup, it_scr, C.pre, c_law, h0, h1, h2, h3, h4, em, em2, em4, t1, l1, l2, nm, isT, yo, po, pe, w, f0, f1, f2, eb1, eb2]
  rw [show n_law = 218 from rfl, go_law, ex_pre 8 c_law, st1, next_nx]
  simp [ex, ev, evs, evb, VM.start, bind_ok, bind_ex, bw_ok, bw_ex, fz_f, fz_n, fz_ex, bl_ok, bl_ex, on_ok, on_ex, next_nx, next_rt, next_ex, res_nx, res_rt, res_ex, out_f, out_n, out_b, okB_some, okI_some, okO_some, ok1_eq, okn_eq, okL_some, add_int, sub_int, mul_int, fdiv_int, mod_int, lt_int, le_int, gt_int, ge_int, eq_int, ne_int, eq_str, ne_str, is_non, isn_non, abs_int, int_int, int_bl, divmod_ok, pfHot, store, setE, isN, noO, isO, wipe, Tg.bind, Tg.binds, Tg.is, evIt, forF, lcF, C.isFrz, bind_if, next_if, res_if, attr, clsOf, deref, getF, fld, E.isNil,  isTn, line, small_mul_r, small_mul_l, small_lit, small_neg, small_mod, it_lst, it_tup, it_scr, C.drop, c_law, mo, rg]
  rw [lc _ _ (by rfl) (fun k _ => by simp [ex, ev, evs, evb, VM.start, bind_ok, bind_ex, bw_ok, bw_ex, fz_f, fz_n, fz_ex, bl_ok, bl_ex, on_ok, on_ex, next_nx, next_rt, next_ex, res_nx, res_rt, res_ex, out_f, out_n, out_b, okB_some, okI_some, okO_some, ok1_eq, okn_eq, okL_some, add_int, sub_int, mul_int, fdiv_int, mod_int, lt_int, le_int, gt_int, ge_int, eq_int, ne_int, eq_str, ne_str, is_non, isn_non, abs_int, int_int, int_bl, divmod_ok, pfHot, store, setE, isN, noO, isO, wipe, Tg.bind, Tg.binds, Tg.is, evIt, forF, lcF, C.isFrz, bind_if, next_if, res_if, attr, clsOf, deref, getF, fld, E.isNil,  isTn, line, small_mul_r, small_mul_l, small_lit, small_neg, small_mod, it_lst, it_tup, it_scr, m12])]
  simp [ex, ev, evs, evb, VM.start, bind_ok, bind_ex, bw_ok, bw_ex, fz_f, fz_n, fz_ex, bl_ok, bl_ex, on_ok, on_ex, next_nx, next_rt, next_ex, res_nx, res_rt, res_ex, out_f, out_n, out_b, okB_some, okI_some, okO_some, ok1_eq, okn_eq, okL_some, add_int, sub_int, mul_int, fdiv_int, mod_int, lt_int, le_int, gt_int, ge_int, eq_int, ne_int, eq_str, ne_str, is_non, isn_non, abs_int, int_int, int_bl, divmod_ok, pfHot, store, setE, isN, noO, isO, wipe, Tg.bind, Tg.binds, Tg.is, evIt, forF, lcF, C.isFrz, bind_if, next_if, res_if, attr, clsOf, deref, getF, fld, E.isNil,  isTn, line, small_mul_r, small_mul_l, small_lit, small_neg, small_mod, it_lst, it_tup, it_scr, ny, il, q1, itA]
  rw [lw _ _ (by rfl) (fun k _ => by simp [ex, ev, evs, evb, VM.start, bind_ok, bind_ex, bw_ok, bw_ex, fz_f, fz_n, fz_ex, bl_ok, bl_ex, on_ok, on_ex, next_nx, next_rt, next_ex, res_nx, res_rt, res_ex, out_f, out_n, out_b, okB_some, okI_some, okO_some, ok1_eq, okn_eq, okL_some, add_int, sub_int, mul_int, fdiv_int, mod_int, lt_int, le_int, gt_int, ge_int, eq_int, ne_int, eq_str, ne_str, is_non, isn_non, abs_int, int_int, int_bl, divmod_ok, pfHot, store, setE, isN, noO, isO, wipe, Tg.bind, Tg.binds, Tg.is, evIt, forF, lcF, C.isFrz, bind_if, next_if, res_if, attr, clsOf, deref, getF, fld, E.isNil,  isTn, line, small_mul_r, small_mul_l, small_lit, small_neg, small_mod, it_lst, it_tup, it_scr, w])]
  generalize (List.range 12).map (fun _ => D.bl true) = BB at *
  simp [ex, ev, evs, evb, VM.start, bind_ok, bind_ex, bw_ok, bw_ex, fz_f, fz_n, fz_ex, bl_ok, bl_ex, on_ok, on_ex, next_nx, next_rt, next_ex, res_nx, res_rt, res_ex, out_f, out_n, out_b, okB_some, okI_some, okO_some, ok1_eq, okn_eq, okL_some, add_int, sub_int, mul_int, fdiv_int, mod_int, lt_int, le_int, gt_int, ge_int, eq_int, ne_int, eq_str, ne_str, is_non, isn_non, abs_int, int_int, int_bl, divmod_ok, pfHot, store, setE, isN, noO, isO, wipe, Tg.bind, Tg.binds, Tg.is, evIt, forF, lcF, C.isFrz, bind_if, next_if, res_if, attr, clsOf, deref, getF, fld, E.isNil,  isTn, line, small_mul_r, small_mul_l, small_lit, small_neg, small_mod, it_lst, it_tup, it_scr, al, pp, mo, q2, l11, h5, rf]
theorem law_true : ∀ ns : List Int, ns.length ≤ 63 → ∃ kd M, call P.pr 25 none n_law [.scr (ns.map .int)] [] = .ok ⟨kd, .bl true⟩ M := fun ns _ => law_holds (n := 17) ns
end

end VM.K
open PySem PySem.W PySem.Calls PyProof.Rows
theorem PySem.Challenge.cw_coinroll_k04_months_told_holds : PySem.Challenge.rw_coinroll_k04_months_told.Holds := by
  w_on; o_law
  refine HandSHeadRun.head_any (r := VM.K.R) (q := view VM.K.R.prog [VM.K.place]) (H := VM.K.hk) (ob := VM.K.ob) (M := 20000) (loose := VM.K.loose) (d := HandSHeadRun.topDef VM.K.R.prog VM.K.place) (kwd := []) VM.K.ob_eq
    (by kernel_rfl) (fun s => by kernel_rfl) VM.K.run (by kernel_rfl) (by kernel_rfl) (by kernel_rfl) (by rfl) (by first | assumption | decide +kernel) (by decide +kernel) ⟨rfl, rfl, rfl, rfl, rfl, by decide +kernel⟩ ?hw ?hc
  case hw => w_witness2
  case hc => exact VM.law_end (P := VM.K.P) (l := PySem.Challenge.rw_coinroll_k04_months_told) (x := "_law_script") (m := 63) (k := 25) (f := VM.K.n_law) rfl (by decide) (by decide) (by kernel_rfl) ⟨rfl, by decide, by decide⟩ VM.K.ok (hy := rfl) (by kernel_rfl) (by decide +kernel) rfl (by rfl) VM.K.law_true
