import PyProof.Rows.All
import Wide.All
import OpenK.AllK
import Wide.FinOn
import HandS.ForMost
import HandS.ForExc
import HandS.Wide
import HandS.IsInst
import HandS.ExcIs
import HandS.ExcCtx
import HandS.CallSlots
import HandS.HotCalls
import HandS.Base
import HandS.Call
import HandS.Comp
import HandS.Exc
import HandS.ExcOwn
import HandS.Hot
import HandS.Defaults
import HandS.HeadHook4
import HandS.Head2
import HandS.HeadEnd
import HandS.HeadWalk
import KE.KStateDown
import HandS.Head0
import HandS.Head1
import HandS.HeadHook1
import HandS.HeadHook2
import PySem.Challenge.RW_coinroll_k01_shares_rounded
set_option Elab.async false
set_option linter.all false
set_option maxRecDepth 100001
set_option maxHeartbeats 0
/-! VM0: a small machine over values: what a Python text does, as a total function. -/
namespace VM

/-- a dict's key -/
inductive Key where
  | i (n : Int) | s (t : List Nat)
  deriving DecidableEq

/-- values: data by value; scr: a list that is locked; cell i: the i-th shared object; exc: the exception that is handled -/
inductive D where
  | non | bl (b : Bool) | int (i : Int) | str (s : List Nat) | tup (ds : List D) | lst (ds : List D) | scr (ds : List D) | dct (ks : List Key) (vs : List D)
  | cell (i : Nat) | ins (C : Nat) (fs : List Nat) (vs : List D) | exc
abbrev Mem := List D
/-- a slot: unset, a value, an own list, dict, the instance that an __init__ makes -/
inductive SV where
  | u | v (d : D) | o (d : D) | s (d : D)
/-- how a result stands: for good, new and nobody's, borrowed of an own slot -/
inductive Kd where
  | f | n | b
  deriving DecidableEq
inductive Rs (α : Type) where
  | ok (a : α) (M : Mem) | ex (C : Nat) (M : Mem) | stk
def Rs.bind {α β : Type} : Rs α → (α → Mem → Rs β) → Rs β
  | .ok a M, f => f a M
  | .ex C M, _ => .ex C M
  | .stk, _ => .stk
structure KD where
  k : Kd
  d : D
/-- an operand that is kept -/
def Rs.fz : Rs KD → Rs D
  | .ok ⟨.b, _⟩ _ => .stk
  | .ok ⟨_, d⟩ M => .ok d M
  | .ex C M => .ex C M
  | .stk => .stk
/-- an operand that is looked at -/
def Rs.bw : Rs KD → Rs D
  | .ok ⟨_, d⟩ M => .ok d M
  | .ex C M => .ex C M
  | .stk => .stk

def line : Nat := 16777216
def deref (M : Mem) : D → D
  | .cell i => M.getD i .non
  | d => d

/-! ### deep equality -/
mutual
def D.eq : D → D → Bool
  | .non, .non => true
  | .bl a, .bl b => a == b
  | .bl a, .int j => (if a then 1 else 0) == j
  | .int i, .bl b => i == (if b then 1 else 0)
  | .int i, .int j => i == j
  | .str x, .str y => x == y
  | .lst xs, .lst ys => eqs xs ys
  | .tup xs, .tup ys => eqs xs ys
  | _, _ => false
def eqs : List D → List D → Bool
  | [], [] => true
  | x :: xs, y :: ys => x.eq y && eqs xs ys
  | _, _ => false
end
mutual
/-- data of at most so many levels -/
def D.dp : Nat → D → Bool
  | _, .non => true
  | _, .bl _ => true
  | _, .int _ => true
  | _, .str _ => true
  | 0, _ => false
  | n + 1, .lst xs => dps n xs
  | n + 1, .tup xs => dps n xs
  | _, _ => false
def dps : Nat → List D → Bool
  | _, [] => true
  | n, x :: xs => x.dp n && dps n xs
end

/-! ### operators -/
inductive Bop where
  | add | sub | mul | fdiv | mod | pow
  deriving DecidableEq
inductive Cop where
  | eq | ne | lt | le | gt | ge | is | isn | isin | notin
  deriving DecidableEq
def smallI (i : Int) : Bool := decide (i.natAbs < 18446744073709551616)
def mulOk (i j : Int) : Bool := smallI i || smallI j || decide (i.natAbs.log2 + j.natAbs.log2 < 1000000)
def ok1 (d : D) (M : Mem) : Rs KD := .ok ⟨.f, d⟩ M
def okn (d : D) (M : Mem) : Rs KD := .ok ⟨.n, d⟩ M
def rep {α : Type} (xs : List α) : Nat → List α
  | 0 => []
  | n + 1 => xs ++ rep xs n
def addop (x y : D) (M : Mem) : Rs KD :=
  match x, y with
  | .int i, .int j => ok1 (.int (i + j)) M
  | .str a, .str b => if a.length + b.length < line then ok1 (.str (a ++ b)) M else .stk
  | x, y => (match deref M x, deref M y with
    | .lst xs, .lst ys => if xs.length + ys.length < line then okn (.lst (xs ++ ys)) M else .stk
    | .tup xs, .tup ys => if xs.length + ys.length < line ∧ xs.isEmpty = false ∧ ys.isEmpty = false then ok1 (.tup (xs ++ ys)) M else .stk
    | _, _ => .stk)
def mulop (x y : D) (M : Mem) : Rs KD :=
  match x, y with
  | .int i, .int j => if mulOk i j then ok1 (.int (i * j)) M else .stk
  | x, .int j => (match deref M x with
    | .lst xs => if j.natAbs < 1000000 ∧ xs.length * j.toNat < line then okn (.lst (rep xs j.toNat)) M else .stk
    | _ => .stk)
  | _, _ => .stk
def intop (f : Int → Int → Rs KD) (x y : D) : Rs KD :=
  match x, y with
  | .int i, .int j => f i j
  | _, _ => .stk
def binop (o : Bop) (x y : D) (M : Mem) : Rs KD :=
  match o with
  | .add => addop x y M
  | .mul => mulop x y M
  | .sub => intop (fun i j => ok1 (.int (i - j)) M) x y
  | .fdiv => intop (fun i j => if 0 < j ∧ j.natAbs.log2 < 9000 then ok1 (.int (i / j)) M else .stk) x y
  | .mod => intop (fun i j => if 0 < j then ok1 (.int (i % j)) M else .stk) x y
  | .pow => intop (fun i j => if 0 ≤ j ∧ j ≤ 1000000 ∧ i.natAbs < 18446744073709551616 then ok1 (.int (i ^ j.toNat)) M else .stk) x y
def isN : D → Bool
  | .non => true
  | _ => false
/-- flat things: what may be looked for -/
def D.flat : D → Bool
  | .non => true
  | .bl _ => true
  | .int _ => true
  | .str _ => true
  | _ => false
def inL (x : D) : List D → Bool
  | [] => false
  | y :: ys => y.eq x || inL x ys
def subAt : List Nat → List Nat → Bool
  | s, [] => s.isEmpty
  | s, c :: t => s.isPrefixOf (c :: t) || subAt s t
def isin (x y : D) (M : Mem) : Option Bool :=
  match y with
  | .str t => (match x with
    | .str [c] => some (decide (c ∈ t))
    | _ => none)
  | y => (match deref M y with
    | .lst ys => if x.flat && ys.all D.flat then some (inL x ys) else none
    | .tup ys => if x.flat && ys.all D.flat then some (inL x ys) else none
    | .dct ks _ => (match x with
      | .int i => some (decide (Key.i i ∈ ks))
      | .str s => some (decide (Key.s s ∈ ks))
      | _ => none)
    | _ => none)
/-- == of two -/
def eqop (x y : D) (M : Mem) : Option Bool :=
  if (deref M x).dp 60 && (deref M y).dp 60 then some ((deref M x).eq (deref M y)) else none
def cmpI (f : Int → Int → Bool) (x y : D) : Option Bool :=
  match x, y with
  | .int i, .int j => some (f i j)
  | _, _ => none
def isop (x y : D) : Option Bool :=
  match y with
  | .non => some (isN x)
  | _ => none
def cmpop (o : Cop) (x y : D) (M : Mem) : Option Bool :=
  match o with
  | .is => isop x y
  | .isn => (isop x y).map (!·)
  | .eq => eqop x y M
  | .ne => (eqop x y M).map (!·)
  | .lt => cmpI (fun i j => decide (i < j)) x y
  | .le => cmpI (fun i j => decide (i ≤ j)) x y
  | .gt => cmpI (fun i j => decide (j < i)) x y
  | .ge => cmpI (fun i j => decide (j ≤ i)) x y
  | .isin => isin x y M
  | .notin => (isin x y M).map (!·)
def okB (r : Option Bool) (M : Mem) : Rs KD :=
  match r with
  | some b => ok1 (.bl b) M
  | none => .stk

/-! ### built-ins -/
inductive Ty where
  | int | bool | str | list | tuple | dict | cls (C : Nat) | valueError
  deriving DecidableEq
inductive Pf where
  | len | sum | abs | int | divmod | all
  deriving DecidableEq
def sumI : List D → Option Int
  | [] => some 0
  | .int i :: r => (sumI r).map (i + ·)
  | _ => none
def allB : List D → Option Bool
  | [] => some true
  | .bl b :: r => (allB r).map (b && ·)
  | _ => none
def okI (r : Option Int) (M : Mem) : Rs KD :=
  match r with
  | some i => ok1 (.int i) M
  | none => .stk
def lenD : D → Option Int
  | .str s => some s.length
  | .lst xs => some xs.length
  | .tup xs => some xs.length
  | .scr xs => some xs.length
  | .dct ks _ => some ks.length
  | _ => none
def pfHot : Pf → Bool
  | .sum => false
  | .all => false
  | .divmod => false
  | _ => true
def pfAbs (as : List D) (M : Mem) : Rs KD :=
  match as with
  | [.int i] => ok1 (.int (if i < 0 then -i else i)) M
  | _ => .stk
def pfInt (as : List D) (M : Mem) : Rs KD :=
  match as with
  | [.int i] => ok1 (.int i) M
  | [.bl b] => ok1 (.int (if b then 1 else 0)) M
  | _ => .stk
def pfDivmod (as : List D) (M : Mem) : Rs KD :=
  match as with
  | [.int i, .int j] => if 0 < j ∧ j < 1073741824 then ok1 (.tup [.int (i / j), .int (i % j)]) M else .stk
  | _ => .stk
def pfLen (as : List D) (M : Mem) : Rs KD :=
  match as with
  | [a] => okI (lenD (deref M a)) M
  | _ => .stk
def pfSum (as : List D) (M : Mem) : Rs KD :=
  match as with
  | [a] => (match deref M a with
    | .lst xs => okI (sumI xs) M
    | _ => .stk)
  | _ => .stk
def pfAll (as : List D) (M : Mem) : Rs KD :=
  match as with
  | [a] => (match deref M a with
    | .lst xs => okB (allB xs) M
    | _ => .stk)
  | _ => .stk
def pf (p : Pf) (as : List D) (M : Mem) : Rs KD :=
  match p with
  | .abs => pfAbs as M
  | .int => pfInt as M
  | .divmod => pfDivmod as M
  | .len => pfLen as M
  | .sum => pfSum as M
  | .all => pfAll as M
/-- the place of an index in a sequence of so many -/
def place (n : Nat) (i : Int) : Option Nat := if 0 ≤ i then (if i < n then some i.toNat else none) else if -(n : Int) ≤ i then some (i + n).toNat else none
def at? {α : Type} (xs : List α) (i : Int) : Option α := (place xs.length i).bind fun j => xs[j]?
def okO (r : Option D) (M : Mem) : Rs KD :=
  match r with
  | some d => ok1 d M
  | none => .stk
def index (a i : D) (M : Mem) : Rs KD :=
  match i with
  | .int i => (match deref M a with
    | .lst xs => okO (at? xs i) M
    | .scr xs => okO (at? xs i) M
    | .tup xs => okO (at? xs i) M
    | .str xs => okO ((at? xs i).map fun c => .str [c]) M
    | _ => .stk)
  | _ => .stk

/-! ### the text -/
/-- a target: a slot, a tuple of targets -/
inductive Tg where
  | n (i : Nat) | t (l : Tg) | nil | cons (a l : Tg)
inductive E where
  | v (i : Nat) | c (d : D) | g (x : Nat)
  | bin (o : Bop) (a b : E) | neg (a : E) | not (a : E) | and (a b : E) | or (a b : E)
  | cmp (o : Cop) (a b : E) | chn (o o' : Cop) (a b c : E) | ife (t a b : E)
  | call (f : Nat) (as : E) | bf (p : Pf) (as : E) | isi (a : E) (t : Ty)
  | ix (a i : E) | tup (as : E) | lst (as : E) | dct0
  | lc (own : List Nat) (t : Tg) (it : E) (c : E) (e : E) | lcr (own : List Nat) (t : Tg) (as : E) (c : E) (e : E)
  | nil | cons (a b : E)
def E.isNil : E → Bool
  | .nil => true
  | _ => false
/-- what a for walks: the list of its items -/
inductive It where
  | e (a : E) | r1 (a : E) | r2 (a b : E)
/-- how a new list is stored: for good, own, as a shared one -/
inductive Md where
  | f | o | c
inductive C where
  | nop | seq (a b : C) | set (m : Md) (i : Nat) (e : E) | setT (t : Tg) (e : E) | exp (e : E)
  | ite (t : E) (a b : C) | for (t : Tg) (it : It) (b : C) | ret (e : E) | rai (C : Nat)
  | try (b : C) (h : C) | hnd (X : Nat) (i : Option Nat) (s : C) (r : C)

/-- the program's classes: the class above each (its own number: none), is it a ValueError -/
structure Tab where
  up : List (Option Nat)
  glob : List D
def subC (up : List (Option Nat)) : Nat → Nat → Nat → Bool
  | 0, _, _ => false
  | n + 1, c, d => decide (c = d) || match up.getD c none with
    | some u => subC up n u d
    | none => false

/-- the handled exception's class -/
abbrev Hot := Option Nat
/-- the built-in type of a value, by its name's place -/
inductive Tn where
  | none | bool | int | str | list | tuple | dict
  deriving DecidableEq
def tnOf : D → Option Tn
  | .non => some .none
  | .bl _ => some .bool
  | .int _ => some .int
  | .str _ => some .str
  | .lst _ => some .list
  | .scr _ => some .list
  | .tup _ => some .tuple
  | .dct _ _ => some .dict
  | _ => none
def isTn (t : Tn) (u : Ty) : Bool :=
  match u with
  | .int => t == .int || t == .bool
  | .bool => t == .bool
  | .str => t == .str
  | .list => t == .list
  | .tuple => t == .tuple
  | .dict => t == .dict
  | .cls _ => false
  | .valueError => false
def isInst (T : Tab) (hot : Hot) (M : Mem) (d : D) (t : Ty) : Option Bool :=
  match tnOf (deref M d) with
  | some n => some (isTn n t)
  | none => (match d, t with
    | .exc, .cls C' => hot.map fun c => subC T.up 9 c C'
    | .exc, .valueError => hot.map fun _ => true
    | _, _ => none)
/-- the items of a value that is walked -/
def items (d : D) (M : Mem) : Option (List D) :=
  match deref M d with
  | .lst xs => some xs
  | .tup xs => some xs
  | .scr xs => some xs
  | _ => none
mutual
def D.same : D → D → Bool
  | .non, .non => true
  | .bl a, .bl b => a == b
  | .int i, .int j => decide (i = j)
  | .str x, .str y => decide (x = y)
  | .lst xs, .lst ys => sames xs ys
  | .tup xs, .tup ys => sames xs ys
  | .scr xs, .scr ys => sames xs ys
  | .dct k xs, .dct l ys => decide (k = l) && sames xs ys
  | .cell i, .cell j => decide (i = j)
  | .ins a b xs, .ins c d ys => decide (a = c) && decide (b = d) && sames xs ys
  | .exc, .exc => true
  | _, _ => false
def sames : List D → List D → Bool
  | [], [] => true
  | x :: xs, y :: ys => x.same y && sames xs ys
  | _, _ => false
end
/-- what is walked is as it was: a shared object may have changed -/
def still (d : D) (xs : List D) (M : Mem) : Bool :=
  match d with
  | .cell _ => (match items d M with
    | some ys => sames xs ys
    | none => false)
  | _ => true
mutual
def Tg.bind : Tg → D → List SV → Option (List SV)
  | .n i, d, σ => some (σ.set i (.v d))
  | .t l, d, σ => (match d with
    | .tup ds => l.binds ds σ
    | _ => none)
  | _, _, _ => none
def Tg.binds : Tg → List D → List SV → Option (List SV)
  | .nil, ds, σ => (match ds with
    | [] => some σ
    | _ => none)
  | .cons a l, ds, σ => (match ds with
    | d :: ds => (match a.bind d σ with
      | some σ => l.binds ds σ
      | none => none)
    | _ => none)
  | _, _, _ => none
end
def Tg.is : Tg → List Nat
  | .n i => [i]
  | .t l => l.is
  | .nil => []
  | .cons a l => a.is ++ l.is
def isO : Option SV → Bool
  | some (.o _) => true
  | some (.s _) => true
  | _ => false
def noO (is : List Nat) (σ : List SV) : Bool := is.all fun i => !isO σ[i]?
def wipe : List Nat → List SV → List SV
  | [], σ => σ
  | i :: is, σ => (wipe is σ).set i .u
/-- a comprehension's turns -/
def lcL (c : Mem → Bool) (f : D → Mem → Rs (Option D)) : List D → Mem → Rs (List D)
  | [], M => if c M then .ok [] M else .stk
  | x :: xs, M => if c M then (f x M).bind fun y M => (lcL c f xs M).bind fun ys M => .ok (match y with
    | some d => d :: ys
    | none => ys) M else .stk
def lcF (own : List Nat) (t : Tg) (σ : List SV) (el : List SV → Mem → Rs (Option D)) (x : D) (M : Mem) : Rs (Option D) :=
  match t.bind x (wipe own σ) with
  | some τ => el τ M
  | none => .stk
def bl? : D → Option Bool
  | .bl b => some b
  | _ => none
def Rs.bl : Rs KD → Rs Bool
  | .ok ⟨_, .bl b⟩ M => .ok b M
  | .ok _ _ => .stk
  | .ex C M => .ex C M
  | .stk => .stk

def upTo (f : Nat → Int) (n : Nat) : List D := (List.range n).map fun k => D.int (f k)
def rng1 (d : D) : Option (List D) :=
  match d with
  | .int n => if n.natAbs < 2 ^ 60 then some (upTo (fun k => 0 + (k : Int)) n.toNat) else none
  | _ => none
def rng2 (d e : D) : Option (List D) :=
  match d, e with
  | .int a, .int b => if a.natAbs < 2 ^ 60 ∧ b.natAbs < 2 ^ 60 then some (upTo (fun k => a + (k : Int)) (b - a).toNat) else none
  | _, _ => none
def okL (r : Option (List D)) (d : D) (M : Mem) : Rs (List D × D) :=
  match r with
  | some xs => .ok (xs, d) M
  | none => .stk
def rngL (ds : List D) : Option (List D) :=
  match (match ds with
    | [a] => rng1 a
    | [a, b] => rng2 a b
    | _ => none) with
  | some xs => if xs.length < line then some xs else none
  | none => none
section
variable (T : Tab) (Φ : Nat → List D → Mem → Rs KD) (hot : Hot)
mutual
def ev : E → List SV → Mem → Rs KD
  | .v i, σ, M => (match σ[i]? with
    | some (.v d) => .ok ⟨.f, d⟩ M
    | some (.o d) => .ok ⟨.b, d⟩ M
    | some (.s d) => .ok ⟨.b, d⟩ M
    | _ => .stk)
  | .c d, _, M => ok1 d M
  | .g x, _, M => ok1 (T.glob.getD x .non) M
  | .bin o a b, σ, M => (ev a σ M).bw.bind fun x M => (ev b σ M).bw.bind fun y M => binop o x y M
  | .neg a, σ, M => (ev a σ M).bw.bind fun x M => (match x with
    | .int i => ok1 (.int (-i)) M
    | _ => .stk)
  | .not a, σ, M => (ev a σ M).bl.bind fun b M => ok1 (.bl (!b)) M
  | .and a b, σ, M => (ev a σ M).bl.bind fun x M => if x then (ev b σ M).bl.bind fun y M => ok1 (.bl y) M else ok1 (.bl false) M
  | .or a b, σ, M => (ev a σ M).bl.bind fun x M => if x then ok1 (.bl true) M else (ev b σ M).bl.bind fun y M => ok1 (.bl y) M
  | .cmp o a b, σ, M => (ev a σ M).bw.bind fun x M => (ev b σ M).bw.bind fun y M => okB (cmpop o x y M) M
  | .chn o o' a b c, σ, M => (ev a σ M).bw.bind fun x M => (ev b σ M).bw.bind fun y M => (okB (cmpop o x y M) M).bl.bind fun k M =>
      if k then (ev c σ M).bw.bind fun z M => okB (cmpop o' y z M) M else ok1 (.bl false) M
  | .ife t a b, σ, M => (ev t σ M).bl.bind fun k M => if k then ev a σ M else ev b σ M
  | .call f as, σ, M => (evs as σ M).bind fun ds M => Φ f ds M
  | .bf p as, σ, M => if hot.isSome && !pfHot p then .stk else (evb as σ M).bind fun ds M => pf p ds M
  | .isi a t, σ, M => (ev a σ M).bw.bind fun x M => okB (isInst T hot M x t) M
  | .ix a i, σ, M => (ev a σ M).bw.bind fun x M => (ev i σ M).bw.bind fun y M => index x y M
  | .tup as, σ, M => (evs as σ M).bind fun ds M => if ds.length < line then ok1 (.tup ds) M else .stk
  | .lst as, σ, M => (evs as σ M).bind fun ds M => if ds.length < line then okn (.lst ds) M else .stk
  | .dct0, _, M => okn (.dct [] []) M
  | .lc own t it c e, σ, M => if !noO own σ then .stk else (ev it σ M).bw.bind fun d M => (match items d M with
    | some xs => (lcL (still d xs) (lcF own t σ (fun τ M => if c.isNil then (ev e τ M).fz.bind fun y M => .ok (some y) M
        else (ev c τ M).bl.bind fun k M => if k then (ev e τ M).fz.bind fun y M => .ok (some y) M else .ok none M)) xs M).bind fun ys M => okn (.lst ys) M
    | none => .stk)
  | .lcr own t as c e, σ, M => if !noO own σ then .stk else (evb as σ M).bind fun ds M => (match rngL ds with
    | some xs => (lcL (still .non xs) (lcF own t σ (fun τ M => if c.isNil then (ev e τ M).fz.bind fun y M => .ok (some y) M
        else (ev c τ M).bl.bind fun k M => if k then (ev e τ M).fz.bind fun y M => .ok (some y) M else .ok none M)) xs M).bind fun ys M => okn (.lst ys) M
    | none => .stk)
  | .nil, _, _ => .stk
  | .cons _ _, _, _ => .stk
def evs : E → List SV → Mem → Rs (List D)
  | .cons a as, σ, M => (ev a σ M).fz.bind fun d M => (evs as σ M).bind fun ds M => .ok (d :: ds) M
  | .nil, _, M => .ok [] M
  | _, _, _ => .stk
def evb : E → List SV → Mem → Rs (List D)
  | .cons a as, σ, M => (ev a σ M).bw.bind fun d M => (evb as σ M).bind fun ds M => .ok (d :: ds) M
  | .nil, _, M => .ok [] M
  | _, _, _ => .stk
end

inductive Sx where
  | nx (σ : List SV) (M : Mem) | rt (r : KD) (M : Mem) | ex (C : Nat) (σ : List SV) (M : Mem) | stk
/-- an expression's answer, in a statement -/
def Rs.on {α : Type} (r : Rs α) (σ : List SV) (f : α → Mem → Sx) : Sx :=
  match r with
  | .ok a M => f a M
  | .ex C M => .ex C σ M
  | .stk => .stk
def Sx.next (r : Sx) (f : List SV → Mem → Sx) : Sx :=
  match r with
  | .nx σ M => f σ M
  | r => r
/-- what a for walks: the items, and what tells whether they are as they were -/
def evIt : It → List SV → Mem → Rs (List D × D)
  | .e a, σ, M => (ev T Φ hot a σ M).fz.bind fun d M => okL (items d M) d M
  | .r1 a, σ, M => (ev T Φ hot a σ M).bw.bind fun x M => okL (rng1 x) .non M
  | .r2 a b, σ, M => (ev T Φ hot a σ M).bw.bind fun x M => (ev T Φ hot b σ M).bw.bind fun y M => okL (rng2 x y) .non M
def forL (c : Mem → Bool) (f : D → List SV → Mem → Sx) : List D → List SV → Mem → Sx
  | [], σ, M => if c M then .nx σ M else .stk
  | x :: xs, σ, M => if c M then (f x σ M).next fun σ M => forL c f xs σ M else .stk
def isS : Option SV → Bool
  | some (.s _) => true
  | _ => false
def store (m : Md) (i : Nat) (r : KD) (σ : List SV) (M : Mem) : Sx :=
  if isS σ[i]? then .stk else
  match m, r with
  | _, ⟨.b, _⟩ => .stk
  | .o, ⟨.n, d⟩ => .nx (σ.set i (.o d)) M
  | .c, ⟨.n, d⟩ => .nx (σ.set i (.v (.cell M.length))) (M ++ [d])
  | _, ⟨_, d⟩ => .nx (σ.set i (.v d)) M
def noS (is : List Nat) (σ : List SV) : Bool := is.all fun i => !isS σ[i]?
def forF (t : Tg) (body : List SV → Mem → Sx) (x : D) (σ : List SV) (M : Mem) : Sx :=
  if noS t.is σ then (match t.bind x σ with
    | some σ => body σ M
    | none => .stk) else .stk
def setE : Option Nat → SV → List SV → List SV
  | none, _, σ => σ
  | some i, x, σ => σ.set i x
def out (r : KD) : KD :=
  match r with
  | ⟨.b, d⟩ => ⟨.n, d⟩
  | r => r
end
section
variable (T : Tab) (Φ : Hot → Nat → List D → Mem → Rs KD)
mutual
/-- nothing of the handled exception in it -/
def D.nox : D → Bool
  | .exc => false
  | .tup ds => noxs ds
  | .lst ds => noxs ds
  | .scr ds => noxs ds
  | .dct _ ds => noxs ds
  | .ins _ _ ds => noxs ds
  | _ => true
def noxs : List D → Bool
  | [] => true
  | d :: ds => d.nox && noxs ds
end
mutual
def ex : Hot → C → List SV → Mem → Sx
  | _, .nop, σ, M => .nx σ M
  | hot, .seq a b, σ, M => (ex hot a σ M).next fun σ M => ex hot b σ M
  | hot, .set m i e, σ, M => (ev T (Φ hot) hot e σ M).on σ fun r M => store m i r σ M
  | hot, .setT t e, σ, M => (ev T (Φ hot) hot e σ M).fz.on σ fun d M => if noS t.is σ then (match t.bind d σ with
      | some σ => .nx σ M
      | none => .stk) else .stk
  | hot, .exp e, σ, M => (ev T (Φ hot) hot e σ M).on σ fun _ M => .nx σ M
  | hot, .ite t a b, σ, M => (ev T (Φ hot) hot t σ M).bl.on σ fun k M => if k then ex hot a σ M else ex hot b σ M
  | hot, .for t it b, σ, M => (evIt T (Φ hot) hot it σ M).on σ fun xd M => forL (still xd.2 xd.1) (forF t (ex hot b)) xd.1 σ M
  | hot, .ret e, σ, M => (ev T (Φ hot) hot e σ M).on σ fun r M => .rt (out r) M
  | none, .rai C, σ, M => .ex C σ M
  | some _, .rai _, _, _ => .stk
  | some _, .try _ _, _, _ => .stk
  | none, .try b h, σ, M => (match ex none b σ M with
    | .ex C σ M => if C < T.up.length then hx h C σ M else .stk
    | r => r)
  | _, .hnd _ _ _ _, _, _ => .stk
def hx : C → Nat → List SV → Mem → Sx
  | .hnd X i s r, c, σ, M => if subC T.up 9 c X then (match i with
    | none => (match ex (some c) s σ M with
      | .ex _ _ _ => .stk
      | r => r)
    | some i => if isS σ[i]? then .stk else (match ex (some c) s (σ.set i (.v .exc)) M with
      | .rt r M' => if r.d.nox && sames M' M then .rt r M else .stk
      | _ => .stk)) else hx r c σ M
  | .nop, c, σ, M => .ex c σ M
  | _, _, _, _ => .stk
end
end

/-- a def: how many slots, how many parameters, its body -/
structure Fd where
  ns : Nat
  ps : Nat
  body : C
structure Pr where
  T : Tab
  fs : List Fd
def start (n : Nat) (ds : List D) : List SV := ds.map .v ++ List.replicate (n - ds.length) .u
def Sx.res : Sx → Rs KD
  | .nx _ M => .ok ⟨.f, .non⟩ M
  | .rt r M => .ok r M
  | .ex C _ M => .ex C M
  | .stk => .stk
def Pr.fd (P : Pr) (f : Nat) : Fd := P.fs.getD f ⟨0, 0, .nop⟩
/-- a call, at most n deep -/
def call (P : Pr) : Nat → Hot → Nat → List D → Mem → Rs KD
  | 0, _, _, _, _ => .stk
  | n + 1, hot, f, ds, M => if ds.length = (P.fd f).ps then (ex P.T (call P n) hot (P.fd f).body (start (P.fd f).ns ds) M).res else .stk
end VM
/-! VM1: how the machine's values stand in the heap. -/
namespace VM
open PySem L2 PySem.Spec PyProof.Rows

def tx (s : List Nat) : Str := ⟨s.toArray⟩
abbrev OkS (s : List Nat) : Prop := s.length < line ∧ ∀ c ∈ s, c < 1114112
def kx : Key → L2.Key
  | .i n => .inl n
  | .s t => .inr (tx t)
structure Wd where
  K : PySem.W.Frag
  ca : Nat → Addr
  fn : Nat → Str
  xa : Option Addr

/-! ### values -/
mutual
def Fz (W : Wd) (ρ : List Addr) (G : Hp) : D → V → Prop
  | .non, v => v = .non
  | .bl b, v => v = .bl b
  | .int i, v => v = .int i
  | .str s, v => v = .str (tx s) ∧ OkS s
  | .tup ds, v => ∃ a vs, v = .ref a ∧ SqT W.K G a vs ∧ ds.length < line ∧ Fzs W ρ G ds vs
  | .lst ds, v => ∃ a vs, v = .ref a ∧ G a = some (.lst vs) ∧ ds.length < line ∧ Fzs W ρ G ds vs
  | .scr ds, v => ∃ a vs, v = .ref a ∧ SqL W.K G a vs ∧ ds.length < line ∧ Fzs W ρ G ds vs
  | .dct ks ds, v => ∃ a vs, v = .ref a ∧ G a = some (.dK ((ks.map kx).zip vs)) ∧ ks.length = vs.length ∧ Fzs W ρ G ds vs
  | .cell i, v => ∃ a, v = .ref a ∧ ρ[i]? = some a
  | .ins C fs ds, v => ∃ a dx vs, v = .ref a ∧ G a = some (.ins (W.ca C) dx ((fs.map W.fn).zip vs)) ∧ fs.length = vs.length ∧ Fzs W ρ G ds vs
  | .exc, v => ∃ a, W.xa = some a ∧ v = .ref a
def Fzs (W : Wd) (ρ : List Addr) (G : Hp) : List D → List V → Prop
  | [], vs => vs = []
  | d :: ds, vs => ∃ v r, vs = v :: r ∧ Fz W ρ G d v ∧ Fzs W ρ G ds r
end
abbrev Hle (G H : Hp) : Prop := ∀ a o, G a = some o → H a = some o
theorem Hle.refl (G : Hp) : Hle G G := fun _ _ h => h
theorem Hle.trans {G H I : Hp} (a : Hle G H) (b : Hle H I) : Hle G I := fun c o h => b c o (a c o h)
theorem Hle.rd {G H : Hp} (e : Hle G H) {a : Addr} {u : HO} (h : Rd G a u) : Rd H a u := h.elim (fun q => .inl (e _ _ q)) fun ⟨o, q⟩ => .inr ⟨o, e _ _ q⟩
theorem Hle.sql {K : PySem.W.Frag} {G H : Hp} (e : Hle G H) {a : Addr} {xs : List V} (h : SqL K G a xs) : SqL K H a xs := Same.seq e h
theorem Hle.sqt {K : PySem.W.Frag} {G H : Hp} (e : Hle G H) {a : Addr} {xs : List V} (h : SqT K G a xs) : SqT K H a xs := by
  rcases h with (h | ⟨o, h⟩) | h
  · exact .inl (.inl (e _ _ h))
  · exact .inl (.inr ⟨o, e _ _ h⟩)
  · exact .inr h
abbrev Rle (ρ ρ' : List Addr) : Prop := ∀ (i : Nat) (a : Addr), ρ[i]? = some a → ρ'[i]? = some a
theorem Rle.refl (ρ : List Addr) : Rle ρ ρ := fun _ _ h => h
theorem Rle.trans {a b c : List Addr} (h : Rle a b) (k : Rle b c) : Rle a c := fun i x e => k i x (h i x e)
section
variable {W : Wd} {ρ ρ' : List Addr} {G G' : Hp}
mutual
theorem Fz.mono (hr : Rle ρ ρ') (hg : Hle G G') : ∀ (d : D) (v : V), Fz W ρ G d v → Fz W ρ' G' d v
  | .non, _, h => h
  | .bl _, _, h => h
  | .int _, _, h => h
  | .str _, _, h => h
  | .tup ds, v, h => by
    unfold Fz at h ⊢
    obtain ⟨a, vs, e, q, l, r⟩ := h
    exact ⟨a, vs, e, hg.sqt q, l, Fzs.mono hr hg ds vs r⟩
  | .lst ds, v, h => by
    unfold Fz at h ⊢
    obtain ⟨a, vs, e, q, l, r⟩ := h
    exact ⟨a, vs, e, hg _ _ q, l, Fzs.mono hr hg ds vs r⟩
  | .scr ds, v, h => by
    unfold Fz at h ⊢
    obtain ⟨a, vs, e, q, l, r⟩ := h
    exact ⟨a, vs, e, hg.sql q, l, Fzs.mono hr hg ds vs r⟩
  | .dct ks ds, v, h => by
    unfold Fz at h ⊢
    obtain ⟨a, vs, e, q, l, r⟩ := h
    exact ⟨a, vs, e, hg _ _ q, l, Fzs.mono hr hg ds vs r⟩
  | .cell i, v, h => by
    unfold Fz at h ⊢
    obtain ⟨a, e, q⟩ := h
    exact ⟨a, e, hr _ _ q⟩
  | .ins C fs ds, v, h => by
    unfold Fz at h ⊢
    obtain ⟨a, dx, vs, e, q, l, r⟩ := h
    exact ⟨a, dx, vs, e, hg _ _ q, l, Fzs.mono hr hg ds vs r⟩
  | .exc, v, h => h
theorem Fzs.mono (hr : Rle ρ ρ') (hg : Hle G G') : ∀ (ds : List D) (vs : List V), Fzs W ρ G ds vs → Fzs W ρ' G' ds vs
  | [], _, h => h
  | d :: ds, vs, h => by
    unfold Fzs at h ⊢
    obtain ⟨v, r, e, q, k⟩ := h
    exact ⟨v, r, e, Fz.mono hr hg d v q, Fzs.mono hr hg ds r k⟩
end
theorem Fzs.length : ∀ {ds : List D} {vs : List V}, Fzs W ρ G ds vs → ds.length = vs.length
  | [], _, h => by unfold Fzs at h; subst h; rfl
  | d :: ds, vs, h => by
    unfold Fzs at h
    obtain ⟨v, r, e, q, k⟩ := h
    subst e
    simp [Fzs.length k]
theorem Fzs.get : ∀ {ds : List D} {vs : List V} {i : Nat} {d : D}, Fzs W ρ G ds vs → ds[i]? = some d → ∃ v, vs[i]? = some v ∧ Fz W ρ G d v
  | [], _, _, _, _, e => by simp at e
  | x :: ds, vs, i, d, h, e => by
    unfold Fzs at h
    obtain ⟨v, r, ev, q, k⟩ := h
    subst ev
    cases i with
    | zero =>
      simp at e; subst e
      exact ⟨v, rfl, q⟩
    | succ i =>
      obtain ⟨u, h1, h2⟩ := Fzs.get (i := i) k (by simpa using e)
      exact ⟨u, by simpa using h1, h2⟩
theorem Fzs.append : ∀ {ds es : List D} {vs ws : List V}, Fzs W ρ G ds vs → Fzs W ρ G es ws → Fzs W ρ G (ds ++ es) (vs ++ ws)
  | [], _, _, _, h, k => by unfold Fzs at h; subst h; exact k
  | x :: ds, es, vs, ws, h, k => by
    unfold Fzs at h
    obtain ⟨v, r, ev, q, t⟩ := h
    subst ev
    show Fzs W ρ G (x :: (ds ++ es)) (v :: (r ++ ws))
    unfold Fzs
    exact ⟨v, _, rfl, q, Fzs.append t k⟩
theorem Fzs.one {d : D} {v : V} (h : Fz W ρ G d v) : Fzs W ρ G [d] [v] := by
  unfold Fzs
  exact ⟨v, [], rfl, h, by unfold Fzs; rfl⟩
theorem Fzs.cons {d : D} {v : V} {ds : List D} {vs : List V} (h : Fz W ρ G d v) (k : Fzs W ρ G ds vs) : Fzs W ρ G (d :: ds) (v :: vs) := by
  unfold Fzs
  exact ⟨v, vs, rfl, h, k⟩
theorem Fzs.nil : Fzs W ρ G [] [] := by unfold Fzs; rfl
theorem Fzs.rep {ds : List D} {vs : List V} (h : Fzs W ρ G ds vs) : ∀ n, Fzs W ρ G (rep ds n) (rep vs n)
  | 0 => .nil
  | n + 1 => h.append (h.rep n)
theorem Fzs.take : ∀ {ds : List D} {vs : List V} (n : Nat), Fzs W ρ G ds vs → Fzs W ρ G (ds.take n) (vs.take n)
  | _, _, 0, _ => by simp only [List.take_zero]; exact .nil
  | [], _, n + 1, h => by unfold Fzs at h; subst h; exact .nil
  | x :: ds, vs, n + 1, h => by
    unfold Fzs at h
    obtain ⟨v, r, ev, q, t⟩ := h
    subst ev
    exact .cons q (t.take n)
theorem Fzs.drop : ∀ {ds : List D} {vs : List V} (n : Nat), Fzs W ρ G ds vs → Fzs W ρ G (ds.drop n) (vs.drop n)
  | _, _, 0, h => h
  | [], _, n + 1, h => by unfold Fzs at h; subst h; exact .nil
  | x :: ds, vs, n + 1, h => by
    unfold Fzs at h
    obtain ⟨v, r, ev, q, t⟩ := h
    subst ev
    exact t.drop n
end

/-! ### what stands at an address that may be written -/
def Co (W : Wd) (ρ : List Addr) (G : Hp) : D → HO → Prop
  | .lst ds, ho => ∃ vs, ho = .lst vs ∧ ds.length < line ∧ Fzs W ρ G ds vs
  | .dct ks ds, ho => ∃ vs, ho = .dK ((ks.map kx).zip vs) ∧ ks.length = vs.length ∧ Fzs W ρ G ds vs
  | .ins C fs ds, ho => ∃ dx vs, ho = .ins (W.ca C) dx ((fs.map W.fn).zip vs) ∧ fs.length = vs.length ∧ Fzs W ρ G ds vs
  | _, _ => False
theorem Co.mono {W : Wd} {ρ ρ' : List Addr} {G G' : Hp} (hr : Rle ρ ρ') (hg : Hle G G') {d : D} {ho : HO} (h : Co W ρ G d ho) : Co W ρ' G' d ho := by
  cases d with
  | lst ds => obtain ⟨vs, e, l, q⟩ := h; exact ⟨vs, e, l, q.mono hr hg⟩
  | dct ks ds => obtain ⟨vs, e, l, q⟩ := h; exact ⟨vs, e, l, q.mono hr hg⟩
  | ins C fs ds => obtain ⟨dx, vs, e, l, q⟩ := h; exact ⟨dx, vs, e, l, q.mono hr hg⟩
  | _ => exact h
/-- once for good, it is a value -/
theorem Co.fz {W : Wd} {ρ : List Addr} {G : Hp} {d : D} {ho : HO} {p : Addr} (h : Co W ρ G d ho) (hp : G p = some ho) : Fz W ρ G d (.ref p) := by
  cases d with
  | lst ds => obtain ⟨vs, e, l, q⟩ := h; subst e; unfold Fz; exact ⟨p, vs, rfl, hp, l, q⟩
  | dct ks ds => obtain ⟨vs, e, l, q⟩ := h; subst e; unfold Fz; exact ⟨p, vs, rfl, hp, l, q⟩
  | ins C fs ds => obtain ⟨dx, vs, e, l, q⟩ := h; subst e; unfold Fz; exact ⟨p, dx, vs, rfl, hp, l, q⟩
  | _ => exact h.elim

/-- the state behind the slots: G stands for good, Fr is not touched, ρ are the shared objects -/
structure MRel (W : Wd) (Fr : Hp) (ρ : List Addr) (G : Hp) (M : Mem) (H : Hp) : Prop where
  gh : Hle G H
  fh : Hle Fr H
  gf : ∀ a o, Fr a = some o → G a = none
  len : M.length = ρ.length
  mem : ∀ (i : Nat) (a : Addr) (d : D), ρ[i]? = some a → M[i]? = some d → ∃ ho, H a = some ho ∧ Co W ρ G d ho ∧ G a = none ∧ Fr a = none
  nd : ∀ (i j : Nat) (a : Addr), ρ[i]? = some a → ρ[j]? = some a → i = j
def Own (σs : List SV) (σ : L2.St) (i : Nat) (p : Addr) : Prop := ∃ d, σs[i]? = some (SV.o d) ∧ σ[i]? = some (some (V.ref p))
/-- something at p that nobody else knows -/
structure New (W : Wd) (Fr : Hp) (ρ : List Addr) (G : Hp) (H : Hp) (d : D) (p : Addr) : Prop where
  at_ : ∃ ho, H p = some ho ∧ Co W ρ G d ho
  g : G p = none
  f : Fr p = none
  r : p ∉ ρ
structure Rel (W : Wd) (Fr : Hp) (ρ : List Addr) (G : Hp) (σs : List SV) (M : Mem) (σ : L2.St) (H : Hp) : Prop extends MRel W Fr ρ G M H where
  sl : σ.length = σs.length
  val : ∀ (i : Nat) (d : D), σs[i]? = some (SV.v d) → ∃ v, σ[i]? = some (some v) ∧ Fz W ρ G d v
  own : ∀ (i : Nat) (d : D), σs[i]? = some (SV.o d) → ∃ p, σ[i]? = some (some (V.ref p)) ∧ New W Fr ρ G H d p
  self : ∀ (i : Nat) (d : D), σs[i]? ≠ some (SV.s d)
  uniq : ∀ i j p, Own σs σ i p → Own σs σ j p → i = j
/-- how an answer stands -/
def Res (W : Wd) (Fr : Hp) (ρ : List Addr) (G : Hp) (σs : List SV) (σ : L2.St) (H : Hp) (r : KD) (v : V) : Prop :=
  match r.k with
  | .f => Fz W ρ G r.d v
  | .n => ∃ p, v = .ref p ∧ New W Fr ρ G H r.d p ∧ ∀ i, ¬ Own σs σ i p
  | .b => ∃ i : Nat, σs[i]? = some (SV.o r.d) ∧ σ[i]? = some (some v)
/-- an operand that is looked at -/
def Bz (W : Wd) (ρ : List Addr) (G : Hp) (σs : List SV) (σ : L2.St) (d : D) (v : V) : Prop := Fz W ρ G d v ∨ ∃ i : Nat, σs[i]? = some (SV.o d) ∧ σ[i]? = some (some v)

section
variable {W : Wd} {Fr : Hp} {ρ ρ' : List Addr} {G G' : Hp} {σs : List SV} {M : Mem} {σ : L2.St} {H : Hp} {d : D} {v : V} {p : Addr}
theorem upd_le {o : HO} (h : H p = none) : Hle H (upd H p o) := fun a u e => by rw [upd_ne (ne_of_none e h)]; exact e
theorem MRel.none_g (r : MRel W Fr ρ G M H) (h : H p = none) : G p = none := by
  cases q : G p with
  | none => rfl
  | some o => rw [r.gh _ _ q] at h; cases h
theorem MRel.none_f (r : MRel W Fr ρ G M H) (h : H p = none) : Fr p = none := by
  cases q : Fr p with
  | none => rfl
  | some o => rw [r.fh _ _ q] at h; cases h
theorem MRel.none_r (r : MRel W Fr ρ G M H) (h : H p = none) : p ∉ ρ := fun q => by
  obtain ⟨i, hi, e⟩ := List.getElem_of_mem q
  have hm : i < M.length := by rw [r.len]; exact hi
  obtain ⟨ho, e1, _⟩ := r.mem i p M[i] (by rw [List.getElem?_eq_getElem hi, e]) (List.getElem?_eq_getElem hm)
  rw [h] at e1; cases e1
/-- what nobody else knows becomes a value -/
theorem MRel.keep (r : MRel W Fr ρ G M H) {ho : HO} (hp : H p = some ho) (g : G p = none) (f : Fr p = none) (hr : p ∉ ρ) : MRel W Fr ρ (upd G p ho) M H where
  gh := fun a o e => by
    by_cases q : a = p
    · subst q; rw [upd_same] at e; cases e; exact hp
    · rw [upd_ne q] at e; exact r.gh _ _ e
  fh := r.fh
  gf := fun a o e => by
    by_cases q : a = p
    · subst q; rw [f] at e; cases e
    · rw [upd_ne q]; exact r.gf a o e
  len := r.len
  mem := fun i a d e1 e2 => by
    obtain ⟨ho', h1, h2, h3, h4⟩ := r.mem i a d e1 e2
    refine ⟨ho', h1, h2.mono (Rle.refl _) (upd_le g), ?_, h4⟩
    have hne : a ≠ p := fun z => hr (z ▸ List.mem_of_getElem? e1)
    rw [upd_ne hne]; exact h3
  nd := r.nd
theorem New.mono (n : New W Fr ρ G H d p) {H' : Hp} (hr : Rle ρ ρ') (hg : Hle G G') (hh : ∀ o, H p = some o → H' p = some o) (g : G' p = none) (rr : p ∉ ρ') : New W Fr ρ' G' H' d p :=
  let ⟨ho, e, c⟩ := n.at_
  ⟨⟨ho, hh _ e, c.mono hr hg⟩, g, n.f, rr⟩
/-- the slots when another one stands for good -/
theorem Rel.keep (r : Rel W Fr ρ G σs M σ H) {ho : HO} (hp : H p = some ho) (g : G p = none) (f : Fr p = none) (hr : p ∉ ρ) (ho' : ∀ i, ¬ Own σs σ i p) : Rel W Fr ρ (upd G p ho) σs M σ H where
  toMRel := r.toMRel.keep hp g f hr
  sl := r.sl
  val := fun i d e => let ⟨v, e1, e2⟩ := r.val i d e; ⟨v, e1, e2.mono (Rle.refl _) (upd_le g)⟩
  own := fun i d e => by
    obtain ⟨q, e1, n⟩ := r.own i d e
    have hne : q ≠ p := fun z => ho' i ⟨d, e, z ▸ e1⟩
    exact ⟨q, e1, n.mono (Rle.refl _) (upd_le g) (fun _ z => z) (by rw [upd_ne hne]; exact n.g) n.r⟩
  self := r.self
  uniq := r.uniq
/-- a new object of no one -/
theorem MRel.push (r : MRel W Fr ρ G M H) {ho : HO} (h : H p = none) : MRel W Fr ρ G M (upd H p ho) where
  gh := r.gh.trans (upd_le h)
  fh := r.fh.trans (upd_le h)
  gf := r.gf
  len := r.len
  mem := fun i a d e1 e2 => by
    obtain ⟨ho', h1, h2, h3, h4⟩ := r.mem i a d e1 e2
    exact ⟨ho', upd_le h _ _ h1, h2, h3, h4⟩
  nd := r.nd
theorem Rel.push (r : Rel W Fr ρ G σs M σ H) {ho : HO} (h : H p = none) : Rel W Fr ρ G σs M σ (upd H p ho) where
  toMRel := r.toMRel.push h
  sl := r.sl
  val := r.val
  own := fun i d e => by
    obtain ⟨q, e1, n⟩ := r.own i d e
    exact ⟨q, e1, n.mono (Rle.refl _) (Hle.refl _) (fun _ z => upd_le h _ _ z) n.g n.r⟩
  self := r.self
  uniq := r.uniq
theorem Rel.noOwn (r : Rel W Fr ρ G σs M σ H) (h : H p = none) : ∀ i, ¬ Own σs σ i p := fun i ⟨d, e1, e2⟩ => by
  obtain ⟨q, e3, n⟩ := r.own i d e1
  rw [e2] at e3; cases e3
  obtain ⟨ho, e, _⟩ := n.at_
  rw [h] at e; cases e
theorem Rel.newAt (r : Rel W Fr ρ G σs M σ H) (h : H p = none) {ho : HO} (c : Co W ρ G d ho) : New W Fr ρ G (upd H p ho) d p :=
  ⟨⟨ho, upd_same, c⟩, r.none_g h, r.none_f h, r.none_r h⟩
end

/-! ### answers -/
abbrev RT (α β : Type) : Type := List Addr → Hp → List SV → L2.St → Hp → α → β → Prop
section
variable (W : Wd) (WW : WX) (Fr : Hp)
/-- behind an expression: what is wanted -/
def Aft {α β : Type} (RR : RT α β) (ρ : List Addr) (G : Hp) (σs : List SV) (σ : L2.St) (R : Rs α) (Q : β → Hp → Prop) : Prop :=
  match R with
  | .ok a M => ∀ (ρ' : List Addr) (G' : Hp) (v : β) (H' : Hp), Rle ρ ρ' → Hle G G' → Rel W Fr ρ' G' σs M σ H' → RR ρ' G' σs σ H' a v → Q v H'
  | .ex C M => ∀ (ρ' : List Addr) (G' : Hp) (H' : Hp), Rle ρ ρ' → Hle G G' → Rel W Fr ρ' G' σs M σ H' → WW (.ref (W.ca C)) none σ H'
  | .stk => False
end
abbrev RRk (W : Wd) (Fr : Hp) : RT KD V := fun ρ G σs σ H r v => Res W Fr ρ G σs σ H r v
abbrev RRf (W : Wd) : RT D V := fun ρ G _ _ _ d v => Fz W ρ G d v
abbrev RRb (W : Wd) : RT D V := fun ρ G σs σ _ d v => Bz W ρ G σs σ d v
abbrev RRl : RT Bool V := fun _ _ _ _ _ b v => v = .bl b
abbrev RRt : RT Bool Bool := fun _ _ _ _ _ b v => v = b
def Bzs (W : Wd) (ρ : List Addr) (G : Hp) (σs : List SV) (σ : L2.St) : List D → List V → Prop
  | [], vs => vs = []
  | d :: ds, vs => ∃ v r, vs = v :: r ∧ Bz W ρ G σs σ d v ∧ Bzs W ρ G σs σ ds r
abbrev RRfs (W : Wd) : RT (List D) (List V) := fun ρ G _ _ _ d v => Fzs W ρ G d v
abbrev RRbs (W : Wd) : RT (List D) (List V) := fun ρ G σs σ _ d v => Bzs W ρ G σs σ d v
/-- the reading of an expression by the machine -/
def LE (W : Wd) (WW : WX) {α β : Type} (RR : Hp → RT α β) (r : List SV → Mem → Rs α) : L2.St → Hp → (β → Hp → Prop) → Prop := fun σ H Q =>
  ∃ (Fr : Hp) (ρ : List Addr) (G : Hp) (σs : List SV) (M : Mem), Rel W Fr ρ G σs M σ H ∧ Aft W WW Fr (RR Fr) ρ G σs σ (r σs M) Q
abbrev LK (W : Wd) (WW : WX) (r : List SV → Mem → Rs KD) : TE := LE W WW (RRk W) r
abbrev LF (W : Wd) (WW : WX) (r : List SV → Mem → Rs D) : TE := LE W WW (fun _ => RRf W) r
abbrev LB (W : Wd) (WW : WX) (r : List SV → Mem → Rs D) : TE := LE W WW (fun _ => RRb W) r
abbrev LL (W : Wd) (WW : WX) (r : List SV → Mem → Rs Bool) : TE := LE W WW (fun _ => RRl) r
abbrev LT (W : Wd) (WW : WX) (r : List SV → Mem → Rs Bool) : TT := LE W WW (fun _ => RRt) r
abbrev LA (W : Wd) (WW : WX) (r : List SV → Mem → Rs (List D)) : TA := LE W WW (fun _ => RRfs W) r
abbrev LAb (W : Wd) (WW : WX) (r : List SV → Mem → Rs (List D)) : TA := LE W WW (fun _ => RRbs W) r

theorem PE.weak {X : Cx} {e : Expr} {t u : TE} (h : PE X e t) (k : ∀ σ H Q, u σ H Q → t σ H Q) : PE X e u := ⟨fun pins s σ H Q I q => h.run pins s σ H Q I (k _ _ _ q)⟩
theorem PT.weak {X : Cx} {e : Expr} {t u : TT} (h : PT X e t) (k : ∀ σ H Q, u σ H Q → t σ H Q) : PT X e u := ⟨fun pins s σ H Q I q => h.run pins s σ H Q I (k _ _ _ q)⟩
theorem PW.weak {X : Cx} {e : Expr} {t u : TT} (h : PW X e t) (k : ∀ σ H Q, u σ H Q → t σ H Q) : PW X e u := ⟨fun wh pins s σ H Q I q => h.run wh pins s σ H Q I (k _ _ _ q)⟩
theorem PA.weak {X : Cx} {e : List Expr} {t u : TA} (h : PA X e t) (k : ∀ σ H Q, u σ H Q → t σ H Q) : PA X e u := ⟨fun pos pins s σ H Q I q => h.run pos pins s σ H Q I (k _ _ _ q)⟩
theorem PSs.weak {X : Cx} {e : List Stmt} {t u : TS} (h : PSs X e t) (k : ∀ D σ H, u D σ H → t D σ H) : PSs X e u := ⟨fun pins s σ H D I q => h.run pins s σ H D I (k _ _ _ q)⟩
theorem PS.weak {X : Cx} {e : Stmt} {t u : TS} (h : PS X e t) (k : ∀ D σ H, u D σ H → t D σ H) : PS X e u := ⟨fun pins s σ H D I q => h.run pins s σ H D I (k _ _ _ q)⟩

section
variable {W : Wd} {WW : WX} {Fr : Hp} {ρ : List Addr} {G : Hp} {σs : List SV} {M : Mem} {σ : L2.St} {H : Hp}
variable {α β γ δ : Type} {RA : RT α β} {RB : RT γ δ} {Q : β → Hp → Prop} {P : δ → Hp → Prop}
/-- in the middle: the first answer is there -/
def Mid (W : Wd) (WW : WX) (Fr : Hp) (RA : RT α β) (RB : RT γ δ) (ρ : List Addr) (G : Hp) (σs : List SV) (σ : L2.St) (f : α → Mem → Rs γ) (P : δ → Hp → Prop) : β → Hp → Prop := fun x H1 =>
  ∃ (ρ1 : List Addr) (G1 : Hp) (M1 : Mem) (a : α), Rle ρ ρ1 ∧ Hle G G1 ∧ Rel W Fr ρ1 G1 σs M1 σ H1 ∧ RA ρ1 G1 σs σ H1 a x ∧ Aft W WW Fr RB ρ1 G1 σs σ (f a M1) P
theorem Aft.weaker {R : Rs α} {Q Q' : β → Hp → Prop} (h : Aft W WW Fr RA ρ G σs σ R Q) (k : ∀ v H', Q v H' → Q' v H') : Aft W WW Fr RA ρ G σs σ R Q' := by
  cases R with
  | ok a M => exact fun ρ' G' v H' h1 h2 h3 h4 => k _ _ (h ρ' G' v H' h1 h2 h3 h4)
  | ex C M => exact h
  | stk => exact h
theorem Aft.from {R : Rs α} {ρ0 : List Addr} {G0 : Hp} (hr : Rle ρ0 ρ) (hg : Hle G0 G) (h : Aft W WW Fr RA ρ0 G0 σs σ R Q) : Aft W WW Fr RA ρ G σs σ R Q := by
  cases R with
  | ok a M => exact fun ρ' G' v H' h1 h2 h3 h4 => h ρ' G' v H' (hr.trans h1) (hg.trans h2) h3 h4
  | ex C M => exact fun ρ' G' H' h1 h2 h3 => h ρ' G' H' (hr.trans h1) (hg.trans h2) h3
  | stk => exact h
theorem Aft.bind {R : Rs α} {f : α → Mem → Rs γ} (h : Aft W WW Fr RB ρ G σs σ (R.bind f) P) : Aft W WW Fr RA ρ G σs σ R (Mid W WW Fr RA RB ρ G σs σ f P) := by
  cases R with
  | ok a M => exact fun ρ' G' v H' h1 h2 h3 h4 => ⟨ρ', G', M, a, h1, h2, h3, h4, Aft.from h1 h2 (show Aft W WW Fr RB ρ G σs σ (f a M) P from h)⟩
  | ex C M => exact h
  | stk => exact h
/-- an answer that is there -/
theorem Aft.here {a : α} {M : Mem} {v : β} (h : Aft W WW Fr RA ρ G σs σ (.ok a M) Q) (r : Rel W Fr ρ G σs M σ H) (k : RA ρ G σs σ H a v) : Q v H := h ρ G v H (Rle.refl _) (Hle.refl _) r k
theorem Rel.fix (h : Rel W Fr ρ G σs M σ H) {r : KD} {v : V} (k : Res W Fr ρ G σs σ H r v) : (r.k = .b ∧ Bz W ρ G σs σ r.d v) ∨ (∃ G', Hle G G' ∧ Rel W Fr ρ G' σs M σ H ∧ Fz W ρ G' r.d v ∧ r.k ≠ .b) := by
  obtain ⟨k', d⟩ := r
  cases k' with
  | f => exact .inr ⟨G, Hle.refl _, h, k, fun z => nomatch z⟩
  | n =>
    obtain ⟨p, rfl, n, no⟩ := k
    obtain ⟨ho, e, c⟩ := n.at_
    exact .inr ⟨upd G p ho, upd_le n.g, h.keep e n.g n.f n.r no, (c.mono (Rle.refl _) (upd_le n.g)).fz upd_same, fun z => nomatch z⟩
  | b => exact .inl ⟨rfl, .inr k⟩
/-- kept -/
theorem Aft.fz {R : Rs KD} {Q : VK} (h : Aft W WW Fr (RRf W) ρ G σs σ R.fz Q) : Aft W WW Fr (RRk W Fr) ρ G σs σ R Q := by
  cases R with
  | ok a M =>
    intro ρ' G' v H' h1 h2 h3 h4
    rcases h3.fix h4 with ⟨e, _⟩ | ⟨G2, g, r, f, ne⟩
    · obtain ⟨k, d⟩ := a
      cases e
      exact h.elim
    · obtain ⟨k, d⟩ := a
      cases k with
      | f => exact h ρ' G2 v H' h1 (h2.trans g) r f
      | n => exact h ρ' G2 v H' h1 (h2.trans g) r f
      | b => exact absurd rfl ne
  | ex C M => exact h
  | stk => exact h
/-- looked at -/
theorem Aft.bw {R : Rs KD} {Q : VK} (h : Aft W WW Fr (RRb W) ρ G σs σ R.bw Q) : Aft W WW Fr (RRk W Fr) ρ G σs σ R Q := by
  cases R with
  | ok a M =>
    intro ρ' G' v H' h1 h2 h3 h4
    rcases h3.fix h4 with ⟨_, b⟩ | ⟨G2, g, r, f, _⟩
    · exact h ρ' G' v H' h1 h2 h3 b
    · exact h ρ' G2 v H' h1 (h2.trans g) r (.inl f)
  | ex C M => exact h
  | stk => exact h
theorem Bz.nob (h : Rel W Fr ρ G σs M σ H) {d : D} {v : V} (k : Bz W ρ G σs σ d v) (hd : ∀ ho, ¬ Co W ρ G d ho) : Fz W ρ G d v := by
  rcases k with k | ⟨i, e1, e2⟩
  · exact k
  · obtain ⟨p, e3, n⟩ := h.own i _ e1
    obtain ⟨ho, e, c⟩ := n.at_
    exact (hd _ c).elim
theorem Aft.bl {R : Rs KD} {Q : VK} (h : Aft W WW Fr RRl ρ G σs σ R.bl Q) : Aft W WW Fr (RRk W Fr) ρ G σs σ R Q := by
  cases R with
  | ok a M =>
    obtain ⟨k, d⟩ := a
    intro ρ' G' v H' h1 h2 h3 h4
    cases d with
    | bl b =>
      have : v = .bl b := by
        rcases h3.fix h4 with ⟨_, b⟩ | ⟨G2, g, r, f, _⟩
        · exact b.nob h3 (fun _ z => z)
        · exact f
      exact h ρ' G' v H' h1 h2 h3 this
    | _ => exact h.elim
  | ex C M => exact h
  | stk => exact h
end
section
variable {X : Cx} {W : Wd} {WW : WX} {e : Expr} {r : List SV → Mem → Rs KD}
theorem pe_fz (h : PE X e (LK W WW r)) : PE X e (LF W WW fun σ M => (r σ M).fz) := PE.weak h fun σ H Q ⟨Fr, ρ, G, σs, M, rl, a⟩ => ⟨Fr, ρ, G, σs, M, rl, a.fz⟩
theorem pe_bw (h : PE X e (LK W WW r)) : PE X e (LB W WW fun σ M => (r σ M).bw) := PE.weak h fun σ H Q ⟨Fr, ρ, G, σs, M, rl, a⟩ => ⟨Fr, ρ, G, σs, M, rl, a.bw⟩
theorem pe_bl (h : PE X e (LK W WW r)) : PE X e (LL W WW fun σ M => (r σ M).bl) := PE.weak h fun σ H Q ⟨Fr, ρ, G, σs, M, rl, a⟩ => ⟨Fr, ρ, G, σs, M, rl, a.bl⟩
end
end VM
/-! VM2: the machine's operators are the model's. -/
namespace VM
open PySem L2 PySem.Spec PyProof.Rows

structure Nm where
  ca : Nat → Addr
  fn : Nat → Str
  fa : Nat → Addr
abbrev wd (X : Cx) (nm : Nm) (xa : Option Addr) : Wd := ⟨X.K, nm.ca, nm.fn, xa⟩

/-- what is seen at a value -/
def Lk (W : Wd) (ρ : List Addr) (G H : Hp) : D → V → Prop
  | .lst ds, v => ∃ a vs, v = .ref a ∧ H a = some (.lst vs) ∧ ds.length < line ∧ Fzs W ρ G ds vs
  | .dct ks ds, v => ∃ a vs, v = .ref a ∧ H a = some (.dK ((ks.map kx).zip vs)) ∧ ks.length = vs.length ∧ Fzs W ρ G ds vs
  | .ins C fs ds, v => ∃ a dx vs, v = .ref a ∧ H a = some (.ins (W.ca C) dx ((fs.map W.fn).zip vs)) ∧ fs.length = vs.length ∧ Fzs W ρ G ds vs
  | .cell _, _ => False
  | d, v => Fz W ρ G d v
section
variable {W : Wd} {WW : WX} {Fr : Hp} {ρ : List Addr} {G : Hp} {σs : List SV} {M : Mem} {σ : L2.St} {H : Hp} {d : D} {v : V} {Q : VK} {p : Addr} {ho : HO}
theorem Co.lk (c : Co W ρ G d ho) (h : H p = some ho) : Lk W ρ G H d (.ref p) := by
  cases d with
  | lst ds => obtain ⟨vs, e, l, q⟩ := c; subst e; exact ⟨p, vs, rfl, h, l, q⟩
  | dct ks ds => obtain ⟨vs, e, l, q⟩ := c; subst e; exact ⟨p, vs, rfl, h, l, q⟩
  | ins C fs ds => obtain ⟨dx, vs, e, l, q⟩ := c; subst e; exact ⟨p, dx, vs, rfl, h, l, q⟩
  | _ => exact c.elim
theorem Rel.look (r : Rel W Fr ρ G σs M σ H) (b : Bz W ρ G σs σ d v) : Lk W ρ G H (deref M d) v := by
  rcases b with b | ⟨i, e1, e2⟩
  · cases d with
    | lst ds => unfold Fz at b; obtain ⟨a, vs, e, q, k⟩ := b; exact ⟨a, vs, e, r.gh _ _ q, k⟩
    | dct ks ds => unfold Fz at b; obtain ⟨a, vs, e, q, k⟩ := b; exact ⟨a, vs, e, r.gh _ _ q, k⟩
    | ins C fs ds => unfold Fz at b; obtain ⟨a, dx, vs, e, q, k⟩ := b; exact ⟨a, dx, vs, e, r.gh _ _ q, k⟩
    | cell i =>
      unfold Fz at b
      obtain ⟨a, e, q⟩ := b
      subst e
      have hi : i < M.length := by rw [r.len]; exact (List.getElem?_eq_some_iff.mp q).1
      obtain ⟨ho, h1, c, _⟩ := r.mem i a M[i] q (List.getElem?_eq_getElem hi)
      have : deref M (.cell i) = M[i] := by simp [deref, List.getD, List.getElem?_eq_getElem hi]
      rw [this]
      exact c.lk h1
    | _ => exact b
  · obtain ⟨p, e3, n⟩ := r.own i _ e1
    rw [e2] at e3
    cases e3
    obtain ⟨ho, e, c⟩ := n.at_
    have : deref M d = d := by
      cases d with
      | cell _ => exact c.elim
      | _ => rfl
    rw [this]
    exact c.lk e
theorem Aft.one (h : Aft W WW Fr (RRk W Fr) ρ G σs σ (ok1 d M) Q) (r : Rel W Fr ρ G σs M σ H) (k : Fz W ρ G d v) : Q v H := h ρ G v H (Rle.refl _) (Hle.refl _) r k
theorem Aft.new (h : Aft W WW Fr (RRk W Fr) ρ G σs σ (okn d M) Q) (r : Rel W Fr ρ G σs M σ H) (hp : H p = none) (c : Co W ρ G d ho) : Q (.ref p) (upd H p ho) :=
  h ρ G (.ref p) (upd H p ho) (Rle.refl _) (Hle.refl _) (r.push hp) ⟨p, rfl, r.newAt hp c, r.noOwn hp⟩
theorem Rel.laid (r : Rel W Fr ρ G σs M σ H) (hp : H p = none) : Rel W Fr ρ (upd G p ho) σs M σ (upd H p ho) :=
  (r.push hp).keep upd_same (r.none_g hp) (r.none_f hp) (r.none_r hp) (r.noOwn hp)
theorem Aft.new1 (h : Aft W WW Fr (RRk W Fr) ρ G σs σ (ok1 d M) Q) (r : Rel W Fr ρ G σs M σ H) (hp : H p = none) (c : Fz W ρ (upd G p ho) d (.ref p)) : Q (.ref p) (upd H p ho) :=
  h ρ _ (.ref p) (upd H p ho) (Rle.refl _) (upd_le (r.none_g hp)) (r.laid hp) c
theorem Aft.stk {α β : Type} {RR : RT α β} {Q : β → Hp → Prop} (h : Aft W WW Fr RR ρ G σs σ .stk Q) : False := h
theorem Fz.int {i : Int} (h : Fz W ρ G (.int i) v) : v = .int i := h
theorem Bz.int {i : Int} (r : Rel W Fr ρ G σs M σ H) (h : Bz W ρ G σs σ (.int i) v) : v = .int i := h.nob r (fun _ z => z)
theorem Bz.str {s : List Nat} (r : Rel W Fr ρ G σs M σ H) (h : Bz W ρ G σs σ (.str s) v) : v = .str (tx s) ∧ OkS s := h.nob r (fun _ z => z)
theorem Bz.bl {b : Bool} (r : Rel W Fr ρ G σs M σ H) (h : Bz W ρ G σs σ (.bl b) v) : v = .bl b := h.nob r (fun _ z => z)
theorem Fz.mkS {s : List Nat} (h : OkS s) : Fz W ρ G (.str s) (.str (tx s)) := by unfold Fz; exact ⟨rfl, h⟩
end
theorem tx_app (a b : List Nat) : tx a ++ tx b = tx (a ++ b) := by
  show Str.append (tx a) (tx b) = _
  simp [tx, Str.append]
theorem tx_len (a : List Nat) : (tx a).length = a.length := by simp [tx, Str.length]
theorem tx_cps (a : List Nat) : (tx a).cps.toList = a := by simp [tx]
theorem OkS.app {a b : List Nat} (h : OkS a) (k : OkS b) (l : a.length + b.length < line) : OkS (a ++ b) := ⟨by rw [List.length_append]; exact l, fun c hc => (List.mem_append.mp hc).elim (h.2 c) (k.2 c)⟩
theorem line_eq : (sizeLine : Nat) = line := by rw [sizeLine_eq]; rfl
theorem rep_len {α : Type} (xs : List α) : ∀ n, (rep xs n).length = xs.length * n
  | 0 => rfl
  | n + 1 => by rw [rep, List.length_append, rep_len xs n, Nat.mul_succ, Nat.add_comm]
theorem rep_flat {α : Type} (xs : List α) : ∀ n, rep xs n = (List.replicate n xs).flatten
  | 0 => rfl
  | n + 1 => by rw [rep, rep_flat xs n, List.replicate_succ, List.flatten_cons]

section
variable {X : Cx} {W : Wd} {WW : WX}
/-- two operands, then the machine's answer -/
def rO (W : Wd) (WW : WX) (f : D → D → Mem → Rs KD) : R2 := fun x y H Q => ∃ (Fr : Hp) (ρ : List Addr) (G : Hp) (σs : List SV) (M : Mem) (σ : L2.St) (d e : D),
  Rel W Fr ρ G σs M σ H ∧ Bz W ρ G σs σ d x ∧ Bz W ρ G σs σ e y ∧ Aft W WW Fr (RRk W Fr) ρ G σs σ (f d e M) Q
def opA : Bop → Operator
  | .add => .Add | .sub => .Sub | .mul => .Mult | .fdiv => .FloorDiv | .mod => .Mod | .pow => .Pow
theorem small_of {i : Int} (h : smallI i = true) : -(2 ^ 64) < i ∧ i < 2 ^ 64 := by
  have := of_decide_eq_true h
  omega
theorem op_addD (hK : W.K = X.K) : OpR X (binaryOp .Add) (rO W WW addop) := by
  intro pins s σ H x y v u Q I rx ry ⟨Fr, ρ, G, σs, M, τ, d, e, r, hx, hy, q⟩
  unfold addop at q
  split at q
  · rename_i i j
    exact op_add pins s σ H x y v u Q I rx ry ⟨i, j, hx.int r, hy.int r, q.one r rfl⟩
  · rename_i a b
    obtain ⟨e1, o1⟩ := hx.str r
    obtain ⟨e2, o2⟩ := hy.str r
    split at q
    · rename_i hl
      refine op_add_str pins s σ H x y v u Q I rx ry ⟨_, _, e1, e2, ?_, ?_⟩
      · rw [tx_len, tx_len, line_eq]; exact Nat.le_of_lt hl
      · rw [tx_app]; exact q.one r (.mkS (o1.app o2 hl))
    · exact q.elim
  · have l1 := r.look hx
    have l2 := r.look hy
    split at q
    · rename_i xs ys e1 e2
      rw [e1] at l1
      rw [e2] at l2
      obtain ⟨a, vs, ea, ha, la, fa⟩ := l1
      obtain ⟨b, ws, eb, hb, lb, fb⟩ := l2
      split at q
      · rename_i hl
        refine op_cat pins s σ H x y v u Q I rx ry ⟨a, b, vs, ws, ea, eb, ha, hb, ?_, fun p hp => q.new r hp ⟨_, rfl, by rw [List.length_append]; exact hl, fa.append fb⟩⟩
        rw [line_eq, ← fa.length, ← fb.length]; exact Nat.le_of_lt hl
      · exact q.elim
    · rename_i xs ys e1 e2
      rw [e1] at l1
      rw [e2] at l2
      have l1 : Fz W ρ G (.tup xs) x := l1
      have l2 : Fz W ρ G (.tup ys) y := l2
      unfold Fz at l1 l2
      obtain ⟨a, vs, ea, ha, la, fa⟩ := l1
      obtain ⟨b, ws, eb, hb, lb, fb⟩ := l2
      split at q
      · rename_i hl
        obtain ⟨hl, n1, n2⟩ := hl
        have ha' : SqT X.K H a vs := hK ▸ r.gh.sqt ha
        have hb' : SqT X.K H b ws := hK ▸ r.gh.sqt hb
        refine op_catT pins s σ H x y v u Q I rx ry ?_
        have z1 : vs ≠ [] := fun z => by
          have : xs = [] := List.eq_nil_of_length_eq_zero (by rw [fa.length, z]; rfl)
          subst this; cases n1
        have z2 : ws ≠ [] := fun z => by
          have : ys = [] := List.eq_nil_of_length_eq_zero (by rw [fb.length, z]; rfl)
          subst this; cases n2
        refine ⟨a, b, vs, ws, ea, eb, ha', hb', z1, ?_, fun z => absurd z z2, fun _ p hp => ?_⟩
        · rw [line_eq, ← fa.length, ← fb.length]; exact Nat.le_of_lt hl
        · refine q.new1 r hp ?_
          unfold Fz
          exact ⟨p, _, rfl, .of upd_same, by rw [List.length_append]; exact hl, (fa.append fb).mono (Rle.refl _) (upd_le (r.none_g hp))⟩
      · exact q.elim
    · exact q.elim
theorem op_mulD : OpR X (binaryOp .Mult) (rO W WW mulop) := by
  intro pins s σ H x y v u Q I rx ry ⟨Fr, ρ, G, σs, M, τ, d, e, r, hx, hy, q⟩
  unfold mulop at q
  split at q
  · rename_i i j
    split at q
    · rename_i hm
      have fin : ∀ {r' : R2}, OpR X (binaryOp .Mult) r' → r' x y H Q → wpAny (model X.prog X.w) X.A (binaryOp .Mult v u) (EP X pins σ Q) X.xe s := fun o z => o pins s σ H x y v u Q I rx ry z
      have q' := q.one r (v := .int (i * j)) rfl
      unfold mulOk at hm
      rcases Bool.or_eq_true_iff.mp hm with hm | hm
      · rcases Bool.or_eq_true_iff.mp hm with hm | hm
        · exact fin op_mul ⟨i, j, hx.int r, hy.int r, .inl (small_of hm), q'⟩
        · exact fin op_mul ⟨i, j, hx.int r, hy.int r, .inr (small_of hm), q'⟩
      · have hw : i.natAbs.log2 + j.natAbs.log2 < 1000000 := of_decide_eq_true hm
        exact fin op_mulW ⟨i, j, hx.int r, hy.int r, hw, q'⟩
    · exact q.elim
  · rename_i j _
    have l1 := r.look hx
    split at q
    · rename_i xs e1
      rw [e1] at l1
      obtain ⟨a, vs, ea, ha, la, fa⟩ := l1
      split at q
      · rename_i hl
        refine op_rep pins s σ H x y v u Q I rx ry ⟨a, j, vs, ea, hy.int r, ha, by omega, by omega, ?_, fun p hp => q.new r hp ⟨_, rfl, by rw [rep_len]; exact hl.2, ?_⟩⟩
        · rw [line_eq, ← fa.length]; exact Nat.le_of_lt hl.2
        · rw [← rep_flat]; exact fa.rep _
      · exact q.elim
    · exact q.elim
  · exact q.elim
theorem op_intD {op : Operator} {f : Int → Int → Mem → Rs KD} {r0 : R2} (h : OpR X (binaryOp op) r0)
    (k : ∀ (i j : Int) (H : Hp) (Fr : Hp) (ρ : List Addr) (G : Hp) (σs : List SV) (M : Mem) (σ : L2.St) (Q : VK), Rel W Fr ρ G σs M σ H → Aft W WW Fr (RRk W Fr) ρ G σs σ (f i j M) Q → r0 (.int i) (.int j) H Q) :
    OpR X (binaryOp op) (rO W WW fun x y M => intop (fun i j => f i j M) x y) := by
  intro pins s σ H x y v u Q I rx ry ⟨Fr, ρ, G, σs, M, τ, d, e, r, hx, hy, q⟩
  dsimp only [intop] at q
  split at q
  · rename_i i j
    have e1 := hx.int r
    have e2 := hy.int r
    subst e1 e2
    exact h pins s σ H _ _ v u Q I rx ry (k i j H Fr ρ G σs M τ Q r q)
  · exact q.elim
theorem op_bin (hK : W.K = X.K) : ∀ o : Bop, OpR X (binaryOp (opA o)) (rO W WW (binop o))
  | .add => op_addD hK
  | .mul => op_mulD
  | .sub => op_intD op_sub fun i j H Fr ρ G σs M σ Q r q => ⟨i, j, rfl, rfl, q.one r rfl⟩
  | .mod => op_intD op_mod fun i j H Fr ρ G σs M σ Q r q => by
    split at q
    · rename_i h; exact ⟨i, j, rfl, rfl, h, q.one r rfl⟩
    · exact q.elim
  | .fdiv => op_intD op_fdivW fun i j H Fr ρ G σs M σ Q r q => by
    split at q
    · rename_i h; exact ⟨i, j, rfl, rfl, h, q.one r rfl⟩
    · exact q.elim
  | .pow => op_intD op_pow fun i j H Fr ρ G σs M σ Q r q => by
    split at q
    · rename_i h; exact ⟨i, j, rfl, rfl, ⟨h.1, h.2.1, by omega⟩, q.one r rfl⟩
    · exact q.elim

end
/-! ### == -/
mutual
def pd : D → PyData
  | .non => .none
  | .bl b => .bool b
  | .int i => .int i
  | .str s => .str (tx s)
  | .lst ds => .list (pds ds)
  | .tup ds => .tuple (pds ds)
  | _ => .none
def pds : List D → List PyData
  | [] => []
  | d :: ds => pd d :: pds ds
end
theorem tx_beq (a b : List Nat) : (tx a == tx b) = (a == b) := by
  rw [Bool.eq_iff_iff]
  simp [tx]
theorem dp_scr {n : Nat} {ds : List D} (h : D.dp n (.scr ds) = true) : False := by cases n <;> simp [D.dp] at h
theorem dp_dct {n : Nat} {ks : List Key} {ds : List D} (h : D.dp n (.dct ks ds) = true) : False := by cases n <;> simp [D.dp] at h
theorem dp_cell {n i : Nat} (h : D.dp n (.cell i) = true) : False := by cases n <;> simp [D.dp] at h
theorem dp_ins {n : Nat} {C : Nat} {fs : List Nat} {ds : List D} (h : D.dp n (.ins C fs ds) = true) : False := by cases n <;> simp [D.dp] at h
theorem dp_exc {n : Nat} (h : D.dp n .exc = true) : False := by cases n <;> simp [D.dp] at h
theorem dp_lst {n : Nat} {ds : List D} (h : D.dp n (.lst ds) = true) : ∃ m, n = m + 1 ∧ dps m ds = true := by
  cases n with
  | zero => simp [D.dp] at h
  | succ m => exact ⟨m, rfl, by simpa [D.dp] using h⟩
theorem dp_tup {n : Nat} {ds : List D} (h : D.dp n (.tup ds) = true) : ∃ m, n = m + 1 ∧ dps m ds = true := by
  cases n with
  | zero => simp [D.dp] at h
  | succ m => exact ⟨m, rfl, by simpa [D.dp] using h⟩
mutual
theorem eq_pd : ∀ (x : D) (n m : Nat) (y : D), x.dp n = true → y.dp m = true → PyData.eqv (pd x) (pd y) = x.eq y
  | .scr _, n, _, _, h, _ => (dp_scr h).elim
  | .dct _ _, n, _, _, h, _ => (dp_dct h).elim
  | .cell _, n, _, _, h, _ => (dp_cell h).elim
  | .ins _ _ _, n, _, _, h, _ => (dp_ins h).elim
  | .exc, n, _, _, h, _ => (dp_exc h).elim
  | .non, n, m, y, _, hy => by cases y <;> simp only [pd, PyData.eqv, D.eq] <;> first | (exact (dp_scr hy).elim) | (exact (dp_dct hy).elim) | (exact (dp_cell hy).elim) | (exact (dp_ins hy).elim) | exact (dp_exc hy).elim
  | .bl _, n, m, y, _, hy => by cases y <;> simp only [pd, PyData.eqv, D.eq]
  | .int _, n, m, y, _, hy => by cases y <;> simp only [pd, PyData.eqv, D.eq]
  | .str _, n, m, y, _, hy => by
    cases y <;> simp only [pd, PyData.eqv, D.eq]
    exact tx_beq _ _
  | .lst xs, n, m, y, hx, hy => by
    obtain ⟨a, rfl, ha⟩ := dp_lst hx
    cases y <;> simp only [pd, PyData.eqv, D.eq]
    obtain ⟨b, rfl, hb⟩ := dp_lst hy
    exact eqs_pd _ _ _ _ ha hb
  | .tup xs, n, m, y, hx, hy => by
    obtain ⟨a, rfl, ha⟩ := dp_tup hx
    cases y <;> simp only [pd, PyData.eqv, D.eq]
    obtain ⟨b, rfl, hb⟩ := dp_tup hy
    exact eqs_pd _ _ _ _ ha hb
theorem eqs_pd : ∀ (xs : List D) (n m : Nat) (ys : List D), dps n xs = true → dps m ys = true → PyData.eqvAll (pds xs) (pds ys) = eqs xs ys
  | [], n, m, [], _, _ => by simp only [pds, PyData.eqvAll, eqs]
  | [], n, m, y :: ys, _, _ => by simp only [pds, PyData.eqvAll, eqs]
  | x :: xs, n, m, [], _, _ => by simp only [pds, PyData.eqvAll, eqs]
  | x :: xs, n, m, y :: ys, hx, hy => by
    simp only [dps, Bool.and_eq_true] at hx hy
    simp only [pds, PyData.eqvAll, eqs]
    rw [eq_pd x n m y hx.1 hy.1, eqs_pd xs n m ys hx.2 hy.2]
end
section
variable {W : Wd} {ρ : List Addr} {G H : Hp}
mutual
theorem Fz.dp (hg : Hle G H) : ∀ (n : Nat) (d : D) (v : V), d.dp n = true → Fz W ρ G d v → Dp W.K H v (pd d) ∧ (pd d).canLay0 = true ∧ (pd d).depth ≤ n + 1
  | n, .non, v, _, h => by unfold Fz at h; subst h; exact ⟨.non, by simp [pd, PyData.canLay0], by simp [pd, PyData.depth]⟩
  | n, .bl b, v, _, h => by unfold Fz at h; subst h; exact ⟨.bl b, by simp [pd, PyData.canLay0], by simp [pd, PyData.depth]⟩
  | n, .int b, v, _, h => by unfold Fz at h; subst h; exact ⟨.int b, by simp [pd, PyData.canLay0], by simp [pd, PyData.depth]⟩
  | n, .str s, v, _, h => by
    unfold Fz at h
    obtain ⟨h, o⟩ := h
    subst h
    refine ⟨.str _, ?_, by simp [pd, PyData.depth]⟩
    simp only [pd, PyData.canLay0, PyData.strOk, tx]
    simpa using o.2
  | n + 1, .lst ds, v, hd, h => by
    unfold Fz at h
    obtain ⟨a, vs, e, q, _, k⟩ := h
    subst e
    obtain ⟨h1, h2, h3⟩ := Fzs.dp hg n ds vs (by simpa [D.dp] using hd) k
    exact ⟨.lst (.of (hg _ _ q)) h1, by simpa [pd, PyData.canLay0] using h2, by simp only [pd, PyData.depth]; omega⟩
  | n + 1, .tup ds, v, hd, h => by
    unfold Fz at h
    obtain ⟨a, vs, e, q, _, k⟩ := h
    subst e
    obtain ⟨h1, h2, h3⟩ := Fzs.dp hg n ds vs (by simpa [D.dp] using hd) k
    exact ⟨.tup (hg.sqt q) h1, by simpa [pd, PyData.canLay0] using h2, by simp only [pd, PyData.depth]; omega⟩
  | 0, .lst ds, v, hd, h => by simp [D.dp] at hd
  | 0, .tup ds, v, hd, h => by simp [D.dp] at hd
  | n, .scr ds, v, hd, h => by cases n <;> simp [D.dp] at hd
  | n, .dct ks ds, v, hd, h => by cases n <;> simp [D.dp] at hd
  | n, .cell i, v, hd, h => by cases n <;> simp [D.dp] at hd
  | n, .ins C fs ds, v, hd, h => by cases n <;> simp [D.dp] at hd
  | n, .exc, v, hd, h => by cases n <;> simp [D.dp] at hd
theorem Fzs.dp (hg : Hle G H) : ∀ (n : Nat) (ds : List D) (vs : List V), dps n ds = true → Fzs W ρ G ds vs → DpAll W.K H vs (pds ds) ∧ PyData.canLayAll0 (pds ds) = true ∧ PyData.depthAll (pds ds) ≤ n + 1
  | n, [], vs, _, h => by unfold Fzs at h; subst h; exact ⟨.nil, by simp [pds, PyData.canLayAll0], by simp [pds, PyData.depthAll]⟩
  | n, d :: ds, vs, hd, h => by
    unfold Fzs at h
    obtain ⟨v, r, e, q, k⟩ := h
    subst e
    simp only [dps, Bool.and_eq_true] at hd
    obtain ⟨h1, h2, h3⟩ := Fz.dp hg n d v hd.1 q
    obtain ⟨h4, h5, h6⟩ := Fzs.dp hg n ds r hd.2 k
    exact ⟨.cons h1 h4, by simp [pds, PyData.canLayAll0, h2, h5], by simp only [pds, PyData.depthAll]; omega⟩
end
theorem Lk.dp {d : D} {v : V} (hg : Hle G H) (h : Lk W ρ G H d v) (hd : d.dp 60 = true) : Dp W.K H v (pd d) ∧ SeqAt.shaped (pd d) = true := by
  have key : Dp W.K H v (pd d) ∧ (pd d).canLay0 = true ∧ (pd d).depth ≤ 61 := by
    cases d with
    | lst ds =>
      obtain ⟨a, vs, e, q, _, k⟩ := h
      subst e
      obtain ⟨h1, h2, h3⟩ := Fzs.dp hg 59 ds vs (by simpa [D.dp] using hd) k
      exact ⟨.lst (.of q) h1, by simpa [pd, PyData.canLay0] using h2, by simp only [pd, PyData.depth]; omega⟩
    | cell i => exact h.elim
    | dct ks ds => simp [D.dp] at hd
    | ins C fs ds => simp [D.dp] at hd
    | _ => exact Fz.dp (ρ := ρ) (G := G) hg 60 _ v hd h
  refine ⟨key.1, ?_⟩
  simp only [SeqAt.shaped, Bool.and_eq_true, decide_eq_true_eq]
  exact ⟨key.2.1, by omega⟩
end

/-! ### comparisons -/
def cpA : Cop → CmpOp
  | .eq => .Eq | .ne => .NotEq | .lt => .Lt | .le => .LtE | .gt => .Gt | .ge => .GtE | .is => .Is | .isn => .IsNot | .isin => .In | .notin => .NotIn
theorem Aft.okB {W : Wd} {WW : WX} {Fr : Hp} {ρ : List Addr} {G : Hp} {σs : List SV} {M : Mem} {σ : L2.St} {H : Hp} {Q : VK} {o : Option Bool} (h : Aft W WW Fr (RRk W Fr) ρ G σs σ (okB o M) Q) (r : Rel W Fr ρ G σs M σ H) : ∃ b, o = some b ∧ Q (.bl b) H := by
  cases o with
  | none => exact h.elim
  | some b => exact ⟨b, rfl, h.one r rfl⟩
theorem Lk.flat {W : Wd} {ρ : List Addr} {G H : Hp} {d : D} {v : V} (h : Fz W ρ G d v) (f : d.flat = true) : flatV v = true := by
  cases d with
  | non => rw [show v = .non from h]; rfl
  | bl b => rw [show v = .bl b from h]; rfl
  | int b => rw [show v = .int b from h]; rfl
  | str b => rw [(show v = .str (tx b) ∧ OkS b from h).1]; rfl
  | _ => cases f
theorem flat_of {d : D} (f : d.flat = true) : (∃ W : V, ∀ (w : Wd) (ρ : List Addr) (G : Hp) (v : V), Fz w ρ G d v → v = W) := by
  cases d with
  | non => exact ⟨.non, fun _ _ _ _ h => h⟩
  | bl b => exact ⟨.bl b, fun _ _ _ _ h => h⟩
  | int b => exact ⟨.int b, fun _ _ _ _ h => h⟩
  | str b => exact ⟨.str (tx b), fun w ρ G v h => (show v = .str (tx b) ∧ OkS b from h).1⟩
  | _ => cases f
theorem eqV_eq {W : Wd} {ρ : List Addr} {G : Hp} {d e : D} {v u : V} (h : Fz W ρ G d v) (k : Fz W ρ G e u) (f : d.flat = true) (g : e.flat = true) : eqV v u = d.eq e := by
  cases d with
  | non =>
    rw [show v = .non from h]
    cases e with
    | non => rw [show u = .non from k]; simp only [eqV, D.eq]
    | bl b => rw [show u = .bl b from k]; simp only [eqV, D.eq]
    | int b => rw [show u = .int b from k]; simp only [eqV, D.eq]
    | str b => rw [(show u = .str (tx b) ∧ OkS b from k).1]; simp only [eqV, D.eq]
    | _ => cases g
  | bl a =>
    rw [show v = .bl a from h]
    cases e with
    | non => rw [show u = .non from k]; simp only [eqV, D.eq]
    | bl b => rw [show u = .bl b from k]; simp only [eqV, D.eq]
    | int b => rw [show u = .int b from k]; simp only [eqV, D.eq]
    | str b => rw [(show u = .str (tx b) ∧ OkS b from k).1]; simp only [eqV, D.eq]
    | _ => cases g
  | int a =>
    rw [show v = .int a from h]
    cases e with
    | non => rw [show u = .non from k]; simp only [eqV, D.eq]
    | bl b => rw [show u = .bl b from k]; simp only [eqV, D.eq]
    | int b => rw [show u = .int b from k]; simp only [eqV, D.eq]
    | str b => rw [(show u = .str (tx b) ∧ OkS b from k).1]; simp only [eqV, D.eq]
    | _ => cases g
  | str a =>
    rw [(show v = .str (tx a) ∧ OkS a from h).1]
    cases e with
    | non => rw [show u = .non from k]; simp only [eqV, D.eq]
    | bl b => rw [show u = .bl b from k]; simp only [eqV, D.eq]
    | int b => rw [show u = .int b from k]; simp only [eqV, D.eq]
    | str b => rw [(show u = .str (tx b) ∧ OkS b from k).1]; simp only [eqV, D.eq]; exact tx_beq _ _
    | _ => cases g
  | _ => cases f
theorem Fzs.flat {W : Wd} {ρ : List Addr} {G : Hp} : ∀ {ds : List D} {vs : List V}, Fzs W ρ G ds vs → ds.all D.flat = true → vs.all flatV = true
  | [], _, h, _ => by unfold Fzs at h; subst h; rfl
  | d :: ds, _, h, f => by
    unfold Fzs at h
    obtain ⟨v, r, e, q, k⟩ := h
    subst e
    simp only [List.all_cons, Bool.and_eq_true] at f ⊢
    exact ⟨Lk.flat (H := G) q f.1, k.flat f.2⟩
theorem inV_eq {W : Wd} {ρ : List Addr} {G : Hp} {x : D} {xv : V} (hx : Fz W ρ G x xv) (fx : x.flat = true) : ∀ {ds : List D} {vs : List V}, Fzs W ρ G ds vs → ds.all D.flat = true → inV xv vs = inL x ds
  | [], _, h, _ => by unfold Fzs at h; subst h; rfl
  | d :: ds, _, h, f => by
    unfold Fzs at h
    obtain ⟨v, r, e, q, k⟩ := h
    subst e
    simp only [List.all_cons, Bool.and_eq_true] at f
    have ih := inV_eq hx fx k f.2
    unfold inV at ih ⊢
    rw [List.any_cons, ih, inL, eqV_eq q hx f.1 fx]
theorem kx_inj {j k : Key} (z : kx j = kx k) : j = k := by
  cases j with
  | i a => cases k with
    | i b => injection z with z; subst z; rfl
    | s b => exact nomatch z
  | s a => cases k with
    | i b => exact nomatch z
    | s b =>
      have z : tx a = tx b := Sum.inr.inj z
      have := congrArg (fun s : Str => s.cps.toList) z
      rw [tx_cps, tx_cps] at this
      subst this; rfl
theorem valV_keys {k : Key} : ∀ {ks : List Key} {vs : List V}, ks.length = vs.length → (valV ((ks.map kx).zip vs) (kx k)).isSome = decide (k ∈ ks)
  | [], vs, h => by simp [valV]
  | j :: ks, [], h => by simp at h
  | j :: ks, v :: vs, h => by
    have ih := valV_keys (k := k) (ks := ks) (vs := vs) (by simpa using h)
    show (valV ((kx j, v) :: ((ks.map kx).zip vs)) (kx k)).isSome = _
    by_cases e : j = k
    · subst e
      rw [valV_pos rfl]; simp
    · rw [valV_neg (fun z => e (kx_inj z)), ih]
      have : (k = j) = False := by simp; exact fun z => e z.symm
      simp [this]
section
variable {X : Cx} {W : Wd} {WW : WX}
theorem op_isinD (hK : W.K = X.K) (hu : X.A.units + 64 < cLine) (neg : Bool) : OpR X (compareOp (if neg then .NotIn else .In)) (rO W WW fun x y M => okB ((isin x y M).map fun b => if neg then !b else b) M) := by
  intro pins s σ H x y v u Q I rx ry ⟨Fr, ρ, G, σs, M, τ, d, e, r, hx, hy, q⟩
  obtain ⟨b0, hb0, q⟩ := q.okB r
  obtain ⟨b, hb, eb⟩ := Option.map_eq_some_iff.mp hb0
  clear hb0
  subst eb
  have fin : ∀ {r1 r2 : R2}, OpR X (compareOp .In) r1 → OpR X (compareOp .NotIn) r2 → (neg = false → r1 x y H Q) → (neg = true → r2 x y H Q) → wpAny (model X.prog X.w) X.A (compareOp (if neg then .NotIn else .In) v u) (EP X pins σ Q) X.xe s := fun o1 o2 z1 z2 => by
    cases neg with
    | false => exact o1 pins s σ H x y v u Q I rx ry (z1 rfl)
    | true => exact o2 pins s σ H x y v u Q I rx ry (z2 rfl)
  unfold isin at hb
  split at hb
  · rename_i t
    obtain ⟨ey, oy⟩ := hy.str r
    split at hb
    · rename_i c
      obtain ⟨ex, ox⟩ := hx.str r
      simp only [Option.some.injEq] at hb
      subst hb
      refine fin op_in_sign op_notIn_sign (fun z => ⟨c, tx t, ex, ey, ?_⟩) (fun z => ⟨c, tx t, ex, ey, ?_⟩)
      · subst z; rw [tx_cps]; exact q
      · subst z; rw [tx_cps]; exact q
    · cases hb
  · have l := r.look hy
    have seq : ∀ {ds : List D} {vs : List V} {a : Addr}, y = .ref a → (SqL X.K H a vs ∨ SqT X.K H a vs) → Fzs W ρ G ds vs → (if (d.flat && ds.all D.flat) = true then some (inL d ds) else none) = some b → wpAny (model X.prog X.w) X.A (compareOp (if neg then .NotIn else .In) v u) (EP X pins σ Q) X.xe s := fun {ds vs a} ea ha fa hb => by
      split at hb
      · rename_i hf
        simp only [Bool.and_eq_true] at hf
        simp only [Option.some.injEq] at hb
        have fx : Fz W ρ G d x := hx.nob r (fun ho c => by cases d <;> first | exact c | (exact absurd hf.1 (by simp [D.flat])))
        have ei := inV_eq fx hf.1 fa hf.2
        refine fin op_in_seq op_notIn_seq (fun z => ⟨a, vs, ea, ha, Lk.flat (H := H) fx hf.1, fa.flat hf.2, ?_⟩) (fun z => ⟨a, vs, ea, ha, Lk.flat (H := H) fx hf.1, fa.flat hf.2, ?_⟩)
        · rw [ei, hb]; subst z; exact q
        · rw [ei, hb]; subst z; exact q
      · cases hb
    split at hb
    · rename_i ys e1
      rw [e1] at l
      obtain ⟨a, vs, ea, ha, la, fa⟩ := l
      exact seq ea (.inl (.of ha)) fa hb
    · rename_i ys e1
      rw [e1] at l
      have l : Fz W ρ G (.tup ys) y := l
      unfold Fz at l
      obtain ⟨a, vs, ea, ha, la, fa⟩ := l
      exact seq ea (.inr (hK ▸ r.gh.sqt ha)) fa hb
    · rename_i ks vs' e1
      rw [e1] at l
      obtain ⟨a, vs, ea, ha, hl, fa⟩ := l
      subst ea
      cases ry
      have dd : ∀ k : Key, x = kV (kx k) → b = decide (k ∈ ks) → wpAny (model X.prog X.w) X.A (compareOp (if neg then .NotIn else .In) v (.ref a)) (EP X pins σ Q) X.xe s := fun k ek eb => by
        have g : DGet H a x (valV ((ks.map kx).zip vs) (kx k)) := by rw [ek]; exact .k ha
        have es := valV_keys (k := k) hl
        rw [← eb] at es
        cases neg with
        | false => exact d_in (by omega) I g rx fun s3 I3 => ⟨.bl _, H, I3, rfl, by rw [es]; exact q⟩
        | true => exact d_notIn (by omega) I g rx fun s3 I3 => ⟨.bl _, H, I3, rfl, by rw [es]; exact q⟩
      split at hb
      · rename_i i
        simp only [Option.some.injEq] at hb
        exact dd (.i i) (hx.int r) hb.symm
      · rename_i t
        simp only [Option.some.injEq] at hb
        exact dd (.s t) (hx.str r).1 hb.symm
      · cases hb
    · cases hb
theorem op_cmpI {op : CmpOp} {f : Int → Int → Bool} (h : OpR X (compareOp op) (rI0 fun i j => .bl (f i j))) : OpR X (compareOp op) (rO W WW fun x y M => okB (cmpI f x y) M) := by
  intro pins s σ H x y v u Q I rx ry ⟨Fr, ρ, G, σs, M, τ, d, e, r, hx, hy, q⟩
  obtain ⟨b, hb, q⟩ := q.okB r
  unfold cmpI at hb
  split at hb
  · rename_i i j
    simp only [Option.some.injEq] at hb
    subst hb
    exact h pins s σ H x y v u Q I rx ry ⟨i, j, hx.int r, hy.int r, q⟩
  · cases hb
theorem isN_eq {W : Wd} {Fr : Hp} {ρ : List Addr} {G H : Hp} {σs : List SV} {M : Mem} {σ : L2.St} {d : D} {v : V} (r : Rel W Fr ρ G σs M σ H) (h : Bz W ρ G σs σ d v) : isN d = decide (v = .non) := by
  cases d with
  | non => rw [show v = .non from h.nob r (fun _ z => z)]; rfl
  | bl b => rw [h.bl r]; rfl
  | int b => rw [h.int r]; rfl
  | str b => rw [(h.str r).1]; rfl
  | _ =>
    have : ∃ a, v = .ref a := by
      rcases h with h | ⟨i, e1, e2⟩
      · unfold Fz at h
        first
          | (obtain ⟨a, vs, e, _⟩ := h; exact ⟨a, e⟩)
          | (obtain ⟨a, dx, vs, e, _⟩ := h; exact ⟨a, e⟩)
          | (obtain ⟨a, e, _⟩ := h; exact ⟨a, e⟩)
          | (obtain ⟨a, _, e⟩ := h; exact ⟨a, e⟩)
      · obtain ⟨p, e3, n⟩ := r.own i _ e1
        rw [e2] at e3; cases e3; exact ⟨p, rfl⟩
    obtain ⟨a, rfl⟩ := this
    rfl
theorem op_cmpD (hK : W.K = X.K) (hu : X.A.units + 64 < cLine) : ∀ o : Cop, OpR X (compareOp (cpA o)) (rO W WW fun x y M => okB (cmpop o x y M) M)
  | .lt => op_cmpI op_lt
  | .le => op_cmpI op_le
  | .gt => op_cmpI op_gt
  | .ge => op_cmpI op_ge
  | .isin => by
    have h := op_isinD (WW := WW) hK hu false
    have e : (fun (x y : D) (M : Mem) => okB (cmpop .isin x y M) M) = fun x y M => okB ((isin x y M).map fun b => if false then !b else b) M := by
      funext x y M
      simp [cmpop]
    rw [e]; exact h
  | .notin => by
    have h := op_isinD (WW := WW) hK hu true
    have e : (fun (x y : D) (M : Mem) => okB (cmpop .notin x y M) M) = fun x y M => okB ((isin x y M).map fun b => if true then !b else b) M := by
      funext x y M
      simp [cmpop]
    rw [e]; exact h
  | .is => by
    intro pins s σ H x y v u Q I rx ry ⟨Fr, ρ, G, σs, M, τ, d, e, r, hx, hy, q⟩
    obtain ⟨b, hb, q⟩ := q.okB r
    simp only [cmpop] at hb
    unfold isop at hb
    split at hb
    · simp only [Option.some.injEq] at hb
      subst hb
      rw [isN_eq r hx] at q
      exact op_isN pins s σ H x y v u Q I rx ry ⟨hy.nob r (fun _ z => z), q⟩
    · cases hb
  | .isn => by
    intro pins s σ H x y v u Q I rx ry ⟨Fr, ρ, G, σs, M, τ, d, e, r, hx, hy, q⟩
    obtain ⟨b, hb, q⟩ := q.okB r
    simp only [cmpop] at hb
    unfold isop at hb
    split at hb
    · simp only [Option.map_some, Option.some.injEq] at hb
      subst hb
      rw [isN_eq r hx] at q
      exact op_notN pins s σ H x y v u Q I rx ry ⟨hy.nob r (fun _ z => z), q⟩
    · cases hb
  | .eq => by
    intro pins s σ H x y v u Q I rx ry ⟨Fr, ρ, G, σs, M, τ, d, e, r, hx, hy, q⟩
    obtain ⟨b, hb, q⟩ := q.okB r
    simp only [cmpop] at hb
    unfold eqop at hb
    split at hb
    · rename_i hd
      simp only [Bool.and_eq_true] at hd
      simp only [Option.some.injEq] at hb
      obtain ⟨h1, h2⟩ := (r.look hx).dp r.gh hd.1
      obtain ⟨h3, h4⟩ := (r.look hy).dp r.gh hd.2
      refine op_eqD hu pins s σ H x y v u Q I rx ry ⟨_, _, hK ▸ h1, hK ▸ h3, h2, h4, ?_⟩
      rw [eq_pd _ 60 60 _ hd.1 hd.2, hb]; exact q
    · cases hb
  | .ne => by
    intro pins s σ H x y v u Q I rx ry ⟨Fr, ρ, G, σs, M, τ, d, e, r, hx, hy, q⟩
    obtain ⟨b, hb, q⟩ := q.okB r
    simp only [cmpop] at hb
    unfold eqop at hb
    split at hb
    · rename_i hd
      simp only [Bool.and_eq_true] at hd
      simp only [Option.map_some, Option.some.injEq] at hb
      obtain ⟨h1, h2⟩ := (r.look hx).dp r.gh hd.1
      obtain ⟨h3, h4⟩ := (r.look hy).dp r.gh hd.2
      refine op_neD hu pins s σ H x y v u Q I rx ry ⟨_, _, hK ▸ h1, hK ▸ h3, h2, h4, ?_⟩
      rw [eq_pd _ 60 60 _ hd.1 hd.2, hb]; exact q
    · cases hb
end
end VM
/-! VM3: subscripts and built-ins. -/
namespace VM
open PySem L2 PySem.Spec PyProof.Rows
section
variable {X : Cx} {W : Wd} {WW : WX}
theorem Aft.okO {W : Wd} {WW : WX} {Fr : Hp} {ρ : List Addr} {G : Hp} {σs : List SV} {M : Mem} {σ : L2.St} {Q : VK} {o : Option D} (h : Aft W WW Fr (RRk W Fr) ρ G σs σ (okO o M) Q) : ∃ d, o = some d ∧ Aft W WW Fr (RRk W Fr) ρ G σs σ (ok1 d M) Q := by
  cases o with
  | none => exact h.elim
  | some b => exact ⟨b, rfl, h⟩
theorem Aft.okI {W : Wd} {WW : WX} {Fr : Hp} {ρ : List Addr} {G : Hp} {σs : List SV} {M : Mem} {σ : L2.St} {H : Hp} {Q : VK} {o : Option Int} (h : Aft W WW Fr (RRk W Fr) ρ G σs σ (okI o M) Q) (r : Rel W Fr ρ G σs M σ H) : ∃ d, o = some d ∧ Q (.int d) H := by
  cases o with
  | none => exact h.elim
  | some b => exact ⟨b, rfl, h.one r rfl⟩
theorem Fzs.at {W : Wd} {ρ : List Addr} {G : Hp} {ds : List D} {vs : List V} {i : Int} {d : D} (h : Fzs W ρ G ds vs) (e : at? ds i = some d) : ∃ v, atI vs i = some v ∧ Fz W ρ G d v := by
  unfold at? at e
  obtain ⟨j, e1, e2⟩ := Option.bind_eq_some_iff.mp e
  obtain ⟨v, h1, h2⟩ := h.get e2
  refine ⟨v, ?_, h2⟩
  unfold atI
  have : ixN vs.length i = some j := by rw [← h.length]; exact e1
  rw [this]
  exact h1
theorem ix_all (hK : W.K = X.K) : IxR X (rO W WW index) := by
  intro value slice pins s σ H x y v u Q I rx ry ⟨Fr, ρ, G, σs, M, τ, d, e, r, hx, hy, q⟩ hs
  unfold index at q
  split at q
  · rename_i i
    have ey := hy.int r
    have l := r.look hx
    have fin : ∀ {r' : R2}, IxR X r' → r' x y H Q → wpAny (model X.prog X.w) X.A (subscriptTail value slice v u) (EP X pins σ Q) X.xe s := fun o z => o value slice pins s σ H x y v u Q I rx ry z hs
    split at q
    · rename_i xs e1
      rw [e1] at l
      obtain ⟨a, vs, ea, ha, la, fa⟩ := l
      obtain ⟨d', h1, q⟩ := q.okO
      obtain ⟨z, h2, h3⟩ := fa.at h1
      exact fin ix_list ⟨a, vs, i, z, ea, ey, .of ha, h2, q.one r h3⟩
    · rename_i xs e1
      rw [e1] at l
      have l : Fz W ρ G (.scr xs) x := l
      unfold Fz at l
      obtain ⟨a, vs, ea, ha, la, fa⟩ := l
      obtain ⟨d', h1, q⟩ := q.okO
      obtain ⟨z, h2, h3⟩ := fa.at h1
      exact fin ix_list ⟨a, vs, i, z, ea, ey, hK ▸ r.gh.sql ha, h2, q.one r h3⟩
    · rename_i xs e1
      rw [e1] at l
      have l : Fz W ρ G (.tup xs) x := l
      unfold Fz at l
      obtain ⟨a, vs, ea, ha, la, fa⟩ := l
      obtain ⟨d', h1, q⟩ := q.okO
      obtain ⟨z, h2, h3⟩ := fa.at h1
      exact fin ix_tup ⟨a, vs, i, z, ea, ey, hK ▸ r.gh.sqt ha, h2, q.one r h3⟩
    · rename_i xs e1
      rw [e1] at l
      have l : Fz W ρ G (.str xs) x := l
      unfold Fz at l
      obtain ⟨ea, oa⟩ := l
      obtain ⟨d', h1, q⟩ := q.okO
      obtain ⟨c, h2, ec⟩ := Option.map_eq_some_iff.mp h1
      subst ec
      have hc : c ∈ xs := by
        unfold at? at h2
        obtain ⟨j, e1, e2⟩ := Option.bind_eq_some_iff.mp h2
        exact List.mem_of_getElem? e2
      refine fin ix_str ⟨tx xs, i, c, ea, ey, by rw [tx_len, line_eq]; exact Nat.le_of_lt oa.1, by rw [tx_cps]; exact h2, ?_⟩
      have := q.one r (v := .str (tx [c])) (.mkS ⟨(show 1 < line by decide), fun z hz => by simp at hz; subst hz; exact oa.2 _ hc⟩)
      exact this
    · exact q.elim
  · exact q.elim

/-! ### built-ins -/
def rC (W : Wd) (WW : WX) (f : List D → Mem → Rs KD) : List V → Hp → VK → Prop := fun xs H Q => ∃ (Fr : Hp) (ρ : List Addr) (G : Hp) (σs : List SV) (M : Mem) (σ : L2.St) (ds : List D),
  Rel W Fr ρ G σs M σ H ∧ Bzs W ρ G σs σ ds xs ∧ Aft W WW Fr (RRk W Fr) ρ G σs σ (f ds M) Q
theorem Bzs.one {W : Wd} {ρ : List Addr} {G : Hp} {σs : List SV} {σ : L2.St} {d : D} {xs : List V} (h : Bzs W ρ G σs σ [d] xs) : ∃ x, xs = [x] ∧ Bz W ρ G σs σ d x := by
  unfold Bzs at h
  obtain ⟨v, r, e, b, k⟩ := h
  unfold Bzs at k
  subst k
  exact ⟨v, e, b⟩
theorem Bzs.two {W : Wd} {ρ : List Addr} {G : Hp} {σs : List SV} {σ : L2.St} {d e : D} {xs : List V} (h : Bzs W ρ G σs σ [d, e] xs) : ∃ x y, xs = [x, y] ∧ Bz W ρ G σs σ d x ∧ Bz W ρ G σs σ e y := by
  unfold Bzs at h
  obtain ⟨v, r, ex, b, k⟩ := h
  obtain ⟨y, e2, b2⟩ := k.one
  subst e2
  exact ⟨v, y, ex, b, b2⟩
theorem sumI_ints {W : Wd} {ρ : List Addr} {G : Hp} : ∀ {ds : List D} {vs : List V} {i : Int}, Fzs W ρ G ds vs → sumI ds = some i → ∃ ns : List Int, vs = ns.map V.int ∧ ns.sum = i
  | [], vs, i, h, e => by
    unfold Fzs at h
    simp only [sumI, Option.some.injEq] at e
    exact ⟨[], h, e⟩
  | d :: ds, vs, i, h, e => by
    unfold Fzs at h
    obtain ⟨v, r, ev, q, k⟩ := h
    cases d with
    | int a =>
      simp only [sumI, Option.map_eq_some_iff] at e
      obtain ⟨j, e1, e2⟩ := e
      obtain ⟨ns, h1, h2⟩ := sumI_ints k e1
      have q : v = .int a := q
      refine ⟨a :: ns, by rw [ev, q, h1]; rfl, by rw [List.sum_cons, h2, e2]⟩
    | _ => simp [sumI] at e
theorem allB_bls {W : Wd} {ρ : List Addr} {G : Hp} : ∀ {ds : List D} {vs : List V} {b : Bool}, Fzs W ρ G ds vs → allB ds = some b → ∃ bs : List Bool, vs = bs.map V.bl ∧ bs.all id = b
  | [], vs, i, h, e => by
    unfold Fzs at h
    simp only [allB, Option.some.injEq] at e
    exact ⟨[], h, e⟩
  | d :: ds, vs, i, h, e => by
    unfold Fzs at h
    obtain ⟨v, r, ev, q, k⟩ := h
    cases d with
    | bl a =>
      simp only [allB, Option.map_eq_some_iff] at e
      obtain ⟨j, e1, e2⟩ := e
      obtain ⟨ns, h1, h2⟩ := allB_bls k e1
      have q : v = .bl a := q
      refine ⟨a :: ns, by rw [ev, q, h1]; rfl, by rw [List.all_cons, h2, ← e2]; rfl⟩
    | _ => simp [allB] at e
theorem c_len (hK : W.K = X.K) : CallR X (.builtin "len") (rC W WW (pf .len)) := by
  intro pins s σ H xs us Q I rx ⟨Fr, ρ, G, σs, M, τ, ds, r, hx, q⟩
  change Aft W WW Fr (RRk W Fr) ρ G σs τ (pfLen ds M) Q at q
  unfold pfLen at q
  split at q
  · rename_i a
    obtain ⟨x, ex, bx⟩ := hx.one
    obtain ⟨i, hi, q⟩ := q.okI r
    have l := r.look bx
    have fin : ∀ {r' : List V → Hp → VK → Prop}, CallR X (.builtin "len") r' → r' xs H Q → wpAny (model X.prog X.w) X.A (PySem.call (.builtin "len") us) (EP X pins σ Q) X.xe s := fun o z => o pins s σ H xs us Q I rx z
    unfold lenD at hi
    split at hi
    · rename_i t e1
      rw [e1] at l
      have l : Fz W ρ G (.str t) x := l
      unfold Fz at l
      simp only [Option.some.injEq] at hi
      subst hi
      refine fin call_len ⟨x, t.length, ex, ?_, q⟩
      rw [l.1]
      exact ⟨by rw [tx_len, line_eq]; exact Nat.le_of_lt l.2.1, (tx_len t).symm⟩
    · rename_i t e1
      rw [e1] at l
      obtain ⟨p, vs, ea, ha, la, fa⟩ := l
      simp only [Option.some.injEq] at hi
      subst hi
      refine fin call_len ⟨x, t.length, ex, ?_, q⟩
      rw [ea]
      exact .inl ⟨vs, .of ha, fa.length⟩
    · rename_i t e1
      rw [e1] at l
      have l : Fz W ρ G (.tup t) x := l
      unfold Fz at l
      obtain ⟨p, vs, ea, ha, la, fa⟩ := l
      simp only [Option.some.injEq] at hi
      subst hi
      refine fin call_len ⟨x, t.length, ex, ?_, q⟩
      rw [ea]
      exact .inr ⟨vs, hK ▸ r.gh.sqt ha, fa.length⟩
    · rename_i t e1
      rw [e1] at l
      have l : Fz W ρ G (.scr t) x := l
      unfold Fz at l
      obtain ⟨p, vs, ea, ha, la, fa⟩ := l
      simp only [Option.some.injEq] at hi
      subst hi
      refine fin call_len ⟨x, t.length, ex, ?_, q⟩
      rw [ea]
      exact .inl ⟨vs, hK ▸ r.gh.sql ha, fa.length⟩
    · rename_i ks t e1
      rw [e1] at l
      obtain ⟨p, vs, ea, ha, hl, fa⟩ := l
      simp only [Option.some.injEq] at hi
      subst hi
      refine fin call_lenD ⟨p, _, by rw [ex, ea], ha, ?_⟩
      have : ((ks.map kx).zip vs).length = ks.length := by simp [hl]
      rw [this]; exact q
    · cases hi
  · exact q.elim
theorem c_abs : CallR X (.builtin "abs") (rC W WW (pf .abs)) := by
  intro pins s σ H xs us Q I rx ⟨Fr, ρ, G, σs, M, τ, ds, r, hx, q⟩
  change Aft W WW Fr (RRk W Fr) ρ G σs τ (pfAbs ds M) Q at q
  unfold pfAbs at q
  split at q
  · rename_i i
    obtain ⟨x, ex, bx⟩ := hx.one
    exact call_abs pins s σ H xs us Q I rx ⟨i, by rw [ex, bx.int r], q.one r rfl⟩
  · exact q.elim
theorem c_int : CallR X (.type "int") (rC W WW (pf .int)) := by
  intro pins s σ H xs us Q I rx ⟨Fr, ρ, G, σs, M, τ, ds, r, hx, q⟩
  change Aft W WW Fr (RRk W Fr) ρ G σs τ (pfInt ds M) Q at q
  unfold pfInt at q
  split at q
  · rename_i i
    obtain ⟨x, ex, bx⟩ := hx.one
    exact call_int1 pins s σ H xs us Q I rx (.inl ⟨i, by rw [ex, bx.int r], q.one r rfl⟩)
  · rename_i i
    obtain ⟨x, ex, bx⟩ := hx.one
    exact call_int1 pins s σ H xs us Q I rx (.inr ⟨i, by rw [ex, bx.bl r], q.one r rfl⟩)
  · exact q.elim
theorem c_divmod : CallR X (.builtin "divmod") (rC W WW (pf .divmod)) := by
  intro pins s σ H xs us Q I rx ⟨Fr, ρ, G, σs, M, τ, ds, r, hx, q⟩
  change Aft W WW Fr (RRk W Fr) ρ G σs τ (pfDivmod ds M) Q at q
  unfold pfDivmod at q
  split at q
  · rename_i i j
    obtain ⟨x, y, ex, bx, bY⟩ := hx.two
    split at q
    · rename_i hj
      refine call_divmod pins s σ H xs us Q I rx ⟨i, j, by rw [ex, bx.int r, bY.int r], hj, fun p hp => q.new1 r hp ?_⟩
      unfold Fz
      exact ⟨p, _, rfl, .of upd_same, (show 2 < line by decide), .cons rfl (.cons rfl .nil)⟩
    · exact q.elim
  · exact q.elim
theorem c_sum (hK : W.K = X.K) (hc : X.calm = true) : CallR X (.builtin "sum") (rC W WW (pf .sum)) := by
  intro pins s σ H xs us Q I rx ⟨Fr, ρ, G, σs, M, τ, ds, r, hx, q⟩
  change Aft W WW Fr (RRk W Fr) ρ G σs τ (pfSum ds M) Q at q
  unfold pfSum at q
  split at q
  · rename_i a
    obtain ⟨x, ex, bx⟩ := hx.one
    have l := r.look bx
    split at q
    · rename_i t e1
      rw [e1] at l
      obtain ⟨p, vs, ea, ha, la, fa⟩ := l
      obtain ⟨i, hi, q⟩ := q.okI r
      obtain ⟨ns, h1, h2⟩ := sumI_ints fa hi
      subst h1
      exact cr_sum hc pins s σ H xs us Q I rx ⟨p, ns, by rw [ex, ea], .of ha, by rw [h2]; exact q⟩
    · exact q.elim
  · exact q.elim
theorem c_all (hK : W.K = X.K) (hc : X.calm = true) : CallR X (.builtin "all") (rC W WW (pf .all)) := by
  intro pins s σ H xs us Q I rx ⟨Fr, ρ, G, σs, M, τ, ds, r, hx, q⟩
  change Aft W WW Fr (RRk W Fr) ρ G σs τ (pfAll ds M) Q at q
  unfold pfAll at q
  split at q
  · rename_i a
    obtain ⟨x, ex, bx⟩ := hx.one
    have l := r.look bx
    split at q
    · rename_i t e1
      rw [e1] at l
      obtain ⟨p, vs, ea, ha, la, fa⟩ := l
      obtain ⟨i, hi, q⟩ := q.okB r
      obtain ⟨ns, h1, h2⟩ := allB_bls fa hi
      subst h1
      exact cr_all hc pins s σ H xs us Q I rx ⟨p, ns, by rw [ex, ea], .of ha, by rw [h2]; exact q⟩
    · exact q.elim
  · exact q.elim
end
end VM
/-! VH: walks, targets and comprehensions, an exception handled or not, an exception let out or not. -/
namespace VM
open PySem L2 PySem.Spec PyProof.Rows
/-- nothing is handled, or an exception that has no context -/
def Qt (A : Around) (h : Heap) : Prop := A.handled = none ∨ ∃ x1, HotX.HotAt A x1 h
def CalmH (X : Cx) : Prop := X.calm = true ∨ L2H.HotC X
section
variable {prog : Program} {w : World} {A : Around} {E : Value → Shared → Prop} {s : Shared}
theorem CalmH.qt {X : Cx} {pins : List (Addr × Obj)} {σ : L2.St} {H : Hp} (c : CalmH X) (I : Inv X pins σ H s) : Qt X.A s.heap := c.elim (fun z => .inl (I.ok.hd z)) fun z => .inr (z.at I)
theorem Qt.to {h h' : Heap} (q : Qt A h) (k : ∀ b o vs, h.get? b = some o → o.data = .fields vs → 2 < vs.size → h'.get? b = some o) : Qt A h' := by
  rcases q with q | ⟨x1, hh, o, vs, e, d, c⟩
  · exact .inl q
  · exact .inr ⟨x1, hh, o, vs, k _ _ _ e d (Array.getElem?_eq_some_iff.mp c).1, d, c⟩
/-- something just made is raised -/
theorem raise_q {α : Type} {h0 : Heap} {a : Addr} {oe : Obj} {vs : Array Value} {Q : α → Shared → Prop} (q : Qt A h0) (k : ∀ b o vs, h0.get? b = some o → o.data = .fields vs → 2 < vs.size → s.heap.get? b = some o) (na : h0.get? a = none)
    (ha : s.heap.get? a = some oe) (da : oe.data = .fields vs) (hi : 2 < vs.size)
    (hE : ∀ h' oe', (∀ b, b ≠ a → h'.get? b = s.heap.get? b) → h'.get? a = some oe' → oe'.cls = oe.cls → E (.ref a) { s with heap := h' }) : wpAny (model prog w) A (raiseNew (.ref a) : Sem α) Q E s := by
  rcases q with q | ⟨x1, hot⟩
  · unfold raiseNew
    refine wpAny_bind (wpAny_handled ?_)
    rw [q]
    exact wpAny_bind (wpAny_pure (wpAny_throw (hE s.heap oe (fun _ _ => rfl) ha rfl)))
  · obtain ⟨hh, o, vs1, e, d, c⟩ := hot
    have hot' : HotX.HotAt A x1 s.heap := ⟨hh, o, vs1, k _ _ _ e d (Array.getElem?_eq_some_iff.mp c).1, d, c⟩
    have ne : x1 ≠ a := fun z => by rw [z, na] at e; cases e
    refine HotX.raiseNew_hot hot' ne ha da hi ?_
    exact hE _ _ (fun b hb => Heap.get?_update_other _ _ (Ne.symm hb)) (Heap.get?_update_self _ ha (Obj.isFreed_of_fields (Obj.data_mapFields da _))) (Obj.cls_mapFields ..)
theorem next_list_endQ {it l : Addr} {i : Nat} {xs : Array Value} {Q : Option Value → Shared → Prop} (q : Qt A s.heap) (hit : s.heap.IsListIter it l i) (hl : s.heap.IsList l xs) (hx : xs[i]? = none)
    (hQ : ∀ h', Heap.ExtBut it s.heap h' → Q none { s with heap := h' }) : wpAny (model prog w) A (pyNext (.ref it)) Q E s := by
  obtain ⟨o, at_, cl, dt⟩ := id hit
  obtain ⟨ol, atl, _, nl, dl⟩ := hl
  unfold pyNext
  refine wpAny_bind (wpAny_attempt (wpAny_callSpecial?_slot (name := Str.ofString "__next__") hit.typeIs slot_listiter_next (wpAny_call_entry slot_listiter_next hit.typeIs entry_listiter_next ?_ (args_listiter_next _))))
  show wpAny _ _ (field (.ref it) 0 >>= _) _ _ _
  refine wpAny_bind (wpAny_field at_ dt (x := .ref l) rfl ?_)
  show wpAny _ _ (if (Value.ref l == Value.none) = true then _ else _) _ _ _
  rw [if_neg (fun z : (Value.ref l == Value.none) = true => Bool.false_ne_true z)]
  show wpAny _ _ (field (.ref it) 1 >>= _) _ _ _
  refine wpAny_bind (wpAny_field at_ dt (x := .int i 0) rfl ?_)
  show wpAny _ _ (seqItems? (.ref l) >>= _) _ _ _
  refine wpAny_bind (wpAny_seqItems atl dl ?_)
  simp only [Int.toNat_natCast, hx]
  refine wpAny_bind (wpAny_rule (wpAny_bind (wpAny_setField at_ dt (by simp) ?_)))
  show wpAny _ _ (newExc (.type "StopIteration") [] >>= _) _ _ _
  refine wpAny_bind ?_
  simp only [newExc, newTuple]
  refine wpAny_bind (wpAny_newObj_type ?_ (by size_fits))
  refine wpAny_bind (m := firstArgMember _ _) (wpAny_of_eq (a := Value.none) (by first | rfl | (simp only [firstArgMember]; rfl)) ?_)
  refine wpAny_newObj_type ?_ (by size_fits)
  have k1 := (Heap.SameBut.update s.heap it (Obj.mapFields (·.setIfInBounds 0 Value.none))).extBut
  refine raise_q (h0 := s.heap) q (fun b u us e d l => ?_) ?_ (Heap.get?_push_size _ rfl) rfl (by first | (simp; done) | (simp; omega) | (simp only [Array.size_append]; simp; omega)) fun h' oe' same e1 e2 => ?_
  · have ne : b ≠ it := fun z => by
      rw [z, at_] at e
      cases e
      rw [dt] at d
      cases d
      simp at l
    exact ((k1.push _).push _) b u ne e
  · refine Heap.get?_none_of_le ?_
    show s.heap.objs.size ≤ ((s.heap.update it _).push _).objs.size
    rw [Heap.size_push, Heap.size_update]
    exact Nat.le_succ _
  · refine wpAny_bind (wpAny_isInstance (T := "StopIteration") (b := true) ⟨_, e1, e2⟩ isSubtype_stop ?_)
    refine wpAny_pure (hQ _ fun b u hb e => ?_)
    have lt := Heap.lt_size e
    rw [same b (fun z => by
      rw [z] at lt
      dsimp only at lt
      rw [Heap.size_push, Heap.size_update] at lt
      exact Nat.lt_irrefl _ (Nat.lt_of_succ_lt lt))]
    exact ((k1.push _).push _) b u hb e
theorem next_tuple_endQ {it l : Addr} {i : Nat} {xs : Array Value} {Q : Option Value → Shared → Prop} (q : Qt A s.heap) (hit : s.heap.IsTupleIter it l i) (hl : s.heap.IsTuple l xs) (hx : xs[i]? = none)
    (hQ : ∀ h', Heap.ExtBut it s.heap h' → Q none { s with heap := h' }) : wpAny (model prog w) A (pyNext (.ref it)) Q E s := by
  obtain ⟨o, at_, cl, dt⟩ := id hit
  obtain ⟨ol, atl, _, nl, dl⟩ := hl
  unfold pyNext
  refine wpAny_bind (wpAny_attempt (wpAny_callSpecial?_slot (name := Str.ofString "__next__") hit.typeIs F.slot_tuple_iterator_next (wpAny_call_entry F.slot_tuple_iterator_next hit.typeIs F.entry_tuple_iterator_next ?_ (F.args_tuple_iterator_next_1 _))))
  show wpAny _ _ (field (.ref it) 0 >>= _) _ _ _
  refine wpAny_bind (wpAny_field at_ dt (x := .ref l) rfl ?_)
  show wpAny _ _ (if (Value.ref l == Value.none) = true then _ else _) _ _ _
  rw [if_neg (fun z : (Value.ref l == Value.none) = true => Bool.false_ne_true z)]
  show wpAny _ _ (field (.ref it) 1 >>= _) _ _ _
  refine wpAny_bind (wpAny_field at_ dt (x := .int i 0) rfl ?_)
  show wpAny _ _ (seqItems? (.ref l) >>= _) _ _ _
  refine wpAny_bind (wpAny_seqItems atl dl ?_)
  simp only [Int.toNat_natCast, hx]
  refine wpAny_bind (wpAny_rule (wpAny_bind (wpAny_setField at_ dt (by simp) ?_)))
  show wpAny _ _ (newExc (.type "StopIteration") [] >>= _) _ _ _
  refine wpAny_bind ?_
  simp only [newExc, newTuple]
  refine wpAny_bind (wpAny_newObj_type ?_ (by size_fits))
  refine wpAny_bind (m := firstArgMember _ _) (wpAny_of_eq (a := Value.none) (by first | rfl | (simp only [firstArgMember]; rfl)) ?_)
  refine wpAny_newObj_type ?_ (by size_fits)
  have k1 := (Heap.SameBut.update s.heap it (Obj.mapFields (·.setIfInBounds 0 Value.none))).extBut
  refine raise_q (h0 := s.heap) q (fun b u us e d l => ?_) ?_ (Heap.get?_push_size _ rfl) rfl (by first | (simp; done) | (simp; omega) | (simp only [Array.size_append]; simp; omega)) fun h' oe' same e1 e2 => ?_
  · have ne : b ≠ it := fun z => by
      rw [z, at_] at e
      cases e
      rw [dt] at d
      cases d
      simp at l
    exact ((k1.push _).push _) b u ne e
  · refine Heap.get?_none_of_le ?_
    show s.heap.objs.size ≤ ((s.heap.update it _).push _).objs.size
    rw [Heap.size_push, Heap.size_update]
    exact Nat.le_succ _
  · refine wpAny_bind (wpAny_isInstance (T := "StopIteration") (b := true) ⟨_, e1, e2⟩ isSubtype_stop ?_)
    refine wpAny_pure (hQ _ fun b u hb e => ?_)
    have lt := Heap.lt_size e
    rw [same b (fun z => by
      rw [z] at lt
      dsimp only at lt
      rw [Heap.size_push, Heap.size_update] at lt
      exact Nat.lt_irrefl _ (Nat.lt_of_succ_lt lt))]
    exact ((k1.push _).push _) b u hb e
theorem unpack_q {t : Addr} {xs : Array Value} {tgs : List (Bool × (Value → Sem Unit))} {Q : Unit → Shared → Prop} (q : Qt A s.heap) (ht : s.heap.IsTuple t xs) (hn : tgs.length = xs.size) (hst : tgs.findIdx? (·.1) = none)
    (h : ∀ h', Heap.ExtBut s.heap.objs.size s.heap h' → wpAny (model prog w) A (assignInOrder (tgs.map (·.2)) xs.toList) Q E { s with heap := h' }) : wpAny (model prog w) A (unpack (.ref t) tgs) Q E s := by
  have away : t ≠ s.heap.objs.size := by
    obtain ⟨o, e, _⟩ := ht
    exact Nat.ne_of_lt (Heap.lt_size e)
  unfold unpack
  rw [hn, hst]
  refine wpAny_bind (wpAny_holding ?_)
  unfold unpackItems
  refine wpAny_bind ?_
  unfold notIterableAtAll
  refine wpAny_bind (wpAny_specialOf ht.typeIs F.slot_tuple_iter.lookup (wpAny_pure ?_))
  rw [if_neg Bool.false_ne_true]
  refine wpAny_bind (wpAny_holding (wpAny_pyIter_tuple ht (wpAny_bind (wpAny_holding (wpAny_draw_tuple away xs.size 0 _ _ ⟨_, Heap.get?_push_size _ rfl, rfl, rfl⟩ (ht.push _) (by omega) fun h₁ hit₁ hs₁ => ?_)))))
  have all : List.take xs.size (List.drop 0 xs.toList) = xs.toList := by
    rw [List.drop_zero]
    exact List.take_of_length_le (by simp)
  rw [all, if_neg (by simp)]
  refine wpAny_bind (wpAny_holding (next_tuple_endQ (s := { s with heap := h₁ }) (q.to fun b o us e d l => ?_) hit₁ ((ht.push _).extBut hs₁.extBut away) (by simp) fun h₂ he₂ => ?_))
  · exact hs₁.extBut b o (Nat.ne_of_lt (Heap.lt_size e)) (Heap.get?_push_of_some _ e)
  · simp only [Option.isSome_none]
    rw [if_neg Bool.false_ne_true]
    exact wpAny_pure (h h₂ fun b o hb e => he₂ b o hb (hs₁.extBut b o hb (Heap.get?_push_of_some _ e)))
end
/-! ### targets -/
theorem pg_tupQ {X : Cx} {es : List Expr} {k : Nat} {t : TGs} {n : Nat} {pos : Pos} (hc : CalmH X) (h : PGs X es t) (hn : (assignEach es X.env).length = n) (hst : (assignEach es X.env).findIdx? (·.1) = none) : PG X (.Tuple es k pos) (gTup X.K n t) := by
  refine ⟨fun pins s σ H v u Q I r ⟨a, xs, e1, hq, hl, hw⟩ => ?_⟩
  subst e1
  obtain rfl : u = Value.ref a := r
  obtain ⟨its, rv, ht, hz⟩ := I.tuple hq
  rw [arm_assign_Tuple]
  refine wpAny_bind (wpAny_standAt (unpack_q (hc.qt I) ht (by simp [hn, ← hl, rv.length]) hst fun h' hx => ?_))
  have I1 : Inv X pins σ H { s with heap := h' } := I.kept (t' := s.toks) fun b o e => hx b o (Nat.ne_of_lt (Heap.lt_size e)) e
  exact h.run pins _ σ H xs _ Q I1 (by simpa using rv) hw

/-! ### walks -/
structure TurnQ (P : Program) (w : World) (K : PySem.W.Frag) (tg : Expr) (J : L2.It) (fp : List Addr) (it : Addr) (tn : Nat → Heap → Prop) : Prop where
  mem : it ∈ fp
  obj : ∀ i h, tn i h → ∀ b ∈ fp, ∃ o, h.get? b = some o ∧ ∀ v, o.data ≠ .cell v
  keep : ∀ i h h', tn i h → (∀ b ∈ fp, ∀ o, h.get? b = some o → h'.get? b = some o) → tn i h'
  item : ∀ (X : Cx), X.prog = P → X.w = w → X.K = K → CalmH X → ∀ (i : Nat) (pins : List (Addr × Obj)) (s : Shared) (σ : L2.St) (H : Hp) (E : Value → Shared → Prop), Inv X pins σ H s → (∀ b ∈ fp, FpOk X pins H b) → tn i s.heap → J.go i H →
    wpAny (model P w) X.A (pyNext (.ref it)) (fun r s1 => ∃ u, r = some u ∧ wpAny (model P w) X.A (letOwnedTupleGo tg (.ref it) u) (fun _ s2 => ∃ x H', Inv X pins σ H' s2 ∧ RelV x u ∧ J.yld i H x H' ∧ tn (i + 1) s2.heap ∧ ∀ b ∈ fp, H' b = none) E s1) E s
  done : ∀ (X : Cx), X.prog = P → X.w = w → X.K = K → CalmH X → ∀ (i : Nat) (pins : List (Addr × Obj)) (s : Shared) (σ : L2.St) (H : Hp) (E : Value → Shared → Prop), Inv X pins σ H s → (∀ b ∈ fp, FpOk X pins H b) → tn i s.heap → J.stop i H →
    wpAny (model P w) X.A (pyNext (.ref it)) (fun r s1 => r = none ∧ Inv X pins σ H s1) E s
  self : ∀ (A : Around) (i : Nat) (s : Shared) (Q : Value → Shared → Prop) (E : Value → Shared → Prop), tn i s.heap → Q (.ref it) s → wpAny (model P w) A (pyIter (.ref it)) Q E s
/-- two ways of a walk, one by one -/
theorem TurnQ.both {P : Program} {w : World} {K : PySem.W.Frag} {tg : Expr} {J : L2.It} {fp : List Addr} {it : Addr} {tn : Nat → Heap → Prop} (a : Turn P w K tg J fp it tn) (b : L2H.TurnH P w K tg J fp it tn) : TurnQ P w K tg J fp it tn :=
  ⟨a.mem, a.obj, a.keep, fun X h1 h2 h3 c => c.elim (a.item X h1 h2 h3) (b.item X h1 h2 h3), fun X h1 h2 h3 c => c.elim (a.done X h1 h2 h3) (b.done X h1 h2 h3), a.self⟩
theorem turn_listH {P : Program} {w : World} {K : PySem.W.Frag} {tg : Expr} (a it : Addr) : L2H.TurnH P w K tg (Itl K a) [it] it (fun i h => h.IsListIter it a i) where
  mem := (turn_list (P := P) (w := w) (K := K) (tg := tg) a it).mem
  obj := (turn_list (P := P) (w := w) (K := K) (tg := tg) a it).obj
  keep := (turn_list (P := P) (w := w) (K := K) (tg := tg) a it).keep
  self := (turn_list (P := P) (w := w) (K := K) (tg := tg) a it).self
  item := by
    rintro X rfl rfl rfl hc i pins s σ H E I hf st ⟨xs, x, hq, hx⟩
    obtain ⟨us, rv, p, hz⟩ := I.list hq
    obtain ⟨u, hu, ru⟩ := rv.get hx
    obtain ⟨f0, f1, f2, f3, f4, f5⟩ := hf it List.mem_cons_self
    refine wpAny_pyNext_list_item st p.isList (x := u) (by simpa using hu) fun h' st' sb => ⟨u, rfl, ?_⟩
    obtain ⟨o, e, c, d⟩ := id st'
    exact go_of (s := { s with heap := h' }) e c d (by decide) ⟨x, H, I.turned (t' := s.toks) (fun b o hb e => (sb.2 b hb).trans e) f0 f1 f3 f4 f5, ru, ⟨rfl, fun ys hy => by rw [I.list_inj hy hq]; exact hx⟩, st', fun b hb => (hf b hb).1⟩
  done := by
    rintro X rfl rfl rfl hc i pins s σ H E I hf st ⟨xs, hq, hx⟩
    obtain ⟨us, rv, p, hz⟩ := I.list hq
    obtain ⟨f0, f1, f2, f3, f4, f5⟩ := hf it List.mem_cons_self
    have hl := rv.length
    exact next_list_endQ (CalmH.qt (.inr hc) I) st p.isList (by simp; omega) fun h' eb => ⟨rfl, I.turned (t' := s.toks) (fun b o hb e => eb b o hb e) f0 f1 f3 f4 f5⟩
theorem turn_tupleH {P : Program} {w : World} {K : PySem.W.Frag} {tg : Expr} (a it : Addr) : L2H.TurnH P w K tg (Itt K a) [it] it (fun i h => h.IsTupleIter it a i) where
  mem := (turn_tuple (P := P) (w := w) (K := K) (tg := tg) a it).mem
  obj := (turn_tuple (P := P) (w := w) (K := K) (tg := tg) a it).obj
  keep := (turn_tuple (P := P) (w := w) (K := K) (tg := tg) a it).keep
  self := (turn_tuple (P := P) (w := w) (K := K) (tg := tg) a it).self
  item := by
    rintro X rfl rfl rfl hc i pins s σ H E I hf st ⟨xs, x, hq, hx⟩
    obtain ⟨us, rv, p, hz⟩ := I.tuple hq
    obtain ⟨u, hu, ru⟩ := rv.get hx
    obtain ⟨f0, f1, f2, f3, f4, f5⟩ := hf it List.mem_cons_self
    refine wpAny_pyNext_tuple_item st (show s.heap.IsTuple a us.toArray from p) (x := u) (by simpa using hu) fun h' st' sb => ⟨u, rfl, ?_⟩
    obtain ⟨o, e, c, d⟩ := id st'
    exact go_of (s := { s with heap := h' }) e c d (by decide) ⟨x, H, I.turned (t' := s.toks) (fun b o hb e => (sb.2 b hb).trans e) f0 f1 f3 f4 f5, ru, ⟨rfl, fun ys hy => by rw [I.tuple_inj hy hq]; exact hx⟩, st', fun b hb => (hf b hb).1⟩
  done := by
    rintro X rfl rfl rfl hc i pins s σ H E I hf st ⟨xs, hq, hx⟩
    obtain ⟨us, rv, p, hz⟩ := I.tuple hq
    obtain ⟨f0, f1, f2, f3, f4, f5⟩ := hf it List.mem_cons_self
    have hl := rv.length
    exact next_tuple_endQ (CalmH.qt (.inr hc) I) st (show s.heap.IsTuple a us.toArray from p) (by simp; omega) fun h' eb => ⟨rfl, I.turned (t' := s.toks) (fun b o hb e => eb b o hb e) f0 f1 f3 f4 f5⟩
def PIEQ (X : Cx) (pins : List (Addr × Obj)) (σ : L2.St) (tg : Expr) (R : L2.It → Hp → Prop) (itv : Value) (s2 : Shared) : Prop :=
  ∃ (it : Addr) (fp : List Addr) (tn : Nat → Heap → Prop) (J : L2.It) (H' : Hp), itv = .ref it ∧ Inv X pins σ H' s2 ∧ TurnQ X.prog X.w X.K tg J fp it tn ∧ tn 0 s2.heap ∧ (∀ b ∈ fp, FpOk X pins H' b) ∧ R J H'
structure PIQ (X : Cx) (tg iter : Expr) (wi : TI) : Prop where
  run : ∀ (pins : List (Addr × Obj)) (s : Shared) (σ : L2.St) (H : Hp) (R : L2.It → Hp → Prop), Inv X pins σ H s → wi σ H R → wpAny (model X.prog X.w) X.A (eval iter X.env) (fun v s1 => wpAny (model X.prog X.w) X.A (pyIter v) (PIEQ X pins σ tg R) X.xe s1) X.xe s
/-! ### an exception in the air, the frame told apart -/
structure Frm (X : Cx) (L : Addr) : Prop where
  fr : X.env.frame = some L
  top : ∃ e0 o0, X.stack = e0 :: o0 ∧ e0.frame = some L
def ExE (X : Cx) (L : Addr) (W : WX) (u : Value) (s' : Shared) : Prop :=
  ∃ (a : Addr) (B : Heap) (sI : Shared) (pins : List (Addr × Obj)) (σ : L2.St) (H : Hp) (cls : Value) (d : Option Addr), u = .ref a ∧ Inv X pins σ H sI ∧ (∀ b o, sI.heap.get? b = some o → b ∉ frs X.stack → B.get? b = some o) ∧ sI.heap.UpToSlots s'.heap ∧
    Sky B X.stack a (L2N.Zn cls d) L s'.heap ∧ H a = none ∧ s'.os = sI.os ∧ AllBare s'.gens ∧ W cls d σ H
section
variable {X : Cx} {pins : List (Addr × Obj)} {σ : L2.St} {H : Hp} {s s' : Shared} {L : Addr} {W : WX} {E : XK}
theorem ExE.of_call (I : Inv X pins σ H s) (hW : ∀ cls d H', E cls d H' → W cls d σ H') {u : Value} (c : L2N.CX X.prog X.w X.stack H s E u s') : ExE X L W u s' := by
  obtain ⟨a, B, H', cls, d, rfl, fl, hok, ub, na, os, ag, hE⟩ := c
  -- the state without the exception: the ground and the frames
  obtain ⟨G, inG, outG⟩ := L2.restrict s'.heap fun b => decide (b ∈ frs X.stack) || (B.get? b).isSome
  have st : B.StaysIn s'.heap := fl.1
  have ground : ∀ b o, B.get? b = some o → G.get? b = some o := fun b o e => (inG b (by simp [e])).trans (st b o e)
  have frame : ∀ b, b ∈ frs X.stack → G.get? b = s'.heap.get? b := fun b hb => inG b (by simp [hb])
  have from_ : ∀ b o, G.get? b = some o → s'.heap.get? b = some o ∧ (b ∈ frs X.stack ∨ (B.get? b).isSome = true) := fun b o e => by
    by_cases z : (decide (b ∈ frs X.stack) || (B.get? b).isSome) = true
    · exact ⟨(inG b z).symm.trans e, by simpa [Bool.or_eq_true] using z⟩
    · rw [outG b (by simpa using z)] at e
      cases e
  have J : Inv X pins σ H' { s with heap := G, gens := s'.gens, drawn := s'.drawn, toks := s'.toks } := by
    refine I.call (ch := []) ⟨fun b o e n hb _ => ground b o (ub.keep b o e n hb), fun b o e _ hb _ => ?_, fun b o e n _ => ub.free b o e n, fun b o e _ => ?_, ub.tups, ub.frzs, ub.tbls⟩ (hok.kept ground) ag (fun _ z => nomatch z)
    · obtain ⟨sl, z⟩ := ub.slot b o e hb
      exact ⟨sl, (frame b hb).trans z⟩
    · by_cases hb : b ∈ frs X.stack
      · obtain ⟨sl, z⟩ := ub.slot b o e hb
        exact ⟨_, (frame b hb).trans z⟩
      · obtain ⟨o', z⟩ := ub.there b o e hb
        exact ⟨o', ground b o' z⟩
  refine ⟨a, B, _, pins, σ, H', cls, d, rfl, J, fun b o e hb => ?_, Heap.UpToSlots.of_keeps fun b o e => (from_ b o e).1, .inr (.inl fl), na, os, ag, hW _ _ _ hE⟩
  obtain ⟨e', h⟩ := from_ b o e
  obtain ⟨o', z⟩ := Option.isSome_iff_exists.mp (h.resolve_left hb)
  have := st b o' z
  rw [e'] at this
  cases this
  exact z
theorem note_env {e : Value} {env env' : Env} (h : env.frame = env'.frame) : noteFrame e env = noteFrame e env' := by
  unfold noteFrame PySem.frameOf
  rw [h]
theorem Sky.note {M : Model} {A : Around} {E₁ : Value → Shared → Prop} {env e0 : Env} {o0 : List Env} {B : Heap} {a : Addr} {Z : Obj → Prop} {Q : Unit → Shared → Prop} (hZ : PXN.Steady1 Z) (hfr : A.frames = some (e0 :: o0)) (h0 : e0.frame = some L) (he : env.frame = some L)
    (x : Sky B (e0 :: o0) a Z L s.heap) (hQ : ∀ h', HandSPX.HeldZ B (e0 :: o0) a Z L h' → s.heap.UpToSlots h' → Q () { s with heap := h' }) : wpAny M A (noteFrame (.ref a) env) Q E₁ s := by
  rw [note_env (env' := e0) (he.trans h0.symm)]
  rcases x with ⟨hB, hn, hl, oe, vs, ge, hz, hd, h1⟩ | fl | hh
  · exact PXN.look_newZ hZ hfr hl h0 ge hB hn hd h1 hz hQ
  · exact PXN.looks_onZ hZ hfr h0 fl hQ
  · exact HandSPX.againZ h0 hh.2.2.2 (hQ s.heap hh (Heap.UpToSlots.refl _))
end

/-! ### a comprehension's block -/
def compX (M : Model) (A : Around) (E : Value → Shared → Prop) (use : Option (Value → Sem Unit)) (Q : Value → Shared → Prop) (acc : Value) (cenv : Env) (r : Result) (s' : Shared) : Prop :=
  match r with
  | .ok f => compPost M A E use Q acc cenv.locals (.ok f) s'
  | .error x => ∃ m, s'.heap.Ns cenv.locals m ∧ ∀ h', Heap.SameBut cenv.locals s'.heap h' → wpAny M A (PySem.passOn "comprehension.variables-let-go" x cenv : Sem Value) (fun _ _ => False) E { s' with heap := h' }
theorem comp_freeX {M : Model} {A : Around} {E : Value → Shared → Prop} {s : Shared} {env : Env} {e : Expr} {scope : Scope} {pos : Pos} {newAcc first : Sem Value} {g : Comprehension} {gs : List Comprehension} {cl : List (Str × Addr)} {use : Option (Value → Sem Unit)} {Q : Value → Shared → Prop}
    (hcl : clausesOf e = g :: gs) (hs : ∀ x, foldedSetIterable g.iter env x = pure x) (hclos : closureFor scope env = pure cl) (hkind : scope.kind = .function) (hnames : ∀ x ∈ scope.names, x.2 = .local → scope.names.lookup x.1 = some .local)
    (h : wpAny M A first (fun x s₁ => wpAny M A (pyIter x) (fun it s₂ => wpAny M A newAcc (fun acc s₃ => wpAny M A (newFunctionEnv scope env.globals cl [] env.qual none .none (some env)) (fun cenv s₄ =>
        codeAny M A (.compStart e 0 it acc { cenv with scope := relabel scope env }) (compX M A E use Q acc { cenv with scope := relabel scope env }) s₄) E s₃) E s₂) E s₁) E s) :
    wpAny M A (comprehension e scope env pos newAcc false first use) Q E s := by
  unfold comprehension
  rw [hclos, hcl]
  refine wpAny_bind (wpAny_mono h (fun x s₁ h₁ => ?_) fun _ _ z => z)
  refine wpAny_bind (wpAny_standAt (wpAny_bind (wpAny_of_eq (hs x) (wpAny_bind (wpAny_holding (wpAny_mono h₁ (fun it s₂ h₂ => ?_) fun _ _ z => z))))))
  refine wpAny_standIf (wpAny_bind (wpAny_mono h₂ (fun acc s₃ h₃ => ?_) fun _ _ z => z))
  refine wpAny_bind (wpAny_pure (wpAny_bind (wpAny_mono h₃ (fun cenv s₄ h₄ => ?_) fun _ _ z => z)))
  dsimp only
  have own : ∀ x ∈ (scope.names.filter fun x => (x.2 == .local || x.2 == .cell) && x.1 != (".0" : Str)).reverse, x.2 = .local → Env.kindOf { cenv with scope := relabel scope env } x.1 = some .local :=
    fun x hx hl => lookup_relabel_local (hnames x (List.mem_filter.mp (List.mem_reverse.mp hx)).1 hl)
  refine wpAny_holding (wpAny_bind (wpAny_attempt (wpAny_holding (wpAny_run (codeAny_mono h₄ fun r s' hr => ?_)))))
  cases r with
  | ok f =>
    cases use with
    | none =>
      obtain ⟨m, hn, hr⟩ := hr
      exact wpAny_bind (wpAny_holding (wpAny_comp_letGo (cenv := { cenv with scope := relabel scope env }) hkind _ s' m own hn fun h' m' _ hs' => wpAny_pure (hr h' hs')))
    | some u =>
      have hr : wpAny M A (u acc) (fun _ s'' => ∃ m, s''.heap.Ns cenv.locals m ∧ ∀ h', Heap.SameBut cenv.locals s''.heap h' → Q .none { s'' with heap := h' }) E s' := hr
      refine wpAny_bind (wpAny_rule (wpAny_bind (wpAny_holding (wpAny_mono hr (fun _ s'' ⟨m, hn, hr'⟩ => ?_) fun _ _ z => z))))
      refine wpAny_bind (wpAny_comp_letGo (cenv := { cenv with scope := relabel scope env }) hkind _ s'' m (fun x hx hl => ?_) hn fun h' m' _ hs' => wpAny_pure (hr' h' hs'))
      exact own x ((List.mem_append.mp hx).elim List.mem_of_mem_drop List.mem_of_mem_take) hl
  | error x =>
    obtain ⟨m, hn, hr⟩ := hr
    exact wpAny_bind (wpAny_holding (wpAny_comp_letGo (cenv := { cenv with scope := relabel scope env }) hkind _ s' m own hn fun h' m' _ hs' => wpAny_mono (hr h' hs') (fun _ _ z => z.elim) fun _ _ z => z))
abbrev blkX (X : Cx) (s : Shared) (H : Hp) (scope : Scope) (cenv : Env) (fp : List Addr) (E : Value → Shared → Prop) : Cx :=
  { X with s_0 := s, H_0 := H, env := cenv, outer := X.stack, ex := fp, fn := fun x => scope.names.lookup x == some .cell, xe := E }
section
variable {X : Cx} {pins : List (Addr × Obj)} {σ : L2.St} {H : Hp} {s : Shared}
theorem Cx.Ok.re {X Y : Cx} (k : X.Ok) (h : X = { Y with pn := X.pn, xe := X.xe }) : Y.Ok := by
  rw [h] at k
  exact ⟨k.mod, k.kind, k.glob, k.blt, k.above, k.inj, k.has, k.cab, k.hd, k.frames, k.stk, k.exf, k.bs, k.bsz, k.noex, k.exfs, k.funs, k.frf⟩
theorem Inv.reX {X Y : Cx} (I : Inv X pins σ H s) (h : X = { Y with pn := X.pn, xe := X.xe }) (hp : ∀ p ∈ Y.pn ++ pins, s.heap.get? p.1 = some p.2 ∧ H p.1 = none ∧ p.1 ≠ Y.env.locals ∧ p.1 ∉ Y.fs ∧ ∀ v, p.2.data ≠ .cell v) : Inv Y pins σ H s := by
  have k := Cx.Ok.re I.ok h
  rw [h] at I
  exact ⟨k, I.os, I.bare, I.base, I.loc, I.cell, I.free, I.freeC, hp, I.hok, I.len⟩
theorem block_startX {scope : Scope} {own : List (Str × Nat)} {fp : List Addr} {E : Value → Shared → Prop} (I : Inv X pins σ H s) (ok : BlkOk X.N X.env.scope scope own) (hN : X.N.Nodup) (hfp : ∀ b ∈ fp, FpOk X pins H b ∧ b < s.heap.objs.size) :
    Inv (blkX X s H scope (compEnvC scope (cellsFrom (s.heap.objs.size + 1) scope.names (cloFrom X.env.cells scope.names [])) s.heap.objs.size X.env) fp E) [] (L2.wipe σ (own.map (·.2))) H
      { s with heap := pushCells (s.heap.push { cls := .type "dict", data := .dict #[] }) scope.names } := by
  refine Inv.reX (block_start I ok hN hfp) rfl fun p hp => ?_
  have P := I.pin p (List.mem_append_left _ (by simpa using hp))
  refine ⟨pushCells_keeps _ _ _ _ (Heap.get?_push_of_some _ P.1), P.2.1, Nat.ne_of_lt (Heap.lt_size P.1), fun z => ?_, P.2.2.2.2⟩
  exact (List.mem_cons.mp (I.stkSub p.1 z)).elim P.2.2.1 P.2.2.2.1
end
theorem CalmH.blk {X : Cx} {s : Shared} {H : Hp} {scope : Scope} {cenv : Env} {fp : List Addr} {E : Value → Shared → Prop} (c : CalmH X) : CalmH (blkX X s H scope cenv fp E) := c.elim .inl fun ⟨p, h1, h2⟩ => .inr ⟨p, h1, h2⟩
def tLcX (wi : TI) (g : TG) (tt : L2.St → TT) (te : L2.St → TE) (vs : List Nat) : TE := fun σ H Q => wi σ H fun J H1 => ∀ D, H1 D = none → ∃ W : Nat → Nat → Hp → Prop, (∃ m, W 0 m (upd H1 D (.lst []))) ∧ ∀ i m H, W i m H →
  (J.stop i H ∧ Q (.ref D) H) ∨ (J.go i H ∧ ∃ Nx : Hp → Prop, (∀ H', Nx H' → ∃ m', m' < m ∧ W (i + 1) m' H') ∧ ∀ x H', J.yld i H x H' → g x (L2.wipe σ vs) H' fun σ2 H2 => L2.wipe σ2 vs = L2.wipe σ vs ∧ tt σ σ2 H2 fun b H3 =>
    if b = true then te σ σ2 H3 fun y H4 => ∃ acc, H4 D = some (.lst acc) ∧ acc.length < sizeLine ∧ Nx (upd H4 D (.lst (acc ++ [y]))) else Nx H3)
theorem frames_hid {h1 h2 B B' : Heap} {C : Addr} (g : ∀ b, b ≠ C → h2.get? b = h1.get? b) (n : ∀ b, B.get? b = none → B'.get? b = none) : ∀ {l : List Env}, h1.FunFrames B l → (∀ b ∈ frs l, b ≠ C) → h2.FunFrames B' l
  | [], _, _ => trivial
  | e :: l, ⟨k1, ⟨A, o, f, a1, a2, a3⟩, k3⟩, hl => by
    have hA : A ∈ frs (e :: l) := List.mem_filterMap.mpr ⟨e, List.mem_cons_self, f⟩
    refine ⟨k1, ⟨A, o, f, n A a1, (g A (hl A hA)).trans a2, a3⟩, frames_hid g n k3 fun b hb => hl b ?_⟩
    obtain ⟨e', h1, h2⟩ := List.mem_filterMap.mp hb
    exact List.mem_filterMap.mpr ⟨e', List.mem_cons_of_mem _ h1, h2⟩
/-- the block is left by an exception -/
theorem block_out {X : Cx} {pins : List (Addr × Obj)} {σ : L2.St} {H3 : Hp} {s3 s' : Shared} {scope : Scope} {ce : Env} {fp : List Addr} {E₀ : Value → Shared → Prop} {L : Addr} {WW : WX} {u : Value} {use : Option (Value → Sem Unit)} {Q : Value → Shared → Prop} {acc : Value} (fr : Frm X L) (hx : ∀ u s', ExE X L WW u s' → X.xe u s')
    (I3 : Inv X pins σ H3 s3) (cL : ce.locals = s3.heap.objs.size) (cF : ce.frame = X.env.frame) (f3 : ∀ b ∈ fp, FpOk X pins H3 b) (x : ExE (blkX X s3 H3 scope ce fp E₀) L (fun cls d _ H => WW cls d σ H) u s') :
    notedBy (model X.prog X.w) X.A ce (fun e s' => compX (model X.prog X.w) X.A X.xe use Q acc ce (.error e) s') u s' := by
  obtain ⟨a, B, sI, pinsb, σb, Hb, cls, d, rfl, I, nb, up, sky, na, os, ag, w⟩ := x
  obtain ⟨ef, e0, o0, hst, h0⟩ := fr
  have hfr : X.A.frames = some (e0 :: o0) := by rw [I3.ok.frames, hst]
  have cf : ce.frame = some L := cF.trans ef
  have sky : Sky B (e0 :: o0) a (L2N.Zn cls d) L s'.heap := hst ▸ sky
  -- the block's dict is in the ground
  obtain ⟨m, hn, _⟩ := I.loc
  have hn : sI.heap.Ns ce.locals m := hn
  have nC : ce.locals ∉ frs X.stack := fun z => by
    obtain ⟨_, o, e, _⟩ := I3.stack.mem z
    rw [cL] at e
    exact Nat.lt_irrefl _ (Heap.lt_size e)
  have bC : ∀ o, sI.heap.get? ce.locals = some o → B.get? ce.locals = some o := fun o e => nb _ o e nC
  have bS : (B.get? ce.locals).isSome = true := by
    obtain ⟨o, _, _, e, _⟩ := id hn
    rw [bC o e]; rfl
  refine Sky.note L2N.Zn.steady hfr h0 cf sky fun h1 held up1 => ?_
  obtain ⟨k1, k2, k3, oe, vs, T, oT, ts, te, tz, td, t1, tn, tne, tT, tTd, t3⟩ := held
  refine ⟨m, hn.at fun o e => k1 _ o (bC o e), fun h2 sb => ?_⟩
  have aC : a ≠ ce.locals := fun z => by rw [← z, k2] at bS; cases bS
  have TC : T ≠ ce.locals := fun z => by rw [← z, tn] at bS; cases bS
  have g2 : ∀ b, b ≠ ce.locals → h2.get? b = h1.get? b := fun b hb => sb.2 b hb
  unfold PySem.passOn
  refine wpAny_bind (wpAny_field (s := { s' with heap := h2 }) ((g2 a aC).trans te) td t1 ?_)
  rw [if_neg (show ¬((Value.ref T == Value.none) = true) from fun z => nomatch z)]
  refine wpAny_bind ?_
  rw [cf]
  have B1 : ∀ b o, (PySem.W.hideAll B [ce.locals]).get? b = some o → b ≠ ce.locals ∧ B.get? b = some o := fun b o e => by
    refine ⟨fun z => ?_, PySem.W.of_hideAll _ e⟩
    rw [z, PySem.W.hideAll_none _ List.mem_cons_self] at e
    cases e
  have B2 : ∀ b, B.get? b = none → (PySem.W.hideAll B [ce.locals]).get? b = none := fun b e => by
    cases q : (PySem.W.hideAll B [ce.locals]).get? b with
    | none => rfl
    | some o => rw [(B1 b o q).2] at e; cases e
  have ff : ∀ {l : List Env} (_ : h1.FunFrames B l) (_ : ∀ b ∈ frs l, b ≠ ce.locals), h2.FunFrames (PySem.W.hideAll B [ce.locals]) l := fun {l} k hl => frames_hid g2 B2 k hl
  refine HandSPX.setFlight_anyZ (s := { s' with heap := h2 }) (base := PySem.W.hideAll B [ce.locals]) (l := X.stack) (Z := L2N.Zn cls d) (fl := rawInt L) (fun b o e => ?_) (ff (hst ▸ k3) fun b hb z => nC (z ▸ hb)) ⟨oe, vs, T, oT, ts, (g2 a aC).trans te, tz, td, t1, B2 T tn, tne, (g2 T TC).trans tT, tTd, t3⟩ fun h3 j1 j2 j3 j4 => ?_
  · obtain ⟨e1, e2⟩ := B1 b o e
    exact (g2 b e1).trans (k1 b o e2)
  refine wpAny_throw (hx _ _ ?_)
  have Cn : s3.heap.get? ce.locals = none := Heap.get?_none_of_le (by rw [cL]; exact Nat.le_refl _)
  have ne3 : ∀ b o, s3.heap.get? b = some o → b ≠ ce.locals := fun b o e z => by rw [z, Cn] at e; cases e
  have hid : ∀ b o, b ≠ ce.locals → sI.heap.get? b = some o → (PySem.W.hideAll sI.heap [ce.locals]).get? b = some o := fun b o hb e => PySem.W.hideAll_get _ e (by simpa using hb)
  have un : Un (frs X.stack) fp H3 Hb s3.heap sI.heap := I.base
  have J : Inv X pins σ Hb { sI with heap := PySem.W.hideAll sI.heap [ce.locals] } := by
    refine I3.call' (ch := fp) I.os ⟨fun b o e n hb hx => hid b o (ne3 b o e) (un.keep b o e n hb hx), fun b o e n hb hx => ?_, un.free, fun b o e hx => ?_, un.tups, un.frzs, un.tbls⟩ (fun b o e => ?_) I.bare fun b hb => ?_
    · obtain ⟨sl, z⟩ := un.slot b o e n hb hx
      exact ⟨sl, hid b _ (ne3 b o e) z⟩
    · obtain ⟨o', z⟩ := un.there b o e hx
      exact ⟨o', hid b _ (ne3 b o e) z⟩
    · refine (I.hok b o e).stay (fun c v hc z => hid c v (fun q => ?_) z) (fun _ z => z) fun _ _ z => z
      have fC : Hb ce.locals = none := I.free
      rcases hc with hc | hc
      · rw [← hc, q, fC] at e; cases e
      · rw [q, fC] at hc; cases hc
    · exact ⟨(f3 b hb).2.2.2.1, (f3 b hb).2.1, (f3 b hb).2.2.2.2.1, (f3 b hb).2.2.2.2.2⟩
  refine ⟨a, PySem.W.hideAll B [ce.locals], _, pins, σ, Hb, cls, d, rfl, J, fun b o e hb => ?_, fun b o e hd => ?_, .inr (.inr ⟨j1, B2 a k2, j2, j3⟩), na, os, ag, w⟩
  · have e1 := PySem.W.of_hideAll _ e
    refine PySem.W.hideAll_get _ (nb b o e1 hb) (fun z => ?_)
    rw [PySem.W.hideAll_none _ z] at e
    cases e
  · have e1 := PySem.W.of_hideAll _ e
    have bc : b ≠ ce.locals := fun z => by
      rw [z, PySem.W.hideAll_none _ List.mem_cons_self] at e
      cases e
    obtain ⟨sl1, z1⟩ := up b o e1 hd
    obtain ⟨sl2, z2⟩ := up1 b _ z1 hd
    exact j4 b { o with slots := sl2 } ((g2 b bc).trans z2) hd
theorem lcx_core {X : Cx} {pins : List (Addr × Obj)} {s : Shared} {σ : L2.St} {H : Hp} {Q : VK} {elt tg iter : Expr} {ifs : List Expr} {scope : Scope} {own : List (Str × Nat)} {pos pos' : Pos} {wi : TI} {g : TG} {tt : L2.St → TT} {te : L2.St → TE} {use : Option (Value → Sem Unit)} {Qf : Value → Shared → Prop} {L : Addr} {WW : WX}
    (hc : CalmH X) (fr : Frm X L) (hx : ∀ u s', ExE X L WW u s' → X.xe u s') (hN : X.N.Nodup) (I : Inv X pins σ H s) (hi : PIQ X tg iter wi) (ok : BlkOk X.N X.env.scope scope own)
    (hg : ∀ (s : Shared) (H : Hp) (C : Addr) (cl : List (Str × Addr)) (fp : List Addr) (E : Value → Shared → Prop), PG (blkX X s H scope (compEnvC scope cl C X.env) fp E) tg g)
    (ht : ∀ (σ : L2.St) (s : Shared) (H : Hp) (C : Addr) (cl : List (Str × Addr)) (fp : List Addr) (E : Value → Shared → Prop), (∀ u s', ExE (blkX X s H scope (compEnvC scope cl C X.env) fp E) L (fun cls d _ H => WW cls d σ H) u s' → E u s') → PTs (blkX X s H scope (compEnvC scope cl C X.env) fp E) ifs (tt σ))
    (he : ∀ (σ : L2.St) (s : Shared) (H : Hp) (C : Addr) (cl : List (Str × Addr)) (fp : List Addr) (E : Value → Shared → Prop), (∀ u s', ExE (blkX X s H scope (compEnvC scope cl C X.env) fp E) L (fun cls d _ H => WW cls d σ H) u s' → E u s') → PE (blkX X s H scope (compEnvC scope cl C X.env) fp E) elt (te σ))
    (hs : ∀ x, foldedSetIterable iter X.env x = pure x) (h : tLcX wi g tt te (own.map (·.2)) σ H Q)
    (hRR : ∀ D C s' m H', Inv X pins σ H' s' → Q (.ref D) H' → s'.heap.Ns C m → FpOk X pins H' C → compPost (model X.prog X.w) X.A X.xe use Qf (.ref D) C (.ok .next) s') :
    wpAny (model X.prog X.w) X.A (comprehension (.ListComp elt [⟨tg, iter, ifs, 0⟩] scope pos) scope X.env pos' (newList []) false (eval iter X.env) use) Qf X.xe s := by
  have hfree : ∀ y ∈ scope.names, y.2 = .free → ∃ c, X.env.cells.lookup y.1 = some c := fun y hy e => I.ok.has _ (ok.free y hy e)
  refine comp_freeX (use := use) rfl hs (closure_ok hfree) ok.kind (fun y hy e => by rw [ok.uniq y hy, e]) (thn (hi.run pins s σ H _ I h) fun xv s1 hx => thn hx fun itv s2 h2 => ?_)
  obtain ⟨it, fp, tn, J, H2, e, I2, T, st2, f2, q⟩ := h2
  subst e
  refine wpAny_newObj_type (newEnv_comp ?_) (show 0 ≤ sizeLine by decide)
  generalize hD : s2.heap.objs.size = D
  have hDn : H2 D = none := I2.hok.fresh (Nat.le_of_eq hD)
  obtain ⟨W, ⟨m0, w0⟩, turn⟩ := q D hDn
  generalize hs3 : ({ s2 with heap := s2.heap.push { cls := .type "list", data := .seq ([] : List Value).toArray } } : Shared) = s3
  have push3 : s3.heap = s2.heap.push { cls := .type "list", data := .seq ([] : List Value).toArray } := by rw [← hs3]
  have I3 : Inv X pins σ (upd H2 D (.lst [])) s3 := by
    rw [← hs3]
    refine I2.laid (t' := s2.toks) (fun b o e => Heap.get?_push_of_some _ e) (Nat.le_of_eq hD) ⟨Nat.zero_le _, [], 0, .nil, ?_⟩
    rw [← hD]
    exact Heap.get?_push_size _ rfl
  have f3 : ∀ b ∈ fp, FpOk X pins (upd H2 D (.lst [])) b ∧ b < s3.heap.objs.size := fun b hb => by
    obtain ⟨o, e, _⟩ := T.obj _ _ st2 b hb
    have lt : b < s2.heap.objs.size := Heap.lt_size e
    refine ⟨⟨?_, (f2 b hb).2⟩, by rw [push3, Heap.size_push]; exact Nat.lt_succ_of_lt lt⟩
    rw [upd_ne (by rw [← hD]; exact Nat.ne_of_lt lt)]
    exact (f2 b hb).1
  have st3 : tn 0 s3.heap := T.keep _ _ _ st2 fun b _ o e => by rw [push3]; exact Heap.get?_push_of_some _ e
  show codeAny _ _ (.compStart (.ListComp elt [⟨tg, iter, ifs, 0⟩] scope pos) 0 (.ref it) (.ref D) (compEnvC scope (cellsFrom (s3.heap.objs.size + 1) scope.names (cloFrom X.env.cells scope.names [])) s3.heap.objs.size X.env))
    (compX (model X.prog X.w) X.A X.xe use Qf (.ref D) (compEnvC scope (cellsFrom (s3.heap.objs.size + 1) scope.names (cloFrom X.env.cells scope.names [])) s3.heap.objs.size X.env)) { s3 with heap := pushCells (s3.heap.push { cls := .type "dict", data := .dict #[] }) scope.names }
  have nfp : ∀ b ∈ fp, (upd H2 D (.lst [])) b = none := fun b hb => (f3 b hb).1.1
  -- what is wanted of an exception within the block
  obtain ⟨E, hE⟩ : ∃ E : Value → Shared → Prop, E = fun u s' => ExE (blkX X s3 (upd H2 D (.lst [])) scope (compEnvC scope (cellsFrom (s3.heap.objs.size + 1) scope.names (cloFrom X.env.cells scope.names [])) s3.heap.objs.size X.env) fp fun _ _ => False) L (fun cls d _ H => WW cls d σ H) u s' := ⟨_, rfl⟩
  have toE : ∀ u s', ExE (blkX X s3 (upd H2 D (.lst [])) scope (compEnvC scope (cellsFrom (s3.heap.objs.size + 1) scope.names (cloFrom X.env.cells scope.names [])) s3.heap.objs.size X.env) fp E) L (fun cls d _ H => WW cls d σ H) u s' → E u s' := fun u s' x => by
    rw [hE]
    obtain ⟨a, B, sI, pinsb, σb, Hb, cls, d, e, Ib, r⟩ := x
    exact ⟨a, B, sI, pinsb, σb, Hb, cls, d, e, Inv.reX Ib rfl Ib.pin, r⟩
  have I4 := block_startX (E := E) I3 ok hN f3
  have pg := hg s3 (upd H2 D (.lst [])) s3.heap.objs.size (cellsFrom (s3.heap.objs.size + 1) scope.names (cloFrom X.env.cells scope.names [])) fp E
  have pt := ht σ s3 (upd H2 D (.lst [])) s3.heap.objs.size (cellsFrom (s3.heap.objs.size + 1) scope.names (cloFrom X.env.cells scope.names [])) fp E toE
  have pe := he σ s3 (upd H2 D (.lst [])) s3.heap.objs.size (cellsFrom (s3.heap.objs.size + 1) scope.names (cloFrom X.env.cells scope.names [])) fp E toE
  have cL : (compEnvC scope (cellsFrom (s3.heap.objs.size + 1) scope.names (cloFrom X.env.cells scope.names [])) s3.heap.objs.size X.env).locals = s3.heap.objs.size := rfl
  have cF : (compEnvC scope (cellsFrom (s3.heap.objs.size + 1) scope.names (cloFrom X.env.cells scope.names [])) s3.heap.objs.size X.env).frame = X.env.frame := rfl
  generalize compEnvC scope (cellsFrom (s3.heap.objs.size + 1) scope.names (cloFrom X.env.cells scope.names [])) s3.heap.objs.size X.env = ce at I4 pg pt pe cL cF hE ⊢
  generalize hH3 : upd H2 D (.lst []) = H3 at I3 I4 pg pt pe w0 nfp f3 hE
  clear toE
  have leave : ∀ u s', E u s' → notedBy (model X.prog X.w) X.A ce (fun e s' => compX (model X.prog X.w) X.A X.xe use Qf (.ref D) ce (.error e) s') u s' := fun u s' z => by
    rw [hE] at z
    exact block_out fr ‹_› I3 cL cF (fun b hb => (f3 b hb).1) z
  generalize hs4 : ({ s3 with heap := pushCells (s3.heap.push { cls := .type "dict", data := .dict #[] }) scope.names } : Shared) = s4 at I4 ⊢
  have st4 : tn 0 s4.heap := T.keep _ _ _ st3 fun b _ o e => by rw [← hs4]; exact pushCells_keeps _ _ _ _ (Heap.get?_push_of_some _ e)
  have hcb : CalmH (blkX X s3 H3 scope ce fp E) := hc.blk
  have stat : ∀ {σ' : L2.St} {H' : Hp} {s' : Shared}, Inv (blkX X s3 H3 scope ce fp E) [] σ' H' s' → (∀ b ∈ fp, H' b = none) → ∀ b ∈ fp, FpOk (blkX X s3 H3 scope ce fp E) [] H' b := fun {σ' H' s'} I' hn b hb =>
    ⟨hn b hb, (I'.ok.exf b hb).1, I'.ok.exfs b hb, .inl hb, fun x c e => (I'.ok.exf b hb).2 x c e, fun p hp => (f3 b hb).1.2.2.2.2.2 p (List.mem_append_left _ (by simpa using hp))⟩
  have loop : codeAny (model X.prog X.w) X.A (.compLoop (.ListComp elt [⟨tg, iter, ifs, 0⟩] scope pos) 0 (.ref it) (.ref D) ce) (compX (model X.prog X.w) X.A X.xe use Qf (.ref D) ce) s4 := by
    refine compLoop_any (fun n s' => ∃ i H', Inv (blkX X s3 H3 scope ce fp E) [] (L2.wipe σ (own.map (·.2))) H' s' ∧ tn i s'.heap ∧ (∀ b ∈ fp, H' b = none) ∧ W i n H') ?_ m0 ⟨0, H3, I4, st4, nfp, w0⟩
    rintro n s5 ⟨i, H5, I5, st5, n5, w5⟩
    rcases turn i n H5 w5 with ⟨stop, qq⟩ | ⟨go, Nx, hNx, step⟩
    · have td := T.done (blkX X s3 H3 scope ce fp E) rfl rfl rfl hcb i [] s5 _ H5 (fun _ _ => False) I5 (stat I5 n5) st5 stop
      refine thnF td fun r s6 ⟨hr, I6⟩ => ?_
      subst hr
      have I7 : Inv X pins σ H5 s6 := I3.call' (ch := fp) I6.os I6.base I6.hok I6.bare fun b hb => ⟨(f3 b hb).1.2.2.2.1, (f3 b hb).1.2.1, (f3 b hb).1.2.2.2.2.1, (f3 b hb).1.2.2.2.2.2⟩
      have nC : H5 ce.locals = none := I6.free
      obtain ⟨m, hn, _⟩ := I6.loc
      exact hRR D ce.locals s6 m H5 I7 qq hn (I3.fpOk (by rw [cL]; exact Nat.le_refl _) nC)
    · have ti := T.item (blkX X s3 H3 scope ce fp E) rfl rfl rfl hcb i [] s5 _ H5 (fun _ _ => False) I5 (stat I5 n5) st5 go
      refine thnF ti fun r s6 ⟨u, hr, h6⟩ => ?_
      subst hr
      refine thnF h6 fun _ s7 ⟨x, H7, I7, r7, y7, st7, n7⟩ => ?_
      have I7' := I7.pinned (stat I7 n7) (T.obj _ _ st7)
      refine wpAny_mono (pg.run _ s7 _ H7 x u _ I7' r7 (step x H7 y7)) (fun _ s8 ⟨σ8, H8, I8, hw8, q8⟩ => ?_) leave
      refine wpAny_mono (pt.run _ s8 σ8 H8 _ I8 q8) (fun b s9 ⟨H9, I9, q9⟩ => ?_) leave
      have fin : ∀ {s' : Shared} {H' : Hp}, Inv (blkX X s3 H3 scope ce fp E) ([] ++ pinsAt fp s7.heap) σ8 H' s' → Nx H' → ∃ m, m < n ∧ ∃ i H', Inv (blkX X s3 H3 scope ce fp E) [] (L2.wipe σ (own.map (·.2))) H' s' ∧ tn i s'.heap ∧ (∀ b ∈ fp, H' b = none) ∧ W i m H' := fun {s' H'} I' nx => by
        obtain ⟨m', hm, w'⟩ := hNx H' nx
        have pin' : ∀ b ∈ fp, ∀ o, s7.heap.get? b = some o → s'.heap.get? b = some o ∧ H' b = none := fun b hb o e =>
          have z := I'.pin (b, o) (List.mem_append_right _ (List.mem_append_right _ (mem_pinsAt hb e)))
          ⟨z.1, z.2.1⟩
        refine ⟨m', hm, i + 1, H', (I'.unpinned (pins := [])).weak (by rw [← hw8, wipe_length]) (fun j v e => ?_), T.keep _ _ _ st7 fun b hb o e => (pin' b hb o e).1, fun b hb => ?_, w'⟩
        · rw [← hw8] at e
          exact (wipe_some e).1
        · obtain ⟨o, e, _⟩ := T.obj _ _ st7 b hb
          exact (pin' b hb o e).2
      cases b with
      | false =>
        rw [if_neg Bool.false_ne_true] at q9 ⊢
        exact fin I9 q9
      | true =>
        rw [if_pos rfl] at q9 ⊢
        refine wpAny_mono (pe.run _ s9 σ8 H9 _ I9 q9) (fun z s10 ⟨yv, H10, I10, r10, acc, hD10, hz10, nx⟩ => ?_) leave
        exact app_ok (X := blkX X s3 H3 scope ce fp E) I10 hD10 hz10 r10 fun s11 I11 => fin I11 nx
  exact codeAny_compStart_list loop (T.self X.A 0 _ _ _ st4 loop)
theorem pe_lcx {X : Cx} {elt tg iter : Expr} {ifs : List Expr} {scope : Scope} {own : List (Str × Nat)} {pos : Pos} {wi : TI} {g : TG} {tt : L2.St → TT} {te : L2.St → TE} {L : Addr} {WW : WX}
    (hc : CalmH X) (fr : Frm X L) (hx : ∀ u s', ExE X L WW u s' → X.xe u s') (hN : X.N.Nodup) (hi : PIQ X tg iter wi) (ok : BlkOk X.N X.env.scope scope own)
    (hg : ∀ (s : Shared) (H : Hp) (C : Addr) (cl : List (Str × Addr)) (fp : List Addr) (E : Value → Shared → Prop), PG (blkX X s H scope (compEnvC scope cl C X.env) fp E) tg g)
    (ht : ∀ (σ : L2.St) (s : Shared) (H : Hp) (C : Addr) (cl : List (Str × Addr)) (fp : List Addr) (E : Value → Shared → Prop), (∀ u s', ExE (blkX X s H scope (compEnvC scope cl C X.env) fp E) L (fun cls d _ H => WW cls d σ H) u s' → E u s') → PTs (blkX X s H scope (compEnvC scope cl C X.env) fp E) ifs (tt σ))
    (he : ∀ (σ : L2.St) (s : Shared) (H : Hp) (C : Addr) (cl : List (Str × Addr)) (fp : List Addr) (E : Value → Shared → Prop), (∀ u s', ExE (blkX X s H scope (compEnvC scope cl C X.env) fp E) L (fun cls d _ H => WW cls d σ H) u s' → E u s') → PE (blkX X s H scope (compEnvC scope cl C X.env) fp E) elt (te σ))
    (hs : ∀ x, foldedSetIterable iter X.env x = pure x) : PE X (.ListComp elt [⟨tg, iter, ifs, 0⟩] scope pos) (tLcX wi g tt te (own.map (·.2))) := by
  refine ⟨fun pins s σ H Q I h => ?_⟩
  rw [eval_ListComp]
  refine lcx_core hc fr hx hN I hi ok hg ht he hs h fun D C s' m H' I' q hn ⟨f0, f1, f2, f3, f4, f5⟩ => ⟨m, hn, fun h'' sb => ?_⟩
  exact ⟨.ref D, H', I'.turned (t' := s'.toks) (fun b o hb e => (sb.2 b hb).trans e) f0 f1 f3 f4 f5, rfl, q⟩
theorem ps_setLcX {X : Cx} {i : Nat} {y : Str} {py : Pos} {elt tg iter : Expr} {ifs : List Expr} {scope : Scope} {own : List (Str × Nat)} {pos spos : Pos} {wi : TI} {g : TG} {tt : L2.St → TT} {te : L2.St → TE} {L : Addr} {WW : WX}
    (hc : CalmH X) (fr : Frm X L) (hx : ∀ u s', ExE X L WW u s' → X.xe u s') (hN : X.N.Nodup) (hy : X.N[i]? = some y) (hyl : X.env.scope.names.lookup y = some .local) (hsw : swapsWith (.ListComp elt [⟨tg, iter, ifs, 0⟩] scope pos) (some (.Name y py)) spos.line X.env = pure true)
    (hi : PIQ X tg iter wi) (ok : BlkOk X.N X.env.scope scope own)
    (hg : ∀ (s : Shared) (H : Hp) (C : Addr) (cl : List (Str × Addr)) (fp : List Addr) (E : Value → Shared → Prop), PG (blkX X s H scope (compEnvC scope cl C X.env) fp E) tg g)
    (ht : ∀ (σ : L2.St) (s : Shared) (H : Hp) (C : Addr) (cl : List (Str × Addr)) (fp : List Addr) (E : Value → Shared → Prop), (∀ u s', ExE (blkX X s H scope (compEnvC scope cl C X.env) fp E) L (fun cls d _ H => WW cls d σ H) u s' → E u s') → PTs (blkX X s H scope (compEnvC scope cl C X.env) fp E) ifs (tt σ))
    (he : ∀ (σ : L2.St) (s : Shared) (H : Hp) (C : Addr) (cl : List (Str × Addr)) (fp : List Addr) (E : Value → Shared → Prop), (∀ u s', ExE (blkX X s H scope (compEnvC scope cl C X.env) fp E) L (fun cls d _ H => WW cls d σ H) u s' → E u s') → PE (blkX X s H scope (compEnvC scope cl C X.env) fp E) elt (te σ))
    (hs : ∀ x, foldedSetIterable iter X.env x = pure x) : PS X (.Assign [.Name y py] (.ListComp elt [⟨tg, iter, ifs, 0⟩] scope pos) spos) (tAsg (tLcX wi g tt te (own.map (·.2))) (gName i)) := by
  refine ⟨fun pins s σ H D I h => ?_⟩
  have h : tLcX wi g tt te (own.map (·.2)) σ H (fun x H1 => gName i x σ H1 D.nx) := h
  rw [exec_Assign_Name_used _ _ _ _ hsw]
  refine wpAny_bind (wpAny_standAt (wpAny_bind ?_))
  show wpAny _ X.A (do let _ ← comprehension (.ListComp elt [⟨tg, iter, ifs, 0⟩] scope pos) scope X.env (firstIterPos [⟨tg, iter, ifs, 0⟩] pos) (newList []) false (eval iter X.env) (some (assign (.Name y py) X.env))) _ _ s
  refine wpAny_bind (thn (lcx_core (Qf := fun _ s' => SP X pins D .next s') hc fr hx hN I hi ok hg ht he hs h fun L C s' m H' I' q hn ⟨f0, f1, f2, f3, f4, f5⟩ => ?_) fun _ s' hq => wpAny_pure (wpAny_pure hq))
  show wpAny _ _ (assign (.Name y py) X.env (.ref L)) _ _ _
  refine wpAny_assign_Name (store_ok2 (v := V.ref L) I' hN hy (.inl hyl) rfl (fun s2 I2 ⟨a, sb, ha⟩ => ?_) (.inr hyl))
  have ne : C ≠ a := ha.elim (fun z => z ▸ f1) fun z e => f4 y a z e.symm
  exact ⟨m, hn.sameBut sb ne, fun h3 sb3 => ⟨_, H', I2.turned (t' := s2.toks) (fun b o hb e => (sb3.2 b hb).trans e) f0 f1 f3 f4 f5, q⟩⟩

/-! ### walks over lists, tuples, ranges -/
def iSq (K : PySem.W.Frag) (tl : TE) : TI := fun σ H R => tl σ H fun x H1 => ∃ a, x = .ref a ∧ (((∃ xs, SqL K H1 a xs) ∧ R (Itl K a) H1) ∨ ((∃ xs, SqT K H1 a xs) ∧ R (Itt K a) H1))
theorem pi_sqQ {X : Cx} {tg l : Expr} {tl : TE} (hl : PE X l tl) : PIQ X tg l (iSq X.K tl) := by
  refine ⟨fun pins s σ H R I h => thn (hl.run pins s σ H _ I h) ?_⟩
  rintro v s1 ⟨x, H1, J, rx, a, rfl, q⟩
  have rx : v = Value.ref a := rx
  subst rx
  have fresh := J.hok.fresh (Nat.le_refl s1.heap.objs.size)
  have kept : ∀ o : Obj, Inv X pins σ H1 { s1 with heap := s1.heap.push o } := fun o => J.kept (t' := s1.toks) fun b u e => Heap.get?_push_of_some _ e
  have fp : ∀ b ∈ [s1.heap.objs.size], FpOk X pins H1 b := fun b hb => by
    rw [List.mem_singleton] at hb
    rw [hb]
    exact J.fpOk (Nat.le_refl _) fresh
  rcases q with ⟨⟨xs, hq⟩, q⟩ | ⟨⟨xs, hq⟩, q⟩
  · obtain ⟨its, rv, p, hz⟩ := J.list hq
    exact wpAny_pyIter_list p.isList ⟨_, _, _, _, H1, rfl, kept _, .both (turn_list a _) (turn_listH a _), ⟨_, Heap.get?_push_size _ rfl, rfl, rfl⟩, fp, q⟩
  · obtain ⟨its, rv, p, hz⟩ := J.tuple hq
    exact wpAny_pyIter_tuple (show s1.heap.IsTuple a its.toArray from p) ⟨_, _, _, _, H1, rfl, kept _, .both (turn_tuple a _) (turn_tupleH a _), ⟨_, Heap.get?_push_size _ rfl, rfl, rfl⟩, fp, q⟩
theorem rng_q {X : Cx} {tg : Expr} {pins : List (Addr × Obj)} {σ : L2.St} {H : Hp} {s : Shared} {R : L2.It → Hp → Prop} {E : Value → Shared → Prop} {lo hi : Int} {t u v : Tok} {tk : Nat} (I : Inv X pins σ H s) (b : (-(2 ^ 62) ≤ lo ∧ lo < 2 ^ 62) ∧ -(2 ^ 62) ≤ hi ∧ hi < 2 ^ 62) (q : R (Itr lo (hi - lo).toNat) H) :
    wpAny (model X.prog X.w) X.A (pyIter (.ref s.heap.objs.size)) (PIEQ X pins σ tg R) E { s with heap := s.heap.push { cls := .type "range", data := .fields #[.int lo t, .int hi u, .int 1 v] }, toks := tk } := by
  refine wpAny_pyIter_range (IsRange.new ..) (small_one b.1.1 b.1.2 b.2.1 b.2.2) ?_
  have I1 : Inv X pins σ H { s with heap := s.heap.push { cls := .type "range", data := .fields #[.int lo t, .int hi u, .int 1 v] }, toks := tk } := I.kept fun b o e => Heap.get?_push_of_some _ e
  refine ⟨_, [_], _, _, H, rfl, I1.kept (t' := tk) fun b o e => Heap.get?_push_of_some _ e, .both (turn_range _ lo (hi - lo).toNat) (L2H.turn_rangeH _ lo (hi - lo).toNat), ?_, fun b hb => ?_, q⟩
  · have e2 : (((hi - lo).toNat : Nat) : Int) - ((0 : Nat) : Int) = Builtin.Range.rangeSize lo hi 1 := by
      rw [rangeSize_one]
      split <;> omega
    show IsRangeIter _ _ (lo + ((0 : Nat) : Int) * 1) ((((hi - lo).toNat : Nat) : Int) - ((0 : Nat) : Int)) 1
    rw [e2, show lo + ((0 : Nat) : Int) * 1 = lo from by simp]
    exact Heap.get?_push_size _ rfl
  · rw [List.mem_singleton] at hb
    rw [hb]
    exact I1.fpOk (Nat.le_refl _) (I1.hok.fresh (Nat.le_refl _))
theorem pi_rng1Q {X : Cx} {tg a : Expr} {ta : TA} {p pos : Pos} (hg : Gl X "range") (hm : X.mg "range" = none) (ha : PA X [a] ta) (hs : starEach [a] X.env = [(false, eval a X.env)]) : PIQ X tg (.Call (.Name "range" p) [a] [] pos) (iRng1 ta) := by
  refine ⟨fun pins s σ H R I h => Call_ (ld_blt I hg hm boot_range (PyProof.Rows.callWith_type1 (thn (ha.run pos pins s σ H _ I h) ?_) hs rfl))⟩
  rintro us s1 ⟨vs, H1, I1, r1, j, rfl, q1, q2, q⟩
  cases r1 with
  | cons r rr =>
    cases rr
    obtain ⟨t, rfl⟩ := r
    exact call_range_1 (rng_q I1 ⟨⟨by omega, by omega⟩, q1, q2⟩ (by simpa using q))
theorem pi_rng2Q {X : Cx} {tg a b : Expr} {ta : TA} {p pos : Pos} (hg : Gl X "range") (hm : X.mg "range" = none) (ha : PA X [a, b] ta) (hs : starEach [a, b] X.env = [(false, eval a X.env), (false, eval b X.env)]) (hs2 : starEach [b] X.env = [(false, eval b X.env)]) :
    PIQ X tg (.Call (.Name "range" p) [a, b] [] pos) (iRng2 ta) := by
  refine ⟨fun pins s σ H R I h => Call_ (ld_blt I hg hm boot_range (PyProof.Rows.callWith_type1 (thn (ha.run pos pins s σ H _ I h) ?_) (by rw [hs, hs2]) (by rw [hs2]; rfl)))⟩
  rintro us s1 ⟨vs, H1, I1, r1, i, j, rfl, ⟨q1, q2, q3, q4⟩, q⟩
  cases r1 with
  | cons r rr =>
    cases rr with
    | cons r' rr =>
      cases rr
      obtain ⟨t, rfl⟩ := r
      obtain ⟨t', rfl⟩ := r'
      exact call_range_2 (rng_q I1 ⟨⟨q1, q2⟩, q3, q4⟩ q)
theorem ps_forQ {X : Cx} {tg iter : Expr} {body : List Stmt} {wi : TI} {g : TG} {tb : TS} {pos : Pos} (po : PassesOwn (model X.prog X.w) X.A X.env X.xe) (hc : CalmH X) (hi : PIQ X tg iter wi) (hg : PG X tg g) (hb : PSs X body tb) (hs : ∀ x, foldedSetIterable iter X.env x = pure x) :
    PS X (.For tg iter body [] pos) (tFor wi g tb) := by
  refine ⟨fun pins s σ H D I h => wpAny_For (thn (hi.run pins s σ H _ I h) fun v s1 h1 => thn h1 ?_) hs⟩
  rintro itv s2 ⟨it, fp, tn, J, H2, rfl, I2, T, st2, f2, W, ⟨m0, w0⟩, turn⟩
  have stat : ∀ {H' : Hp}, (∀ b ∈ fp, H' b = none) → ∀ b ∈ fp, FpOk X pins H' b := fun hn b hb => ⟨hn b hb, (f2 b hb).2⟩
  refine codeAny_forLoop_any (fun n s' => ∃ i σ' H', Inv X pins σ' H' s' ∧ tn i s'.heap ∧ (∀ b ∈ fp, H' b = none) ∧ W i n σ' H') ?_ m0 ⟨0, σ, H2, I2, st2, fun b hb => (f2 b hb).1, w0⟩
  rintro n s3 ⟨i, σ3, H3, I3, st3, fr3, w3⟩
  rcases turn i n σ3 H3 w3 with ⟨stop, qn⟩ | ⟨go, N, hN, step⟩
  · refine wpAny_passesOwn po (thn (T.done X rfl rfl rfl hc i pins s3 σ3 H3 X.xe I3 (stat fr3) st3 stop) ?_)
    rintro r s4 ⟨rfl, I4⟩
    exact wpAny_execs_nil ⟨σ3, H3, I4, qn⟩
  · refine wpAny_passesOwn po (thn (T.item X rfl rfl rfl hc i pins s3 σ3 H3 X.xe I3 (stat fr3) st3 go) ?_)
    rintro r s4 ⟨u, rfl, h4⟩
    refine wpAny_passesOwn po (thn h4 fun _ s5 ⟨x, H5, I5, r5, y5, st5, fr5⟩ => ?_)
    have I5' := I5.pinned (stat fr5) (T.obj _ _ st5)
    refine wpAny_passesOwn po (thn (hg.run _ s5 σ3 H5 x u _ I5' r5 (step x H5 y5)) fun _ s6 ⟨σ6, H6, I6, q6⟩ => ?_)
    refine wpAny_passesOwn po (thn (hb.run _ s6 σ6 H6 _ I6 q6) fun f s7 q7 => ?_)
    have again : ∀ {σ7 : L2.St} {H7 : Hp}, Inv X (pins ++ pinsAt fp s5.heap) σ7 H7 s7 → N σ7 H7 → ∃ m, m < n ∧ ∃ i σ' H', Inv X pins σ' H' s7 ∧ tn i s7.heap ∧ (∀ b ∈ fp, H' b = none) ∧ W i m σ' H' := fun {σ7 H7} I7 n7 => by
      obtain ⟨m', hm, w7⟩ := hN σ7 H7 n7
      have held : ∀ b ∈ fp, ∀ o, s5.heap.get? b = some o → s7.heap.get? b = some o ∧ H7 b = none := fun b hb o e =>
        have z := I7.pin (b, o) (List.mem_append_right _ (List.mem_append_right _ (mem_pinsAt hb e)))
        ⟨z.1, z.2.1⟩
      refine ⟨m', hm, i + 1, σ7, H7, I7.unpinned, T.keep _ _ _ st5 fun b hb o e => (held b hb o e).1, fun b hb => ?_, w7⟩
      obtain ⟨o, e, d⟩ := T.obj _ _ st5 b hb
      exact (held b hb o e).2
    cases f with
    | next => obtain ⟨σ7, H7, I7, n7⟩ := q7; exact again I7 n7
    | cont => obtain ⟨σ7, H7, I7, n7⟩ := q7; exact again I7 n7
    | brk => obtain ⟨σ7, H7, I7, q7⟩ := q7; exact ⟨σ7, H7, I7.unpinned, q7⟩
    | ret v => obtain ⟨x7, σ7, H7, I7, r7, q7⟩ := q7; exact ⟨x7, σ7, H7, I7.unpinned, r7, q7⟩
end VM
/-! VM4: expressions. -/
namespace VM
open PySem L2 PySem.Spec PyProof.Rows

/-! ### names of a text -/
structure Tx where
  fs : List (Str × List Str)
  cs : List Str
  gl : List Str
def bis : List Str := ["len", "sum", "abs", "int", "divmod", "all", "isinstance", "range", "bool", "str", "list", "tuple", "dict", "ValueError"]
def tnS : Tn → String
  | .none => "NoneType" | .bool => "bool" | .int => "int" | .str => "str" | .list => "list" | .tuple => "tuple" | .dict => "dict"
def allTn : List Tn := [.none, .bool, .int, .str, .list, .tuple, .dict]
theorem mem_allTn (t : Tn) : t ∈ allTn := by cases t <;> decide
/-- what is known of the written part -/
structure Sk (T : Tab) (Γ : Tx) (nm : Nm) (K : PySem.W.Frag) (mg : Str → Option Value) : Prop where
  ln : Γ.cs.length = T.up.length
  fn : ∀ (f : Nat) (x : Str) (ps : List Str), Γ.fs[f]? = some (x, ps) → mg x = some (.ref (nm.fa f)) ∧ PySem.W.keepIn K (.ref (nm.fa f)) = true
  free : ∀ x ∈ bis, mg x = none
  gl : ∀ (g : Nat) (x : Str), Γ.gl[g]? = some x → ∃ (v : V) (u : Value), mg x = some u ∧ RelV v u ∧ ∀ (W : Wd) (ρ : List Addr) (G : Hp), W.K = K → Fz W ρ G (T.glob.getD g .non) v
  cl : ∀ (c : Nat) (x : Str), Γ.cs[c]? = some x → mg x = some (.ref (nm.ca c)) ∧ PySem.W.keepIn K (.ref (nm.ca c)) = true
  ct : ∀ (c : Nat) (x : Str) (t : Tn), Γ.cs[c]? = some x → PySem.W.kitOne K (.type (tnS t)) (.ref (nm.ca c)) = some false
  ex : ∀ (c : Nat) (x : Str), Γ.cs[c]? = some x → PySem.W.excIn K (nm.ca c) [.type "ValueError", .type "Exception", .type "BaseException", .type "object"] "ValueError.__new__" = true ∧ PySem.W.subIn K (.ref (nm.ca c)) (.type "BaseException") = some true ∧ PySem.W.typeIn K (.ref (nm.ca c)) = some (.type "type") ∧ ExcC K (nm.ca c) ∧ PySem.W.kitOne K (.ref (nm.ca c)) (.type "ValueError") = some true
  ee : ∀ (c c' : Nat) (x x' : Str), Γ.cs[c]? = some x → Γ.cs[c']? = some x' → PySem.W.kitOne K (.ref (nm.ca c)) (.ref (nm.ca c')) = some (subC T.up 9 c c') ∧ PySem.W.exmOne K (.ref (nm.ca c)) (.ref (nm.ca c')) = some (subC T.up 9 c c')

/-! ### calls -/
/-- how a call's answer stands for its caller -/
def ResC (W : Wd) (Fr : Hp) (ρ : List Addr) (G : Hp) (H : Hp) (r : KD) (v : V) : Prop :=
  match r.k with
  | .f => Fz W ρ G r.d v
  | .n => ∃ p, v = .ref p ∧ New W Fr ρ G H r.d p
  | .b => False
def AftC (W : Wd) (Fr : Hp) (ρ : List Addr) (G : Hp) (R : Rs KD) (Q : VK) (E : XK) : Prop :=
  match R with
  | .ok r M => ∀ (ρ' : List Addr) (G' : Hp) (v : V) (H' : Hp), Rle ρ ρ' → Hle G G' → MRel W Fr ρ' G' M H' → ResC W Fr ρ' G' H' r v → Q v H'
  | .ex C M => ∀ (ρ' : List Addr) (G' : Hp) (H' : Hp), Rle ρ ρ' → Hle G G' → MRel W Fr ρ' G' M H' → E (.ref (W.ca C)) none H'
  | .stk => False
def spC (W : Wd) (Φ : Nat → List D → Mem → Rs KD) (f np : Nat) : Sp := fun vs H Q E => vs.length = np ∧ ∃ (Fr : Hp) (ρ : List Addr) (G : Hp) (M : Mem) (ds : List D),
  MRel W Fr ρ G M H ∧ Fzs W ρ G ds vs ∧ AftC W Fr ρ G (Φ f ds M) Q E
/-- what a def promises where an exception is handled -/
structure FnX (P : Program) (w : World) (K : PySem.W.Frag) (mg : Str → Option Value) (base : Heap) (CX : CXT) (k : Nat) (f : Addr) (fd : FuncData) (ps : List Str) (cls : Value) (sp : Addr → Sp) : Prop where
  len : ∀ a vs H Q E, sp a vs H Q E → vs.length = ps.length
  run : ∀ (A : Around) (outer : List Env) (s : Shared) (H : Hp) (args : Args) (us : List Value) (vs : List V) (Q : VK) (E : XK) (p : Addr × Obj), L2H.RoomH k A → L2H.Hot1 A p → L2H.PinOk outer H s p → Zc cls none p.2 →
    Env0 P w K mg base A outer s H → BindsTo s fd args (ps.zip us) → Vals vs us → sp p.1 vs H Q E → codeAny (model P w) A (.call (.ref f) args) (CR CX outer P w H s Q E) s
structure Cok (T : Tab) (Φ : Hot → Nat → List D → Mem → Rs KD) (Γ : Tx) (nm : Nm) (n : Nat) (N : List Str) (sc : Scope) (hot : Hot) (xa : Option Addr) (WW : WX) (X : Cx) : Prop where
  N : X.N = N
  nd : X.N.Nodup
  sc : X.env.scope = sc
  sk : Sk T Γ nm X.K X.mg
  fx : ∃ L, Frm X L ∧ ∀ u s', ExE X L WW u s' → X.xe u s'
  un : X.A.units + 64 < cLine
  mode : match hot with
    | none => xa = none ∧ X.calm = true ∧ Room n X.A
    | some c => ∃ p : Addr × Obj, (xa = none ∨ xa = some p.1) ∧ p ∈ X.pn ∧ L2H.Hot1 X.A p ∧ Zc (.ref (nm.ca c)) none p.2 ∧ (∃ x, Γ.cs[c]? = some x) ∧ L2H.RoomH n X.A
  ar : ∀ (h : Hot) (f : Nat) (x : Str) (ps : List Str) (ds : List D) (M : Mem), Γ.fs[f]? = some (x, ps) → ds.length ≠ ps.length → Φ h f ds M = .stk
  fk : ∀ (f : Nat) (x : Str) (ps : List Str), Γ.fs[f]? = some (x, ps) → ∃ fd, Binds X.K fd ps [] ∧
    FnOk X.prog X.w X.K X.mg X.base (L2N.CX X.prog X.w) n (nm.fa f) fd ps (spC (wd X nm none) (Φ none) f ps.length) ∧
    ∀ (c : Nat) (z : Str), Γ.cs[c]? = some z → FnX X.prog X.w X.K X.mg X.base (L2N.CX X.prog X.w) n (nm.fa f) fd ps (.ref (nm.ca c)) fun a vs H Q E => ∃ xa, (xa = none ∨ xa = some a) ∧ spC (wd X nm xa) (Φ (some c)) f ps.length vs H Q E

section
variable {W : Wd} {WW : WX} {Fr : Hp} {ρ : List Addr} {G : Hp} {σs : List SV} {M : Mem} {σ : L2.St} {H : Hp}
open Classical in
/-- what a callee may not touch -/
noncomputable def ownH (Fr : Hp) (σs : List SV) (σ : L2.St) (H : Hp) : Hp := fun a => if (∃ i, Own σs σ i a) then H a else Fr a
theorem Rel.callee (r : Rel W Fr ρ G σs M σ H) : MRel W (ownH Fr σs σ H) ρ G M H where
  gh := r.gh
  fh := fun a o e => by
    unfold ownH at e
    split at e
    · exact e
    · exact r.fh _ _ e
  gf := fun a o e => by
    unfold ownH at e
    split at e
    · rename_i h
      obtain ⟨i, d, e1, e2⟩ := h
      obtain ⟨p, e3, n⟩ := r.own i d e1
      rw [e2] at e3; cases e3
      exact n.g
    · exact r.gf _ _ e
  len := r.len
  mem := fun i a d e1 e2 => by
    obtain ⟨ho, h1, h2, h3, h4⟩ := r.mem i a d e1 e2
    refine ⟨ho, h1, h2, h3, ?_⟩
    unfold ownH
    rw [if_neg]
    · exact h4
    · rintro ⟨j, d', e3, e4⟩
      obtain ⟨p, e5, n⟩ := r.own j d' e3
      rw [e4] at e5; cases e5
      exact n.r (List.mem_of_getElem? e1)
  nd := r.nd
theorem Rel.back {ρ' : List Addr} {G' : Hp} {M' : Mem} {H' : Hp} (r : Rel W Fr ρ G σs M σ H) (hr : Rle ρ ρ') (hg : Hle G G') (m : MRel W (ownH Fr σs σ H) ρ' G' M' H') : Rel W Fr ρ' G' σs M' σ H' := by
  have own : ∀ {i p}, Own σs σ i p → ∃ ho, H p = some ho ∧ H' p = some ho ∧ G' p = none ∧ p ∉ ρ' ∧ ownH Fr σs σ H p = some ho := fun {i p} h => by
    obtain ⟨d, e1, e2⟩ := id h
    obtain ⟨q, e3, n⟩ := r.own i d e1
    rw [e2] at e3; cases e3
    obtain ⟨ho, e, _⟩ := n.at_
    have eo : ownH Fr σs σ H p = some ho := by unfold ownH; rw [if_pos ⟨i, h⟩]; exact e
    refine ⟨ho, e, m.fh _ _ eo, m.gf _ _ eo, fun hm => ?_, eo⟩
    obtain ⟨j, hj, ej⟩ := List.getElem_of_mem hm
    have hm' : j < M'.length := by rw [m.len]; exact hj
    obtain ⟨_, _, _, _, h4⟩ := m.mem j p M'[j] (by rw [List.getElem?_eq_getElem hj, ej]) (List.getElem?_eq_getElem hm')
    rw [eo] at h4; cases h4
  have fr : ∀ a o, Fr a = some o → ownH Fr σs σ H a = some o := fun a o e => by
    unfold ownH
    split
    · exact r.fh _ _ e
    · exact e
  refine ⟨⟨m.gh, fun a o e => m.fh _ _ (fr a o e), fun a o e => m.gf _ _ (fr a o e), m.len, fun i a d e1 e2 => ?_, m.nd⟩, r.sl, fun i d e => ?_, fun i d e => ?_, r.self, r.uniq⟩
  · obtain ⟨ho, h1, h2, h3, h4⟩ := m.mem i a d e1 e2
    refine ⟨ho, h1, h2, h3, ?_⟩
    cases q : Fr a with
    | none => rfl
    | some o => rw [fr _ _ q] at h4; cases h4
  · obtain ⟨v, h1, h2⟩ := r.val i d e
    exact ⟨v, h1, h2.mono hr hg⟩
  · obtain ⟨p, e1, n⟩ := r.own i d e
    obtain ⟨ho, h1, h2, h3, h4, _⟩ := own ⟨d, e, e1⟩
    exact ⟨p, e1, n.mono hr hg (fun o eo => by rw [h1] at eo; cases eo; exact h2) h3 h4⟩
/-- a call's end, for the caller -/
theorem Aft.toC {R : Rs KD} {Q : VK} (r : Rel W Fr ρ G σs M σ H) (h : Aft W WW Fr (RRk W Fr) ρ G σs σ R Q) : AftC W (ownH Fr σs σ H) ρ G R Q (fun c d H' => WW c d σ H') := by
  cases R with
  | ok a M' =>
    obtain ⟨k, d⟩ := a
    intro ρ' G' v H' hr hg m k'
    refine h ρ' G' v H' hr hg (r.back hr hg m) ?_
    cases k with
    | f => exact k'
    | n =>
      obtain ⟨p, e, n⟩ := k'
      have nf : ∀ i, ¬ Own σs σ i p := fun i hi => by
        have : ownH Fr σs σ H p = H p := by unfold ownH; rw [if_pos ⟨i, hi⟩]
        obtain ⟨d', e1, e2⟩ := hi
        obtain ⟨q, e3, n'⟩ := r.own i d' e1
        rw [e2] at e3; cases e3
        obtain ⟨ho, e4, _⟩ := n'.at_
        have := this.symm.trans n.f
        rw [e4] at this; cases this
      refine ⟨p, e, ⟨n.at_, n.g, ?_, n.r⟩, nf⟩
      have nn := n.f
      unfold ownH at nn
      rw [if_neg (fun ⟨i, hi⟩ => nf i hi)] at nn
      exact nn
    | b => exact k'.elim
  | ex C M' => exact fun ρ' G' H' hr hg m => h ρ' G' H' hr hg (r.back hr hg m)
  | stk => exact h
end

/-! ### what a checked text is -/
def visC (sc : Scope) (x : Str) : Bool :=
  match sc.names.lookup x with
  | some .local => true
  | some .cell => true
  | some .free => true
  | _ => false
def gloC (sc : Scope) (x : Str) : Bool :=
  match sc.names.lookup x with
  | some .globalImplicit => true
  | _ => false
def locC (sc : Scope) (x : Str) : Bool :=
  match sc.names.lookup x with
  | some .local => true
  | some .cell => true
  | _ => false
theorem visC_ok {sc : Scope} {x : Str} (h : visC sc x = true) : Vis sc x := by
  unfold visC at h
  unfold Vis
  split at h <;> simp_all
theorem gloC_ok {sc : Scope} {x : Str} (h : gloC sc x = true) : sc.names.lookup x = some .globalImplicit := by
  unfold gloC at h
  split at h <;> simp_all
theorem locC_ok {sc : Scope} {x : Str} (h : locC sc x = true) : sc.names.lookup x = some .local ∨ sc.names.lookup x = some .cell := by
  unfold locC at h
  split at h <;> simp_all
def plainN (x : Str) : Bool := !(x == ("__debug__" : Str)) && !(x == ("__classdict__" : Str)) && !(x == ("__name__" : Str))
theorem plainN_ok {x : Str} (h : plainN x = true) : (x == ("__debug__" : Str)) = false ∧ (x == ("__classdict__" : Str)) = false ∧ x ≠ "__name__" := by
  unfold plainN at h
  simp only [Bool.and_eq_true, Bool.not_eq_true'] at h
  exact ⟨h.1.1, h.1.2, fun z => by rw [z] at h; simp at h⟩
/-- no star -/
def noStar : Expr → Bool
  | .Starred _ _ => false
  | _ => true
theorem star_cons {e : Expr} {es : List Expr} {env : Env} (h : noStar e = true) : starEach (e :: es) env = (false, eval e env) :: starEach es env := by
  cases e <;> first | rfl | cases h
theorem star_any {es : List Expr} {env : Env} {pos : Pos} (h : es.all noStar = true) : (backTo pos (starEach es env)).any (·.1) = false := by
  induction es with
  | nil => rfl
  | cons e es ih =>
    simp only [List.all_cons, Bool.and_eq_true] at h
    rw [star_cons h.1]
    show (false || (backTo pos (starEach es env)).any (·.1)) = false
    rw [ih h.2]; rfl
def noSlice : Expr → Bool
  | .Slice _ _ _ _ => false
  | _ => true
theorem plainIx {e : Expr} (h : noSlice e = true) : PlainIx e := fun o i => by cases e <;> first | rfl | cases h

section
variable {T : Tab} {Φ : Hot → Nat → List D → Mem → Rs KD} {Γ : Tx} {nm : Nm} {n : Nat} {N : List Str} {sc : Scope} {hot : Hot} {xa : Option Addr} {WW : WX} {X : Cx}
theorem v_var (c : Cok T Φ Γ nm n N sc hot xa WW X) {i : Nat} {x : Str} {pos : Pos} (h1 : N[i]? = some x) (h2 : visC sc x = true) (h3 : plainN x = true) :
    PE X (.Name x pos) (LK (wd X nm xa) WW fun σ M => ev T (Φ hot) hot (.v i) σ M) := by
  refine PE.weak (pe_var (i := i) (by rw [c.N]; exact h1) (by rw [c.sc]; exact visC_ok h2) (plainN_ok h3).1 (plainN_ok h3).2.1) fun σ H Q ⟨Fr, ρ, G, σs, M, r, a⟩ => ?_
  simp only [ev] at a
  split at a
  · rename_i d e
    obtain ⟨v, h, f⟩ := r.val i d e
    exact ⟨v, h, a ρ G v H (Rle.refl _) (Hle.refl _) r f⟩
  · rename_i d e
    obtain ⟨p, h, f⟩ := r.own i d e
    exact ⟨_, h, a ρ G _ H (Rle.refl _) (Hle.refl _) r ⟨i, e, h⟩⟩
  · rename_i d e
    exact (r.self i d e).elim
  · exact a.elim
def constC : D → Const → Bool
  | .non, .none => true
  | .bl a, .bool b => a == b
  | .int i, .int j => decide (i = j)
  | .str s, .str x => decide (x = tx s) && (decide (s.length < line) && s.all (decide <| · < 1114112))
  | _, _ => false
theorem v_const {d : D} {k : Const} {j : Nat} {pos : Pos} {W : Wd} (h : constC d k = true) : PE X (.Constant k j pos) (LK W WW fun σ M => ok1 d M) := by
  have fin : ∀ {v : V}, PE X (.Constant k j pos) (tC v) → (∀ ρ G, Fz W ρ G d v) → PE X (.Constant k j pos) (LK W WW fun σ M => ok1 d M) := fun {v} p f =>
    PE.weak p fun σ H Q ⟨Fr, ρ, G, σs, M, r, a⟩ => a.one r (f ρ G)
  unfold constC at h
  split at h
  · exact fin pe_non fun _ _ => rfl
  · rename_i a b
    have : a = b := by simpa using h
    subst this
    exact fin L2.pe_bl fun _ _ => rfl
  · rename_i a b
    have : a = b := of_decide_eq_true h
    subst this
    exact fin pe_int fun _ _ => rfl
  · rename_i a b
    simp only [Bool.and_eq_true, decide_eq_true_eq, List.all_eq_true] at h
    obtain ⟨h1, h2⟩ := h
    subst h1
    exact fin pe_str fun _ _ => .mkS h2
  · cases h
theorem v_glob (c : Cok T Φ Γ nm n N sc hot xa WW X) {g : Nat} {x : Str} {pos : Pos} (h1 : Γ.gl[g]? = some x) (h2 : gloC sc x = true) (h3 : plainN x = true) :
    PE X (.Name x pos) (LK (wd X nm xa) WW fun σ M => ev T (Φ hot) hot (.g g) σ M) := by
  obtain ⟨v, u, e, rv, f⟩ := c.sk.gl g x h1
  refine PE.weak (pe_glob (show Gl X x from by unfold Gl Env.kindOf; rw [c.sc]; exact gloC_ok h2) e rv (plainN_ok h3).1) fun σ H Q ⟨Fr, ρ, G, σs, M, r, a⟩ => ?_
  simp only [ev] at a
  exact a.one r (f _ _ _ rfl)
section
variable {W : Wd} {ra rb rc : List SV → Mem → Rs KD} {a b e : Expr} {pos : Pos}
/-- two operands that are looked at -/
theorem two_ops {f : D → D → Mem → Rs KD} {σ : L2.St} {H : Hp} {Q : VK} (h : LK W WW (fun σ M => (ra σ M).bw.bind fun x M => (rb σ M).bw.bind fun y M => f x y M) σ H Q) :
    LB W WW (fun σ M => (ra σ M).bw) σ H fun x H1 => LB W WW (fun σ M => (rb σ M).bw) σ H1 fun y H2 => rO W WW f x y H2 Q := by
  obtain ⟨Fr, ρ, G, σs, M, r, q⟩ := h
  refine ⟨Fr, ρ, G, σs, M, r, (Aft.bind (RA := RRb W) q).weaker ?_⟩
  rintro x H1 ⟨ρ1, G1, M1, d, hr1, hg1, r1, k1, q1⟩
  refine ⟨Fr, ρ1, G1, σs, M1, r1, (Aft.bind (RA := RRb W) q1).weaker ?_⟩
  rintro y H2 ⟨ρ2, G2, M2, e, hr2, hg2, r2, k2, q2⟩
  exact ⟨Fr, ρ2, G2, σs, M2, σ, d, e, r2, k1.elim (fun k => .inl (k.mono hr2 hg2)) .inr, k2, q2⟩
theorem v_bin (hK : W.K = X.K) {o : Bop} (ha : PE X a (LK W WW ra)) (hb : PE X b (LK W WW rb)) :
    PE X (.BinOp a (opA o) b pos) (LK W WW fun σ M => (ra σ M).bw.bind fun x M => (rb σ M).bw.bind fun y M => binop o x y M) :=
  PE.weak (pe_op (op_bin (WW := WW) hK o) (pe_bw ha) (pe_bw hb)) fun _ _ _ h => two_ops h
theorem v_cmp (hK : W.K = X.K) (hu : X.A.units + 64 < cLine) {o : Cop} (hm : behindInMarks (cpA o) b = false) (ha : PE X a (LK W WW ra)) (hb : PE X b (LK W WW rb)) :
    PE X (.Compare a [cpA o] [b] pos) (LK W WW fun σ M => (ra σ M).bw.bind fun x M => (rb σ M).bw.bind fun y M => okB (cmpop o x y M) M) :=
  PE.weak (pe_cmpR (op_cmpD (WW := WW) hK hu o) (pe_bw ha) (pe_bw hb) hm) fun _ _ _ h => two_ops h
theorem v_neg (ha : PE X a (LK W WW ra)) : PE X (.UnaryOp .USub a pos) (LK W WW fun σ M => (ra σ M).bw.bind fun x M => (match x with
    | .int i => ok1 (.int (-i)) M
    | _ => .stk)) := by
  refine PE.weak (pe_un un_neg (pe_bw ha)) fun σ H Q ⟨Fr, ρ, G, σs, M, r, q⟩ => ?_
  refine ⟨Fr, ρ, G, σs, M, r, (Aft.bind (RA := RRb W) q).weaker ?_⟩
  rintro x H1 ⟨ρ1, G1, M1, d, hr1, hg1, r1, k1, q1⟩
  dsimp only at q1
  split at q1
  · rename_i i
    exact ⟨i, k1.int r1, q1.one r1 rfl⟩
  · exact q1.elim
theorem v_not (ha : PE X a (LK W WW ra)) : PE X (.UnaryOp .Not a pos) (LK W WW fun σ M => (ra σ M).bl.bind fun b M => ok1 (.bl (!b)) M) := by
  refine PE.weak (pe_not (pe_bl ha)) fun σ H Q ⟨Fr, ρ, G, σs, M, r, q⟩ => ?_
  refine ⟨Fr, ρ, G, σs, M, r, (Aft.bind (RA := RRl) q).weaker ?_⟩
  rintro x H1 ⟨ρ1, G1, M1, d, hr1, hg1, r1, k1, q1⟩
  exact ⟨d, k1, q1.one r1 rfl⟩
theorem v_and {x y : Expr} {rest : List Expr} (ha : PE X x (LK W WW ra)) (hb : PE X (.BoolOp .And (y :: rest) pos) (LK W WW rb)) :
    PE X (.BoolOp .And (x :: y :: rest) pos) (LK W WW fun σ M => (ra σ M).bl.bind fun x M => if x then (rb σ M).bl.bind fun y M => ok1 (.bl y) M else ok1 (.bl false) M) := by
  refine PE.weak (pe_and (pe_bl ha) (pe_bl hb)) fun σ H Q ⟨Fr, ρ, G, σs, M, r, q⟩ => ?_
  refine ⟨Fr, ρ, G, σs, M, r, (Aft.bind (RA := RRl) q).weaker ?_⟩
  rintro x H1 ⟨ρ1, G1, M1, d, hr1, hg1, r1, k1, q1⟩
  refine ⟨d, k1, ?_⟩
  cases d with
  | true =>
    refine ⟨Fr, ρ1, G1, σs, M1, r1, (Aft.bind (RA := RRl) q1).weaker ?_⟩
    rintro y H2 ⟨ρ2, G2, M2, e, hr2, hg2, r2, k2, q2⟩
    exact q2.one r2 k2
  | false => exact q1.one r1 rfl
theorem v_or {x y : Expr} {rest : List Expr} (ha : PE X x (LK W WW ra)) (hb : PE X (.BoolOp .Or (y :: rest) pos) (LK W WW rb)) :
    PE X (.BoolOp .Or (x :: y :: rest) pos) (LK W WW fun σ M => (ra σ M).bl.bind fun x M => if x then ok1 (.bl true) M else (rb σ M).bl.bind fun y M => ok1 (.bl y) M) := by
  refine PE.weak (pe_or (pe_bl ha) (pe_bl hb)) fun σ H Q ⟨Fr, ρ, G, σs, M, r, q⟩ => ?_
  refine ⟨Fr, ρ, G, σs, M, r, (Aft.bind (RA := RRl) q).weaker ?_⟩
  rintro x H1 ⟨ρ1, G1, M1, d, hr1, hg1, r1, k1, q1⟩
  refine ⟨d, k1, ?_⟩
  cases d with
  | false =>
    refine ⟨Fr, ρ1, G1, σs, M1, r1, (Aft.bind (RA := RRl) q1).weaker ?_⟩
    rintro y H2 ⟨ρ2, G2, M2, e, hr2, hg2, r2, k2, q2⟩
    exact q2.one r2 k2
  | true => exact q1.one r1 rfl
theorem chain_ops {f g : D → D → Mem → Rs KD} {σ : L2.St} {H : Hp} {P : VK} {R : VK} (h : LK W WW (fun σ M => (ra σ M).bw.bind fun x M => (rb σ M).bw.bind fun y M => (f x y M).bl.bind fun k M =>
      if k then (rc σ M).bw.bind fun z M => g y z M else ok1 (.bl false) M) σ H P) (hP : ∀ v H', P v H' → R v H') :
    LB W WW (fun σ M => (ra σ M).bw) σ H fun x H1 => LB W WW (fun σ M => (rb σ M).bw) σ H1 fun y H2 => rO W WW f x y H2 fun z H3 => ∃ k, z = .bl k ∧
      if k = true then LB W WW (fun σ M => (rc σ M).bw) σ H3 fun w H4 => rO W WW g y w H4 P else P (.bl false) H3 := by
  obtain ⟨Fr, ρ, G, σs, M, r, q⟩ := h
  refine ⟨Fr, ρ, G, σs, M, r, (Aft.bind (RA := RRb W) q).weaker ?_⟩
  rintro x H1 ⟨ρ1, G1, M1, d, hr1, hg1, r1, k1, q1⟩
  refine ⟨Fr, ρ1, G1, σs, M1, r1, (Aft.bind (RA := RRb W) q1).weaker ?_⟩
  rintro y H2 ⟨ρ2, G2, M2, e, hr2, hg2, r2, k2, q2⟩
  refine ⟨Fr, ρ2, G2, σs, M2, σ, d, e, r2, k1.elim (fun k => .inl (k.mono hr2 hg2)) .inr, k2, ?_⟩
  refine Aft.bl ((Aft.bind (RA := RRl) q2).weaker ?_)
  rintro z H3 ⟨ρ3, G3, M3, k, hr3, hg3, r3, k3, q3⟩
  refine ⟨k, k3, ?_⟩
  cases k with
  | true =>
    refine ⟨Fr, ρ3, G3, σs, M3, r3, (Aft.bind (RA := RRb W) q3).weaker ?_⟩
    rintro w H4 ⟨ρ4, G4, M4, u, hr4, hg4, r4, k4, q4⟩
    exact ⟨Fr, ρ4, G4, σs, M4, σ, e, u, r4, k2.elim (fun k => .inl (k.mono (hr3.trans hr4) (hg3.trans hg4))) .inr, k4, q4⟩
  | false => exact q3.one r3 rfl
theorem v_chn (hK : W.K = X.K) (hu : X.A.units + 64 < cLine) {o o' : Cop} {c : Expr} (hm : lastMarks [cpA o, cpA o'] [b, c] = false) (ha : PE X a (LK W WW ra)) (hb : PE X b (LK W WW rb)) (hc : PE X c (LK W WW rc)) :
    PE X (.Compare a [cpA o, cpA o'] [b, c] pos) (LK W WW fun σ M => (ra σ M).bw.bind fun x M => (rb σ M).bw.bind fun y M => (okB (cmpop o x y M) M).bl.bind fun k M =>
      if k then (rc σ M).bw.bind fun z M => okB (cmpop o' y z M) M else ok1 (.bl false) M) :=
  PE.weak (pe_chain (op_cmpD (WW := WW) hK hu o) (op_cmpD (WW := WW) hK hu o') (pe_bw ha) (pe_bw hb) (pe_bw hc) hm) fun _ _ _ h => chain_ops h fun _ _ z => z
theorem v_ife {t : Expr} {rt : List SV → Mem → Rs KD} (ht : PT X t (LT W WW fun σ M => (rt σ M).bl)) (ha : PE X a (LK W WW ra)) (hb : PE X b (LK W WW rb)) :
    PE X (.IfExp t a b pos) (LK W WW fun σ M => (rt σ M).bl.bind fun k M => if k then ra σ M else rb σ M) := by
  refine PE.weak (pe_ifExp ht ha hb) fun σ H Q ⟨Fr, ρ, G, σs, M, r, q⟩ => ?_
  refine ⟨Fr, ρ, G, σs, M, r, (Aft.bind (RA := RRt) q).weaker ?_⟩
  rintro x H1 ⟨ρ1, G1, M1, d, hr1, hg1, r1, k1, q1⟩
  subst k1
  cases x with
  | true => exact ⟨Fr, ρ1, G1, σs, M1, r1, q1⟩
  | false => exact ⟨Fr, ρ1, G1, σs, M1, r1, q1⟩
theorem v_ix (hK : W.K = X.K) (hs : noSlice b = true) (ha : PE X a (LK W WW ra)) (hb : PE X b (LK W WW rb)) :
    PE X (.Subscript a b pos) (LK W WW fun σ M => (ra σ M).bw.bind fun x M => (rb σ M).bw.bind fun y M => index x y M) :=
  PE.weak (pe_ix (ix_all (WW := WW) hK) (pe_bw ha) (pe_bw hb) (plainIx hs)) fun _ _ _ h => two_ops h

/-! ### lists of arguments -/
theorem va_nil : PA X [] (LA W WW fun σ M => .ok [] M) := PA.weak pa_nil fun σ H Q ⟨Fr, ρ, G, σs, M, r, q⟩ => q ρ G [] H (Rle.refl _) (Hle.refl _) r .nil
theorem vb_nil : PA X [] (LAb W WW fun σ M => .ok [] M) := PA.weak pa_nil fun σ H Q ⟨Fr, ρ, G, σs, M, r, q⟩ => q ρ G [] H (Rle.refl _) (Hle.refl _) r (show Bzs W ρ G σs σ [] [] from by unfold Bzs; rfl)
theorem Bzs.mono {ρ ρ' : List Addr} {G G' : Hp} {σs : List SV} {σ : L2.St} (hr : Rle ρ ρ') (hg : Hle G G') : ∀ {ds : List D} {vs : List V}, Bzs W ρ G σs σ ds vs → Bzs W ρ' G' σs σ ds vs
  | [], _, h => by unfold Bzs at h ⊢; exact h
  | d :: ds, vs, h => by
    unfold Bzs at h ⊢
    obtain ⟨v, r, e, b, k⟩ := h
    exact ⟨v, r, e, b.elim (fun z => .inl (z.mono hr hg)) .inr, k.mono hr hg⟩
theorem va_cons {es : List Expr} {rs : List SV → Mem → Rs (List D)} (hs : noStar a = true) (ha : PE X a (LK W WW ra)) (hb : PA X es (LA W WW rs)) :
    PA X (a :: es) (LA W WW fun σ M => (ra σ M).fz.bind fun d M => (rs σ M).bind fun ds M => .ok (d :: ds) M) := by
  refine PA.weak (pa_cons (pe_fz ha) hb (star_cons hs)) fun σ H Q ⟨Fr, ρ, G, σs, M, r, q⟩ => ?_
  refine ⟨Fr, ρ, G, σs, M, r, (Aft.bind (RA := RRf W) q).weaker ?_⟩
  rintro x H1 ⟨ρ1, G1, M1, d, hr1, hg1, r1, k1, q1⟩
  refine ⟨Fr, ρ1, G1, σs, M1, r1, (Aft.bind (RA := RRfs W) q1).weaker ?_⟩
  rintro y H2 ⟨ρ2, G2, M2, e, hr2, hg2, r2, k2, q2⟩
  exact q2.here r2 (.cons (k1.mono hr2 hg2) k2)
theorem vb_cons {es : List Expr} {rs : List SV → Mem → Rs (List D)} (hs : noStar a = true) (ha : PE X a (LK W WW ra)) (hb : PA X es (LAb W WW rs)) :
    PA X (a :: es) (LAb W WW fun σ M => (ra σ M).bw.bind fun d M => (rs σ M).bind fun ds M => .ok (d :: ds) M) := by
  refine PA.weak (pa_cons (pe_bw ha) hb (star_cons hs)) fun σ H Q ⟨Fr, ρ, G, σs, M, r, q⟩ => ?_
  refine ⟨Fr, ρ, G, σs, M, r, (Aft.bind (RA := RRb W) q).weaker ?_⟩
  rintro x H1 ⟨ρ1, G1, M1, d, hr1, hg1, r1, k1, q1⟩
  refine ⟨Fr, ρ1, G1, σs, M1, r1, (Aft.bind (RA := RRbs W) q1).weaker ?_⟩
  rintro y H2 ⟨ρ2, G2, M2, e, hr2, hg2, r2, k2, q2⟩
  refine q2.here r2 ?_
  unfold RRbs Bzs
  exact ⟨x, y, rfl, k1.elim (fun z => .inl (z.mono hr2 hg2)) .inr, k2⟩
theorem v_tup {es : List Expr} {rs : List SV → Mem → Rs (List D)} {k : Nat} (h : PA X es (LA W WW rs)) : PE X (.Tuple es k pos) (LK W WW fun σ M => (rs σ M).bind fun ds M => if ds.length < line then ok1 (.tup ds) M else .stk) := by
  refine PE.weak (pe_tup h) fun σ H Q ⟨Fr, ρ, G, σs, M, r, q⟩ => ?_
  refine ⟨Fr, ρ, G, σs, M, r, (Aft.bind (RA := RRfs W) q).weaker ?_⟩
  rintro x H1 ⟨ρ1, G1, M1, d, hr1, hg1, r1, k1, q1⟩
  dsimp only at q1
  split at q1
  · rename_i hl
    refine ⟨by rw [line_eq, ← k1.length]; exact Nat.le_of_lt hl, fun p hp => q1.new1 r1 hp ?_⟩
    unfold Fz
    exact ⟨p, _, rfl, .of upd_same, hl, k1.mono (Rle.refl _) (upd_le (r1.none_g hp))⟩
  · exact q1.elim
theorem v_lst {es : List Expr} {rs : List SV → Mem → Rs (List D)} (h : PA X es (LA W WW rs)) : PE X (.List es pos) (LK W WW fun σ M => (rs σ M).bind fun ds M => if ds.length < line then okn (.lst ds) M else .stk) := by
  refine PE.weak (pe_lst h) fun σ H Q ⟨Fr, ρ, G, σs, M, r, q⟩ => ?_
  refine ⟨Fr, ρ, G, σs, M, r, (Aft.bind (RA := RRfs W) q).weaker ?_⟩
  rintro x H1 ⟨ρ1, G1, M1, d, hr1, hg1, r1, k1, q1⟩
  dsimp only at q1
  split at q1
  · rename_i hl
    exact ⟨by rw [line_eq, ← k1.length]; exact Nat.le_of_lt hl, fun p hp => q1.new r1 hp ⟨_, rfl, hl, k1⟩⟩
  · exact q1.elim
theorem v_dct0 : PE X (.Dict [] [] pos) (LK W WW fun σ M => okn (.dct [] []) M) := by
  refine PE.weak pe_dnewK fun σ H Q ⟨Fr, ρ, G, σs, M, r, q⟩ => ?_
  exact fun p hp => q.new r hp ⟨[], rfl, rfl, .nil⟩
/-- built-ins -/
theorem vb_call {es : List Expr} {rs : List SV → Mem → Rs (List D)} {id : String} {x : Str} {p : Pos} {f : List D → Mem → Rs KD} (hc : CallR X (.builtin id) (rC W WW f)) (hg : Gl X x) (hm : X.mg x = none) (hv : bootBuiltins x = some (.builtin id)) (hx : plainN x = true)
    (hs : noStar a = true) (hss : es.all noStar = true) (h : PA X (a :: es) (LAb W WW rs)) : PE X (.Call (.Name x p) (a :: es) [] pos) (LK W WW fun σ M => (rs σ M).bind fun ds M => f ds M) := by
  refine PE.weak (pe_callB hc hg hm hv h (plainN_ok hx).2.2 (plainN_ok hx).1 (star_cons hs) (star_any hss)) fun σ H Q ⟨Fr, ρ, G, σs, M, r, q⟩ => ?_
  refine ⟨Fr, ρ, G, σs, M, r, (Aft.bind (RA := RRbs W) q).weaker ?_⟩
  rintro xs H1 ⟨ρ1, G1, M1, d, hr1, hg1, r1, k1, q1⟩
  exact ⟨Fr, ρ1, G1, σs, M1, σ, d, r1, k1, q1⟩
theorem vt_call {es : List Expr} {rs : List SV → Mem → Rs (List D)} {id : String} {x : Str} {p : Pos} {f : List D → Mem → Rs KD} (hc : CallR X (.type id) (rC W WW f)) (hg : Gl X x) (hm : X.mg x = none) (hv : bootBuiltins x = some (.type id)) (hx : plainN x = true)
    (hs : noStar a = true) (hss : es.all noStar = true) (h : PA X (a :: es) (LAb W WW rs)) : PE X (.Call (.Name x p) (a :: es) [] pos) (LK W WW fun σ M => (rs σ M).bind fun ds M => f ds M) := by
  refine PE.weak (pe_callTy hc hg hm hv h (plainN_ok hx).2.2 (plainN_ok hx).1 (star_cons hs) (star_any hss)) fun σ H Q ⟨Fr, ρ, G, σs, M, r, q⟩ => ?_
  refine ⟨Fr, ρ, G, σs, M, r, (Aft.bind (RA := RRbs W) q).weaker ?_⟩
  rintro xs H1 ⟨ρ1, G1, M1, d, hr1, hg1, r1, k1, q1⟩
  exact ⟨Fr, ρ1, G1, σs, M1, σ, d, r1, k1, q1⟩

/-! ### tests -/
theorem Aft.of_bl {Fr : Hp} {ρ : List Addr} {G : Hp} {σs : List SV} {σ : L2.St} {R : Rs Bool} {Q : Bool → Hp → Prop} (h : Aft W WW Fr RRt ρ G σs σ R Q) : Aft W WW Fr RRl ρ G σs σ R (fun x H1 => ∃ c, x = .bl c ∧ Q c H1) := by
  cases R with
  | ok b M => exact fun ρ' G' v H' h1 h2 h3 h4 => ⟨b, h4, h ρ' G' b H' h1 h2 h3 rfl⟩
  | ex C M => exact h
  | stk => exact h
theorem t_val (h : PE X e (LK W WW ra)) (he : ∀ whole, isTrue e X.env whole = (do let v ← whole; standAt e.pos; holding [v] (truthy v))) : PT X e (LT W WW fun σ M => (ra σ M).bl) :=
  PT.weak (pt_val (pe_bl h) he) fun σ H Q ⟨Fr, ρ, G, σs, M, r, q⟩ => ⟨Fr, ρ, G, σs, M, r, q.of_bl⟩
theorem Aft.bl_ok {Fr : Hp} {ρ : List Addr} {G : Hp} {σs : List SV} {σ : L2.St} {R : Rs Bool} {Q : Bool → Hp → Prop} {f : Bool → Bool} (h : Aft W WW Fr RRt ρ G σs σ (R.bind fun b M => ok1 (.bl (f b)) M).bl Q) : Aft W WW Fr RRt ρ G σs σ R (fun c H1 => Q (f c) H1) := by
  cases R with
  | ok b M => exact fun ρ' G' v H' h1 h2 h3 h4 => by subst h4; exact h ρ' G' (f v) H' h1 h2 h3 rfl
  | ex C M => exact h
  | stk => exact h
theorem t_not (ha : PT X a (LT W WW fun σ M => (ra σ M).bl)) : PT X (.UnaryOp .Not a pos) (LT W WW fun σ M => ((ra σ M).bl.bind fun b M => ok1 (.bl (!b)) M).bl) :=
  PT.weak (pt_not ha) fun σ H Q ⟨Fr, ρ, G, σs, M, r, q⟩ => ⟨Fr, ρ, G, σs, M, r, q.bl_ok⟩
theorem t_cmp (hK : W.K = X.K) (hu : X.A.units + 64 < cLine) {o : Cop} (hm : behindInMarks (cpA o) b = false) (ha : PE X a (LK W WW ra)) (hb : PE X b (LK W WW rb)) :
    PT X (.Compare a [cpA o] [b] pos) (LT W WW fun σ M => ((ra σ M).bw.bind fun x M => (rb σ M).bw.bind fun y M => okB (cmpop o x y M) M).bl) :=
  PT.weak (pt_cmpR (op_cmpD (WW := WW) hK hu o) (pe_bw ha) (pe_bw hb) hm) fun σ H Q ⟨Fr, ρ, G, σs, M, r, q⟩ =>
    two_ops (f := fun x y M => okB (cmpop o x y M) M) ⟨Fr, ρ, G, σs, M, r, q.of_bl.bl⟩
theorem t_chn (hK : W.K = X.K) (hu : X.A.units + 64 < cLine) {o o' : Cop} {c : Expr} (hm : lastMarks [cpA o, cpA o'] [b, c] = false) (ha : PE X a (LK W WW ra)) (hb : PE X b (LK W WW rb)) (hc : PE X c (LK W WW rc)) :
    PT X (.Compare a [cpA o, cpA o'] [b, c] pos) (LT W WW fun σ M => ((ra σ M).bw.bind fun x M => (rb σ M).bw.bind fun y M => (okB (cmpop o x y M) M).bl.bind fun k M =>
      if k then (rc σ M).bw.bind fun z M => okB (cmpop o' y z M) M else ok1 (.bl false) M).bl) :=
  PT.weak (pt_chain (op_cmpD (WW := WW) hK hu o) (op_cmpD (WW := WW) hK hu o') (pe_bw ha) (pe_bw hb) (pe_bw hc) hm) fun σ H Q ⟨Fr, ρ, G, σs, M, r, q⟩ => by
    exact chain_ops (f := fun x y M => okB (cmpop o x y M) M) (g := fun x y M => okB (cmpop o' x y M) M) ⟨Fr, ρ, G, σs, M, r, q.of_bl.bl⟩ fun _ _ z => z
theorem w_and {x y : Expr} {rest : List Expr} (ha : PT X x (LT W WW fun σ M => (ra σ M).bl)) (hb : PW X (.BoolOp .And (y :: rest) pos) (LT W WW fun σ M => (rb σ M).bl)) :
    PW X (.BoolOp .And (x :: y :: rest) pos) (LT W WW fun σ M => ((ra σ M).bl.bind fun x M => if x then (rb σ M).bl.bind fun y M => ok1 (.bl y) M else ok1 (.bl false) M).bl) := by
  refine PW.weak (pw_and ha hb) fun σ H Q ⟨Fr, ρ, G, σs, M, r, q⟩ => ⟨Fr, ρ, G, σs, M, r, ?_⟩
  have e : ((ra σs M).bl.bind fun x M => if x then (rb σs M).bl.bind fun y M => ok1 (.bl y) M else ok1 (.bl false) M).bl = (ra σs M).bl.bind fun x M => if x then (rb σs M).bl else .ok false M := by
    cases (ra σs M).bl with
    | ok b M1 =>
      cases b with
      | true =>
        show (((rb σs M1).bl.bind fun y M => ok1 (.bl y) M)).bl = (rb σs M1).bl
        cases (rb σs M1).bl <;> rfl
      | false => rfl
    | ex C M => rfl
    | stk => rfl
  dsimp only at q
  rw [e] at q
  refine (Aft.bind (RA := RRt) q).weaker ?_
  rintro c H1 ⟨ρ1, G1, M1, d, hr1, hg1, r1, k1, q1⟩
  subst k1
  cases c with
  | true => exact ⟨Fr, ρ1, G1, σs, M1, r1, q1⟩
  | false => exact q1.here r1 rfl
theorem w_or {x y : Expr} {rest : List Expr} (ha : PT X x (LT W WW fun σ M => (ra σ M).bl)) (hb : PW X (.BoolOp .Or (y :: rest) pos) (LT W WW fun σ M => (rb σ M).bl)) :
    PW X (.BoolOp .Or (x :: y :: rest) pos) (LT W WW fun σ M => ((ra σ M).bl.bind fun x M => if x then ok1 (.bl true) M else (rb σ M).bl.bind fun y M => ok1 (.bl y) M).bl) := by
  refine PW.weak (pw_or ha hb) fun σ H Q ⟨Fr, ρ, G, σs, M, r, q⟩ => ⟨Fr, ρ, G, σs, M, r, ?_⟩
  have e : ((ra σs M).bl.bind fun x M => if x then ok1 (.bl true) M else (rb σs M).bl.bind fun y M => ok1 (.bl y) M).bl = (ra σs M).bl.bind fun x M => if x then .ok true M else (rb σs M).bl := by
    cases (ra σs M).bl with
    | ok b M1 =>
      cases b with
      | false =>
        show (((rb σs M1).bl.bind fun y M => ok1 (.bl y) M)).bl = (rb σs M1).bl
        cases (rb σs M1).bl <;> rfl
      | true => rfl
    | ex C M => rfl
    | stk => rfl
  dsimp only at q
  rw [e] at q
  refine (Aft.bind (RA := RRt) q).weaker ?_
  rintro c H1 ⟨ρ1, G1, M1, d, hr1, hg1, r1, k1, q1⟩
  subst k1
  cases c with
  | false => exact ⟨Fr, ρ1, G1, σs, M1, r1, q1⟩
  | true => exact q1.here r1 rfl
theorem t_ife {t : Expr} {rt : List SV → Mem → Rs KD} (ht : PT X t (LT W WW fun σ M => (rt σ M).bl)) (ha : PT X a (LT W WW fun σ M => (ra σ M).bl)) (hb : PT X b (LT W WW fun σ M => (rb σ M).bl)) :
    PT X (.IfExp t a b pos) (LT W WW fun σ M => ((rt σ M).bl.bind fun k M => if k then ra σ M else rb σ M).bl) := by
  refine ⟨fun pins s σ H Q I ⟨Fr, ρ, G, σs, M, r, q⟩ => ?_⟩
  have e : ((rt σs M).bl.bind fun k M => if k then ra σs M else rb σs M).bl = (rt σs M).bl.bind fun k M => if k then (ra σs M).bl else (rb σs M).bl := by
    cases (rt σs M).bl with
    | ok b M1 => cases b <;> rfl
    | ex C M => rfl
    | stk => rfl
  dsimp only at q
  rw [e] at q
  show wpAny (model X.prog X.w) X.A (do if ← isTrue t X.env (eval t X.env) then isTrue a X.env (eval a X.env) else isTrue b X.env (eval b X.env)) _ _ _
  refine wpAny_bind (thn (ht.run pins s σ H _ I ⟨Fr, ρ, G, σs, M, r, Aft.bind (RA := RRt) q⟩) fun k s1 ⟨H1, I1, ρ1, G1, M1, d, hr1, hg1, r1, k1, q1⟩ => ?_)
  subst k1
  cases k with
  | true => exact ha.run pins s1 σ H1 Q I1 ⟨Fr, ρ1, G1, σs, M1, r1, q1⟩
  | false => exact hb.run pins s1 σ H1 Q I1 ⟨Fr, ρ1, G1, σs, M1, r1, q1⟩
end

/-! ### calls, isinstance -/
theorem HotC.of (c : Cok T Φ Γ nm n N sc hot xa WW X) {k : Nat} (h : hot = some k) : L2H.HotC X := by
  have m := c.mode
  subst h
  obtain ⟨p, _, h2, h3, _⟩ := m
  exact ⟨p, h3, h2⟩
theorem Cok.pass (c : Cok T Φ Γ nm n N sc hot xa WW X) (σ : L2.St) : PassesAt (L2N.CX X.prog X.w) X σ (WE WW σ) := fun _ _ _ e s' I cx => by
  obtain ⟨L, _, h⟩ := c.fx
  exact h _ _ (ExE.of_call I (fun _ _ _ h => h) cx)
theorem Cok.calm (c : Cok T Φ Γ nm n N sc hot xa WW X) : CalmH X := by
  cases hot with
  | none => exact .inl c.mode.2.1
  | some k => exact .inr (HotC.of c rfl)
theorem v_call (c : Cok T Φ Γ nm n N sc hot xa WW X) {f : Nat} {x : Str} {ps : List Str} {a : Expr} {es : List Expr} {p pos : Pos} {rs : List SV → Mem → Rs (List D)} (hf : Γ.fs[f]? = some (x, ps)) (hx : gloC sc x = true) (hpl : plainN x = true)
    (hs : noStar a = true) (hss : es.all noStar = true) (h : PA X (a :: es) (LA (wd X nm xa) WW rs)) : PE X (.Call (.Name x p) (a :: es) [] pos) (LK (wd X nm xa) WW fun σ M => (rs σ M).bind fun ds M => Φ hot f ds M) := by
  obtain ⟨hm, hk⟩ := c.sk.fn f x ps hf
  obtain ⟨fd, hb, hF, hX⟩ := c.fk f x ps hf
  have hg : Gl X x := by unfold Gl Env.kindOf; rw [c.sc]; exact gloC_ok hx
  have key : ∀ {Fr : Hp} {ρ1 : List Addr} {G1 : Hp} {σs : List SV} {M1 : Mem} {σ : L2.St} {H1 : Hp} {xs : List V} {d : List D} {Q : VK}, Rel (wd X nm xa) Fr ρ1 G1 σs M1 σ H1 → Fzs (wd X nm xa) ρ1 G1 d xs → Aft (wd X nm xa) WW Fr (RRk (wd X nm xa) Fr) ρ1 G1 σs σ (Φ hot f d M1) Q →
      spC (wd X nm xa) (Φ hot) f ps.length xs H1 Q (WE WW σ) := fun {Fr ρ1 G1 σs M1 σ H1 xs d Q} r1 k1 q1 => by
    have hl : d.length = ps.length := by
      by_cases e : d.length = ps.length
      · exact e
      · rw [c.ar hot f x ps d M1 hf e] at q1
        exact q1.elim
    exact ⟨by rw [← k1.length]; exact hl, ownH Fr σs σ H1, ρ1, G1, M1, d, r1.callee, k1, q1.toC r1⟩
  have m := c.mode
  cases hot with
  | none =>
    obtain ⟨m1, m2, m3⟩ := m
    subst m1
    refine PE.weak (pe_callSD (E := fun σ => WE WW σ) (dvs := []) (ds := []) hF m3 hg hm hk hb .nil (fun σ => c.pass σ) h (plainN_ok hpl).1 (star_cons hs) (star_any hss)) fun σ H Q ⟨Fr, ρ, G, σs, M, r, q⟩ => ?_
    refine ⟨Fr, ρ, G, σs, M, r, (Aft.bind (RA := RRfs _) q).weaker ?_⟩
    rintro xs H1 ⟨ρ1, G1, M1, d, hr1, hg1, r1, k1, q1⟩
    rw [List.append_nil]
    exact key r1 k1 q1
  | some k =>
    obtain ⟨p1, e1, m2, m3, m4, m5, m6⟩ := m
    refine ⟨fun pins s σ H Q I ⟨Fr, ρ, G, σs, M, r, q⟩ => ?_⟩
    refine wpAny_Call_Name_kw (ld_glob I hg hm ?_ (plainN_ok hpl).1)
    refine PySem.W.callWith_K (h₀ := X.base) I.ok.mod.kin hk (thn (h.run pos pins s σ H _ I ⟨Fr, ρ, G, σs, M, r, Aft.bind (RA := RRfs _) q⟩) fun us s1 ⟨vs, H1, I1, rv, hq⟩ => ⟨I1.kIn, ?_⟩) (star_cons hs) (star_any hss)
    obtain ⟨ρ1, G1, M1, d, hr1, hg1, r1, k1, q1⟩ := hq
    have sp := key r1 k1 q1
    have hl : us.length = ps.length := by rw [← rv.length]; exact sp.1
    have b := hb s1 us I1.kIn (by rw [List.append_nil]; exact hl)
    rw [List.append_nil] at b
    have P1 := I1.pin p1 (List.mem_append_left _ m2)
    have hpin : L2H.PinOk X.stack H1 s1 p1 := ⟨P1.1, P1.2.1, fun hm => (List.mem_cons.mp (I1.stkSub p1.1 hm)).elim P1.2.2.1 P1.2.2.2.1, P1.2.2.2.2⟩
    obtain ⟨z, hz⟩ := m5
    have F := hX k z hz
    refine wpAny_call (codeAny_mono (F.run X.A X.stack s1 H1 ⟨us, []⟩ us vs Q (WE WW σ) p1 m6 m3 hpin m4 I1.env0 b rv ⟨xa, e1, sp⟩) fun rr s' hq => ?_)
    cases rr with
    | error e => exact c.pass σ pins H1 s1 e s' I1 hq
    | ok fl =>
      cases fl with
      | ret u => exact I1.after hq
      | next => exact False.elim hq
      | brk => exact False.elim hq
      | cont => exact False.elim hq
def tyS : Ty → Option String
  | .int => some "int" | .bool => some "bool" | .str => some "str" | .list => some "list" | .tuple => some "tuple" | .dict => some "dict" | .valueError => some "ValueError" | .cls _ => none
theorem kit_tn (K : PySem.W.Frag) (n : Tn) (t : Ty) {z : String} (h : tyS t = some z) : PySem.W.kitOne K (.type (tnS n)) (.type z) = some (isTn n t) := by
  cases t <;> simp only [tyS, Option.some.injEq, reduceCtorEq] at h
  all_goals (subst h; cases n <;> exact kit_ty (by decide +kernel))
theorem tyX_of {K : PySem.W.Frag} {W : Wd} {ρ : List Addr} {G H : Hp} {d : D} {v : V} {n : Tn} (hK : W.K = K) (hg : Hle G H) (l : Lk W ρ G H d v) (h : tnOf d = some n) : TyX K H v (.type (tnS n)) := by
  cases d <;> simp only [tnOf, Option.some.injEq, reduceCtorEq] at h
  all_goals subst h
  · have l : v = .non := l
    subst l; exact .base .non
  · rename_i b
    have l : v = .bl b := l
    subst l; exact .base (.bl _)
  · rename_i b
    have l : v = .int b := l
    subst l; exact .base (.int _)
  · rename_i b
    have l : v = .str (tx b) ∧ OkS b := l
    rw [l.1]; exact .base (.str _)
  · rename_i ds
    have l : Fz W ρ G (.tup ds) v := l
    unfold Fz at l
    obtain ⟨a, vs, e, q, _⟩ := l
    subst e
    rcases q with (q | ⟨o, q⟩) | ⟨o, its, z, q, c, _⟩
    · exact .base (.tup (hg _ _ q))
    · exact .fTuple (hg _ _ q)
    · exact .kTuple (hK ▸ q) c
  · obtain ⟨a, vs, e, q, _⟩ := l
    subst e
    exact .base (.lst q)
  · rename_i ds
    have l : Fz W ρ G (.scr ds) v := l
    unfold Fz at l
    obtain ⟨a, vs, e, q, _⟩ := l
    subst e
    rcases q with (q | ⟨o, q⟩) | ⟨o, its, z, q, c, _⟩
    · exact .base (.lst (hg _ _ q))
    · exact .base (.frz (hg _ _ q))
    · exact .kList (hK ▸ q) c
  · obtain ⟨a, vs, e, q, _⟩ := l
    subst e
    exact .base (.dK q)
/-- the class asked for -/
def IsTy (Γ : Tx) (nm : Nm) (t : Ty) (v : V) (u : Value) : Prop :=
  match t with
  | .cls c => (∃ x, Γ.cs[c]? = some x) ∧ v = .ref (nm.ca c) ∧ u = .ref (nm.ca c)
  | t => ∃ z, tyS t = some z ∧ v = .ty z ∧ u = .type z
theorem IsTy.cls {t : Ty} {v : V} {u : Value} (h : IsTy Γ nm t v u) : ClsV v u := by
  cases t with
  | cls c => obtain ⟨_, e1, e2⟩ := h; rw [e1, e2]; exact .own _
  | _ => obtain ⟨z, _, e1, e2⟩ := h; rw [e1, e2]; exact .ty _
theorem Bz.exc {W : Wd} {Fr : Hp} {ρ : List Addr} {G : Hp} {σs : List SV} {M : Mem} {σ : L2.St} {H : Hp} {v : V} (r : Rel W Fr ρ G σs M σ H) (h : Bz W ρ G σs σ .exc v) : ∃ a, W.xa = some a ∧ v = .ref a := h.nob r (fun _ z => z)
theorem c_isi (c : Cok T Φ Γ nm n N sc hot xa WW X) {t : Ty} {tv : V} {u : Value} (ht : IsTy Γ nm t tv u) :
    CallR X (.builtin "isinstance") (fun xs H Q => ∃ (x : V) (Fr : Hp) (ρ : List Addr) (G : Hp) (σs : List SV) (M : Mem) (σ : L2.St) (d : D), xs = [x, tv] ∧ Rel (wd X nm xa) Fr ρ G σs M σ H ∧ Bz (wd X nm xa) ρ G σs σ d x ∧
      Aft (wd X nm xa) WW Fr (RRk (wd X nm xa) Fr) ρ G σs σ (okB (isInst T hot M d t) M) Q) := by
  intro pins s σ H xs us Q I rx ⟨x, Fr, ρ, G, σs, M, τ, d, exs, r, hx, q⟩
  obtain ⟨b, hb, qq⟩ := q.okB r
  clear q
  have q := qq
  clear qq
  unfold isInst at hb
  split at hb
  · rename_i k hk
    simp only [Option.some.injEq] at hb
    have ty := tyX_of (K := X.K) rfl r.gh (r.look hx) hk
    refine call_isi pins s σ H xs us Q I rx ⟨x, tv, _, u, b, exs, ht.cls, ty, ?_, q⟩
    cases t with
    | cls c' =>
      obtain ⟨⟨z, hz⟩, e1, e2⟩ := ht
      rw [e2, ← hb]
      exact c.sk.ct c' z k hz
    | _ =>
      obtain ⟨z, hz, e1, e2⟩ := ht
      rw [e2, ← hb]
      exact kit_tn X.K k _ hz
  · have exc : d = .exc → ∀ k, hot = some k → (∀ K, K = X.K → PySem.W.kitOne K (.ref (nm.ca k)) u = some b) → wpAny (model X.prog X.w) X.A (PySem.call (.builtin "isinstance") us) (EP X pins σ Q) X.xe s := fun ed k ek hkit => by
      subst ed ek
      obtain ⟨p, e1, m2, m3, m4, ⟨z, hz⟩, m6⟩ := c.mode
      obtain ⟨a, ea, ev⟩ := hx.exc r
      have ea : xa = some a := ea
      have e1 : xa = some p.1 := e1.elim (fun z => by rw [z] at ea; cases ea) id
      rw [e1] at ea
      cases ea
      subst ev exs
      obtain ⟨u1, u2, rfl, r1, r2⟩ := vals2 rx
      cases r1
      have e2 := ht.cls.eq r2
      subst e2
      obtain ⟨hget, _⟩ := I.pin p (List.mem_append.mpr (.inl m2))
      obtain ⟨_, vs, hv, _⟩ := m3
      obtain ⟨x1, x2, x3, C, x4⟩ := c.sk.ex k z hz
      have J : PySem.W.InstAt s.heap p.1 p.2 (nm.ca k) none := by
        obtain ⟨pa, oc, od, oda, osl⟩ := p
        obtain ⟨h1, h2⟩ := m4
        dsimp only at h1 h2 hv hget
        subst h1 h2 hv
        exact ⟨hget, rfl, rfl, trivial⟩
      exact PySem.W.kia_one (PySem.W.handS_kitx_exc C.hg C.hk C.hs C.hd C.ha C.hn C.ht C.hm) I.kIn J (hkit _ rfl) (fun z => nomatch z) fun tk => ⟨.bl b, H, I.kept (t' := tk) fun _ _ z => z, rfl, q⟩
    split at hb
    · rename_i c' _
      obtain ⟨⟨z, hz⟩, e1, e2⟩ := ht
      obtain ⟨k, hk, eb⟩ := Option.map_eq_some_iff.mp hb
      have mm := c.mode
      rw [hk] at mm
      obtain ⟨_, _, _, _, _, ⟨y, hy⟩, _⟩ := mm
      exact exc rfl k hk fun K e => by rw [e, e2, ← eb]; exact (c.sk.ee k c' y z hy hz).1
    · obtain ⟨z, hz, e1, e2⟩ := ht
      simp only [tyS, Option.some.injEq] at hz
      subst hz
      obtain ⟨k, hk, eb⟩ := Option.map_eq_some_iff.mp hb
      have mm := c.mode
      rw [hk] at mm
      obtain ⟨_, _, _, _, _, ⟨y, hy⟩, _⟩ := mm
      exact exc rfl k hk fun K e => by rw [e, e2, ← eb]; exact (c.sk.ex k y hy).2.2.2.2
    · cases hb
end
end VM
/-! VM5: targets, comprehensions. -/
namespace VM
open PySem L2 PySem.Spec PyProof.Rows

/-! ### stores to slots -/
section
variable {W : Wd} {Fr Fr' : Hp} {ρ ρ' : List Addr} {G G' : Hp} {σs : List SV} {M : Mem} {σ : L2.St} {H H' : Hp} {d : D} {v : V} {p : Addr} {i : Nat}
theorem isS_no {o : Option SV} (h : isS o = false) (d : D) : o ≠ some (.s d) := fun e => by rw [e] at h; cases h
theorem Rel.setv (r : Rel W Fr ρ G σs M σ H) (k : Fz W ρ G d v) : Rel W Fr ρ G (σs.set i (.v d)) M (σ.set i (some v)) H where
  toMRel := r.toMRel
  sl := by rw [List.length_set, List.length_set]; exact r.sl
  val := fun j e h => by
    by_cases q : i = j
    · subst q
      by_cases hl : i < σs.length
      · rw [List.getElem?_set_self hl] at h
        cases h
        exact ⟨v, List.getElem?_set_self (by rw [r.sl]; exact hl), k⟩
      · rw [List.getElem?_eq_none (by rw [List.length_set]; omega)] at h; cases h
    · rw [List.getElem?_set_ne q] at h ⊢
      exact r.val j e h
  own := fun j e h => by
    by_cases q : i = j
    · subst q
      by_cases hl : i < σs.length
      · rw [List.getElem?_set_self hl] at h; cases h
      · rw [List.getElem?_eq_none (by rw [List.length_set]; omega)] at h; cases h
    · rw [List.getElem?_set_ne q] at h ⊢
      exact r.own j e h
  self := fun j e h => by
    by_cases q : i = j
    · subst q
      by_cases hl : i < σs.length
      · rw [List.getElem?_set_self hl] at h; cases h
      · rw [List.getElem?_eq_none (by rw [List.length_set]; omega)] at h; cases h
    · rw [List.getElem?_set_ne q] at h
      exact r.self j e h
  uniq := fun a b p ⟨d1, h1, h2⟩ ⟨d2, h3, h4⟩ => by
    have ne : ∀ {j : Nat} {e : D}, (σs.set i (.v d))[j]? = some (.o e) → i ≠ j := fun {j e} h q => by
      subst q
      by_cases hl : i < σs.length
      · rw [List.getElem?_set_self hl] at h; cases h
      · rw [List.getElem?_eq_none (by rw [List.length_set]; omega)] at h; cases h
    have n1 := ne h1
    have n2 := ne h3
    rw [List.getElem?_set_ne n1] at h1 h2
    rw [List.getElem?_set_ne n2] at h3 h4
    exact r.uniq a b p ⟨d1, h1, h2⟩ ⟨d2, h3, h4⟩
theorem Rel.setu (r : Rel W Fr ρ G σs M σ H) (o : Option V) : Rel W Fr ρ G (σs.set i .u) M (σ.set i o) H where
  toMRel := r.toMRel
  sl := by rw [List.length_set, List.length_set]; exact r.sl
  val := fun j e h => by
    by_cases q : i = j
    · subst q
      by_cases hl : i < σs.length
      · rw [List.getElem?_set_self hl] at h; cases h
      · rw [List.getElem?_eq_none (by rw [List.length_set]; omega)] at h; cases h
    · rw [List.getElem?_set_ne q] at h ⊢
      exact r.val j e h
  own := fun j e h => by
    by_cases q : i = j
    · subst q
      by_cases hl : i < σs.length
      · rw [List.getElem?_set_self hl] at h; cases h
      · rw [List.getElem?_eq_none (by rw [List.length_set]; omega)] at h; cases h
    · rw [List.getElem?_set_ne q] at h ⊢
      exact r.own j e h
  self := fun j e h => by
    by_cases q : i = j
    · subst q
      by_cases hl : i < σs.length
      · rw [List.getElem?_set_self hl] at h; cases h
      · rw [List.getElem?_eq_none (by rw [List.length_set]; omega)] at h; cases h
    · rw [List.getElem?_set_ne q] at h
      exact r.self j e h
  uniq := fun a b p ⟨d1, h1, h2⟩ ⟨d2, h3, h4⟩ => by
    have ne : ∀ {j : Nat} {e : D}, (σs.set i .u)[j]? = some (.o e) → i ≠ j := fun {j e} h q => by
      subst q
      by_cases hl : i < σs.length
      · rw [List.getElem?_set_self hl] at h; cases h
      · rw [List.getElem?_eq_none (by rw [List.length_set]; omega)] at h; cases h
    have n1 := ne h1
    have n2 := ne h3
    rw [List.getElem?_set_ne n1] at h1 h2
    rw [List.getElem?_set_ne n2] at h3 h4
    exact r.uniq a b p ⟨d1, h1, h2⟩ ⟨d2, h3, h4⟩
/-- something new is one's own now -/
theorem Rel.seto (r : Rel W Fr ρ G σs M σ H) (n : New W Fr ρ G H d p) (no : ∀ j, ¬ Own σs σ j p) : Rel W Fr ρ G (σs.set i (.o d)) M (σ.set i (some (.ref p))) H where
  toMRel := r.toMRel
  sl := by rw [List.length_set, List.length_set]; exact r.sl
  val := fun j e h => by
    by_cases q : i = j
    · subst q
      by_cases hl : i < σs.length
      · rw [List.getElem?_set_self hl] at h; cases h
      · rw [List.getElem?_eq_none (by rw [List.length_set]; omega)] at h; cases h
    · rw [List.getElem?_set_ne q] at h ⊢
      exact r.val j e h
  own := fun j e h => by
    by_cases q : i = j
    · subst q
      by_cases hl : i < σs.length
      · rw [List.getElem?_set_self hl] at h
        cases h
        exact ⟨p, List.getElem?_set_self (by rw [r.sl]; exact hl), n⟩
      · rw [List.getElem?_eq_none (by rw [List.length_set]; omega)] at h; cases h
    · rw [List.getElem?_set_ne q] at h ⊢
      exact r.own j e h
  self := fun j e h => by
    by_cases q : i = j
    · subst q
      by_cases hl : i < σs.length
      · rw [List.getElem?_set_self hl] at h; cases h
      · rw [List.getElem?_eq_none (by rw [List.length_set]; omega)] at h; cases h
    · rw [List.getElem?_set_ne q] at h
      exact r.self j e h
  uniq := fun a b q h1 h2 => by
    have ck : ∀ {j : Nat} {q : Addr}, Own (σs.set i (.o d)) (σ.set i (some (.ref p))) j q → (j = i ∧ q = p) ∨ (i ≠ j ∧ Own σs σ j q) := fun {j q} ⟨e, x, y⟩ => by
      by_cases z : i = j
      · subst z
        by_cases hl : i < σs.length
        · rw [List.getElem?_set_self (by rw [r.sl]; exact hl)] at y
          cases y
          exact .inl ⟨rfl, rfl⟩
        · rw [List.getElem?_eq_none (by rw [List.length_set]; omega)] at x; cases x
      · rw [List.getElem?_set_ne z] at x y
        exact .inr ⟨z, e, x, y⟩
    rcases ck h1 with ⟨e1, e2⟩ | ⟨n1, o1⟩
    · rcases ck h2 with ⟨e3, _⟩ | ⟨_, o2⟩
      · rw [e1, e3]
      · subst e2; exact (no _ o2).elim
    · rcases ck h2 with ⟨e3, e4⟩ | ⟨_, o2⟩
      · subst e4; exact (no _ o1).elim
      · exact r.uniq a b q o1 o2
/-- something that no one knows changes -/
theorem Rel.poke (r : Rel W Fr ρ G σs M σ H) {o : HO} (g : G p = none) (f : Fr p = none) (rr : p ∉ ρ) (no : ∀ j, ¬ Own σs σ j p) : Rel W Fr ρ G σs M σ (upd H p o) where
  gh := fun a u e => by
    have : a ≠ p := fun z => by rw [z, g] at e; cases e
    rw [upd_ne this]; exact r.gh _ _ e
  fh := fun a u e => by
    have : a ≠ p := fun z => by rw [z, f] at e; cases e
    rw [upd_ne this]; exact r.fh _ _ e
  gf := r.gf
  len := r.len
  mem := fun i a d e1 e2 => by
    have : a ≠ p := fun z => rr (z ▸ List.mem_of_getElem? e1)
    rw [upd_ne this]; exact r.mem i a d e1 e2
  nd := r.nd
  sl := r.sl
  val := r.val
  own := fun i d e => by
    obtain ⟨q, e1, n⟩ := r.own i d e
    have : q ≠ p := fun z => no i ⟨d, e, z ▸ e1⟩
    obtain ⟨ho, h1, h2⟩ := n.at_
    exact ⟨q, e1, ⟨ho, by rw [upd_ne this]; exact h1, h2⟩, n.g, n.f, n.r⟩
  self := r.self
  uniq := r.uniq
/-- one more thing is not to be touched -/
theorem Rel.guard (r : Rel W Fr ρ G σs M σ H) {o : HO} (h : H p = some o) (g : G p = none) (rr : p ∉ ρ) (no : ∀ j, ¬ Own σs σ j p) : Rel W (upd Fr p o) ρ G σs M σ H where
  gh := r.gh
  fh := fun a u e => by
    by_cases q : a = p
    · subst q; rw [upd_same] at e; cases e; exact h
    · rw [upd_ne q] at e; exact r.fh _ _ e
  gf := fun a u e => by
    by_cases q : a = p
    · subst q; exact g
    · rw [upd_ne q] at e; exact r.gf _ _ e
  len := r.len
  mem := fun i a d e1 e2 => by
    obtain ⟨ho, h1, h2, h3, h4⟩ := r.mem i a d e1 e2
    have : a ≠ p := fun z => rr (z ▸ List.mem_of_getElem? e1)
    exact ⟨ho, h1, h2, h3, by rw [upd_ne this]; exact h4⟩
  nd := r.nd
  sl := r.sl
  val := r.val
  own := fun i d e => by
    obtain ⟨q, e1, n⟩ := r.own i d e
    have : q ≠ p := fun z => no i ⟨d, e, z ▸ e1⟩
    exact ⟨q, e1, n.at_, n.g, by rw [upd_ne this]; exact n.f, n.r⟩
  self := r.self
  uniq := r.uniq
end

/-! ### targets -/
/-- a target's reading -/
def LG (W : Wd) (t : Tg) : TG := fun v σ H Q => ∃ (Fr : Hp) (ρ : List Addr) (G : Hp) (σs : List SV) (M : Mem) (d : D), Rel W Fr ρ G σs M σ H ∧ Fz W ρ G d v ∧
  ∃ τs, t.bind d σs = some τs ∧ ∀ τ, Rel W Fr ρ G τs M τ H → (∀ j, j ∉ t.is → τ[j]? = σ[j]?) → τ.length = σ.length → Q τ H
def LGs (W : Wd) (t : Tg) : TGs := fun vs σ H Q => ∃ (Fr : Hp) (ρ : List Addr) (G : Hp) (σs : List SV) (M : Mem) (ds : List D), Rel W Fr ρ G σs M σ H ∧ Fzs W ρ G ds vs ∧
  ∃ τs, t.binds ds σs = some τs ∧ ∀ τ, Rel W Fr ρ G τs M τ H → (∀ j, j ∉ t.is → τ[j]? = σ[j]?) → τ.length = σ.length → Q τ H
def plainT : List Expr → Bool
  | [] => true
  | .Starred _ _ :: _ => false
  | _ :: r => plainT r
theorem asg_cons {e : Expr} {es : List Expr} {env : Env} (h : plainT (e :: es) = true) : (assignEach (e :: es) env).map (·.2) = assign e env :: (assignEach es env).map (·.2) := by
  cases e <;> first | rfl | cases h
theorem asg_len {env : Env} : ∀ {es : List Expr}, plainT es = true → (assignEach es env).length = es.length
  | [], _ => rfl
  | e :: es, h => by
    have h' : plainT es = true := by cases e <;> first | exact h | cases h
    have := asg_len (env := env) h'
    cases e <;> first | (show (assignEach es env).length + 1 = _; rw [this]; rfl) | cases h
theorem asg_star {env : Env} : ∀ {es : List Expr}, plainT es = true → (assignEach es env).findIdx? (·.1) = none
  | [], _ => rfl
  | e :: es, h => by
    have h' : plainT es = true := by cases e <;> first | exact h | cases h
    have := asg_star (env := env) h'
    cases e <;> first | (show (List.findIdx? (fun x => x.1) ((false, _) :: assignEach es env)) = none; rw [List.findIdx?_cons]; simp [this]) | cases h
section
variable {T : Tab} {Φ : Hot → Nat → List D → Mem → Rs KD} {Γ : Tx} {nm : Nm} {n : Nat} {N : List Str} {sc : Scope} {hot : Hot} {xa : Option Addr} {WW : WX} {X : Cx} {loc : Str → Bool}
mutual
def chkT (N : List Str) (loc : Str → Bool) : Tg → Expr → Bool
  | .n i, e => (match e with
    | .Name x _ => decide (N[i]? = some x) && (loc x && plainN x)
    | _ => false)
  | .t l, e => (match e with
    | .Tuple es _ _ => plainT es && chkTs N loc l es
    | _ => false)
  | _, _ => false
def chkTs (N : List Str) (loc : Str → Bool) : Tg → List Expr → Bool
  | .nil, es => (match es with
    | [] => true
    | _ => false)
  | .cons a l, es => (match es with
    | e :: es => plainT (e :: es) && (chkT N loc a e && chkTs N loc l es)
    | _ => false)
  | _, _ => false
end
theorem binds_len : ∀ {l : Tg} {es : List Expr} {ds : List D} {σs τs : List SV}, chkTs N loc l es = true → l.binds ds σs = some τs → ds.length = es.length
  | .nil, es, ds, σs, τs, h, k => by
    cases es <;> simp only [chkTs] at h <;> first | cases h | skip
    cases ds <;> simp only [Tg.binds] at k <;> first | rfl | cases k
  | .cons a l, es, ds, σs, τs, h, k => by
    cases es with
    | nil => simp only [chkTs] at h; cases h
    | cons e es =>
      simp only [chkTs, Bool.and_eq_true] at h
      cases ds with
      | nil => simp only [Tg.binds] at k; cases k
      | cons d ds =>
        simp only [Tg.binds] at k
        split at k
        · rw [List.length_cons, List.length_cons, binds_len h.2.2 k]
        · cases k
  | .n i, es, ds, σs, τs, h, k => by simp only [chkTs] at h; cases h
  | .t i, es, ds, σs, τs, h, k => by simp only [chkTs] at h; cases h
mutual
theorem vg (hN : X.N = N) (nd : X.N.Nodup) (hf : ∀ x, loc x = true → Loc X.env.scope x ∧ (X.fn x = true ∨ X.env.scope.names.lookup x = some .local)) (hc : CalmH X) {W : Wd} (hK : W.K = X.K) :
    ∀ (t : Tg) (e : Expr), chkT N loc t e = true → PG X e (LG W t)
  | .n i, e, h => by
    simp only [chkT] at h
    split at h
    · rename_i x p
      simp only [decide_eq_true_eq, Bool.and_eq_true] at h
      obtain ⟨h1, h2, h3⟩ := h
      have pg := pg_name (X := X) (pos := p) nd (by rw [hN]; exact h1) (hf x h2).1 (hf x h2).2
      refine ⟨fun pins s σ H v u Q I rv ⟨Fr, ρ, G, σs, M, d, r, k, τs, hb, q⟩ => ?_⟩
      refine pg.run pins s σ H v u Q I rv ?_
      simp only [Tg.bind, Option.some.injEq] at hb
      subst hb
      exact q _ (r.setv k) (fun j hj => List.getElem?_set_ne (by simp only [Tg.is, List.mem_singleton] at hj; exact fun z => hj z.symm)) (List.length_set ..)
    · cases h
  | .t l, e, h => by
    simp only [chkT] at h
    split at h
    · rename_i es k p
      simp only [Bool.and_eq_true] at h
      obtain ⟨h1, h2⟩ := h
      have ih := vgs hN nd hf hc hK l es h2
      have pg := pg_tupQ (X := X) (k := k) (pos := p) (n := es.length) hc ih (asg_len h1) (asg_star h1)
      refine ⟨fun pins s σ H v u Q I rv ⟨Fr, ρ, G, σs, M, d, r, k, τs, hb, q⟩ => ?_⟩
      refine pg.run pins s σ H v u Q I rv ?_
      simp only [Tg.bind] at hb
      split at hb
      · rename_i ds
        unfold Fz at k
        obtain ⟨a, vs, e, hq, hl, fz⟩ := k
        exact ⟨a, vs, e, hK ▸ r.gh.sqt hq, by rw [← fz.length]; exact binds_len h2 hb, Fr, ρ, G, σs, M, ds, r, fz, τs, hb, q⟩
      · cases hb
    · cases h
  | .nil, e, h => by simp only [chkT] at h; cases h
  | .cons _ _, e, h => by simp only [chkT] at h; cases h
theorem vgs (hN : X.N = N) (nd : X.N.Nodup) (hf : ∀ x, loc x = true → Loc X.env.scope x ∧ (X.fn x = true ∨ X.env.scope.names.lookup x = some .local)) (hc : CalmH X) {W : Wd} (hK : W.K = X.K) :
    ∀ (t : Tg) (es : List Expr), chkTs N loc t es = true → PGs X es (LGs W t)
  | .nil, es, h => by
    cases es with
    | nil =>
      refine ⟨fun pins s σ H vs us Q I rv ⟨Fr, ρ, G, σs, M, ds, r, k, τs, hb, q⟩ => ?_⟩
      refine pgs_nil.run pins s σ H vs us Q I rv ?_
      cases ds with
      | nil =>
        simp only [Tg.binds, Option.some.injEq] at hb
        subst hb
        unfold Fzs at k
        exact ⟨k, q σ r (fun _ _ => rfl) rfl⟩
      | cons d ds => simp only [Tg.binds] at hb; cases hb
    | cons e es => simp only [chkTs] at h; cases h
  | .cons a l, es, h => by
    cases es with
    | nil => simp only [chkTs] at h; cases h
    | cons e es =>
      simp only [chkTs, Bool.and_eq_true] at h
      obtain ⟨h0, h1, h2⟩ := h
      have i1 := vg hN nd hf hc hK a e h1
      have i2 := vgs hN nd hf hc hK l es h2
      have pg := pgs_cons i1 i2 (asg_cons h0)
      refine ⟨fun pins s σ H vs us Q I rv ⟨Fr, ρ, G, σs, M, ds, r, k, τs, hb, q⟩ => ?_⟩
      refine pg.run pins s σ H vs us Q I rv ?_
      cases ds with
      | nil => simp only [Tg.binds] at hb; cases hb
      | cons d ds =>
        simp only [Tg.binds] at hb
        split at hb
        · rename_i σ1 hb1
          unfold Fzs at k
          obtain ⟨v, rr, ev, k1, k2⟩ := k
          refine ⟨v, rr, ev, Fr, ρ, G, σs, M, d, r, k1, σ1, hb1, fun τ r1 e1 l1 => ?_⟩
          refine ⟨Fr, ρ, G, σ1, M, ds, r1, k2, τs, hb, fun τ' r2 e2 l2 => q τ' r2 (fun j hj => ?_) (by rw [l2, l1])⟩
          simp only [Tg.is, List.mem_append, not_or] at hj
          rw [e2 j hj.2, e1 j hj.1]
        · cases hb
  | .n i, es, h => by simp only [chkTs] at h; cases h
  | .t i, es, h => by simp only [chkTs] at h; cases h
end
end
end VM
/-! VM6: comprehensions. -/
namespace VM
open PySem L2 PySem.Spec PyProof.Rows

/-! ### walks -/
/-- how a walk goes over what S tells -/
structure SqJ (J : L2.It) (S : Hp → List V → Prop) : Prop where
  go : ∀ i H vs x, S H vs → vs[i]? = some x → J.go i H
  stop : ∀ i H vs, S H vs → vs.length ≤ i → J.stop i H
  yld : ∀ i H x H', J.yld i H x H' → H' = H ∧ ∀ vs, S H vs → vs[i]? = some x
theorem sqj_l (K : PySem.W.Frag) (a : Addr) : SqJ (Itl K a) (fun H vs => SqL K H a vs) := ⟨fun _ _ vs x h e => ⟨vs, x, h, e⟩, fun _ _ vs h e => ⟨vs, h, e⟩, fun _ _ _ _ h => h⟩
theorem sqj_t (K : PySem.W.Frag) (a : Addr) : SqJ (Itt K a) (fun H vs => SqT K H a vs) := ⟨fun _ _ vs x h e => ⟨vs, x, h, e⟩, fun _ _ vs h e => ⟨vs, h, e⟩, fun _ _ _ _ h => h⟩

mutual
theorem same_ok : ∀ (d e : D), d.same e = true → d = e
  | .non, e, h => by cases e <;> simp [D.same] at h ⊢
  | .bl b, e, h => by cases e <;> simp [D.same] at h ⊢; exact h
  | .int b, e, h => by cases e <;> simp [D.same] at h ⊢; exact h
  | .str b, e, h => by cases e <;> simp [D.same] at h ⊢; exact h
  | .tup ds, e, h => by cases e <;> simp [D.same] at h ⊢; exact sames_ok _ _ h
  | .lst ds, e, h => by cases e <;> simp [D.same] at h ⊢; exact sames_ok _ _ h
  | .scr ds, e, h => by cases e <;> simp [D.same] at h ⊢; exact sames_ok _ _ h
  | .dct ks ds, e, h => by cases e <;> simp [D.same] at h ⊢; exact ⟨h.1, sames_ok _ _ h.2⟩
  | .cell i, e, h => by cases e <;> simp [D.same] at h ⊢; exact h
  | .ins C fs ds, e, h => by cases e <;> simp [D.same] at h ⊢; exact ⟨h.1.1, h.1.2, sames_ok _ _ h.2⟩
  | .exc, e, h => by cases e <;> simp [D.same] at h ⊢
theorem sames_ok : ∀ (xs ys : List D), sames xs ys = true → xs = ys
  | [], [], _ => rfl
  | [], _ :: _, h => by simp [sames] at h
  | _ :: _, [], h => by simp [sames] at h
  | x :: xs, y :: ys, h => by
    simp only [sames, Bool.and_eq_true] at h
    rw [same_ok x y h.1, sames_ok xs ys h.2]
end

/-- a walked value: where it stands, whatever has come since -/
structure Src (W : Wd) (Fr : Hp) (ρ : List Addr) (G : Hp) (σs : List SV) (σ : L2.St) (d : D) (xs : List D) (S : Hp → List V → Prop) : Prop where
  at_ : ∀ {ρ' : List Addr} {G' : Hp} {M : Mem} {H : Hp}, Rle ρ ρ' → Hle G G' → Rel W Fr ρ' G' σs M σ H → still d xs M = true → ∃ vs, S H vs ∧ Fzs W ρ' G' xs vs
  ln : xs.length < line
section
variable {W : Wd} {WW : WX} {Fr : Hp} {ρ : List Addr} {G : Hp} {σs : List SV} {M : Mem} {σ : L2.St} {H : Hp} {d : D} {v : V} {xs : List D} {K : PySem.W.Frag}
theorem src_of (hK : W.K = K) (r : Rel W Fr ρ G σs M σ H) (b : Bz W ρ G σs σ d v) (h : items d M = some xs) :
    ∃ a, v = .ref a ∧ (((∃ vs, SqL K H a vs) ∧ Src W Fr ρ G σs σ d xs fun H vs => SqL K H a vs) ∨ ((∃ vs, SqT K H a vs) ∧ Src W Fr ρ G σs σ d xs fun H vs => SqT K H a vs)) := by
  rcases b with b | ⟨i, e1, e2⟩
  · cases d with
    | lst ds =>
      simp only [items, deref, Option.some.injEq] at h
      subst h
      unfold Fz at b
      obtain ⟨a, vs, e, q, l, f⟩ := b
      exact ⟨a, e, .inl ⟨⟨vs, .of (r.gh _ _ q)⟩, fun hr hg r' _ => ⟨vs, .of (r'.gh _ _ (hg _ _ q)), f.mono hr hg⟩, l⟩⟩
    | scr ds =>
      simp only [items, deref, Option.some.injEq] at h
      subst h
      unfold Fz at b
      obtain ⟨a, vs, e, q, l, f⟩ := b
      exact ⟨a, e, .inl ⟨⟨vs, hK ▸ r.gh.sql q⟩, fun hr hg r' _ => ⟨vs, hK ▸ r'.gh.sql (hg.sql q), f.mono hr hg⟩, l⟩⟩
    | tup ds =>
      simp only [items, deref, Option.some.injEq] at h
      subst h
      unfold Fz at b
      obtain ⟨a, vs, e, q, l, f⟩ := b
      exact ⟨a, e, .inr ⟨⟨vs, hK ▸ r.gh.sqt q⟩, fun hr hg r' _ => ⟨vs, hK ▸ r'.gh.sqt (hg.sqt q), f.mono hr hg⟩, l⟩⟩
    | cell i =>
      have l := r.look (.inl b)
      unfold Fz at b
      obtain ⟨a, e, q⟩ := b
      subst e
      have mk : ∀ {ρ' : List Addr} {G' : Hp} {M' : Mem} {H' : Hp}, Rle ρ ρ' → Rel W Fr ρ' G' σs M' σ H' → ∀ {ys : List D}, items (.cell i) M' = some ys → ∃ vs, SqL K H' a vs ∧ Fzs W ρ' G' ys vs ∧ ys.length < line := fun {ρ' G' M' H'} hr r' {ys} h' => by
        have e := hr _ _ q
        have l' := r'.look (d := .cell i) (v := .ref a) (.inl (by unfold Fz; exact ⟨a, rfl, e⟩))
        unfold items at h'
        split at h'
        · rename_i zs e1
          simp only [Option.some.injEq] at h'
          subst h'
          rw [e1] at l'
          obtain ⟨a', vs, ea, ha, hl, f⟩ := l'
          cases ea
          exact ⟨vs, .of ha, f, hl⟩
        · rename_i zs e1
          exfalso
          have hi : i < M'.length := by rw [r'.len]; exact (List.getElem?_eq_some_iff.mp e).1
          obtain ⟨ho, h1, c, _⟩ := r'.mem i a M'[i] e (List.getElem?_eq_getElem hi)
          have : deref M' (.cell i) = M'[i] := by simp [deref, List.getD, List.getElem?_eq_getElem hi]
          rw [this] at e1
          rw [e1] at c
          exact c
        · rename_i zs e1
          exfalso
          have hi : i < M'.length := by rw [r'.len]; exact (List.getElem?_eq_some_iff.mp e).1
          obtain ⟨ho, h1, c, _⟩ := r'.mem i a M'[i] e (List.getElem?_eq_getElem hi)
          have : deref M' (.cell i) = M'[i] := by simp [deref, List.getD, List.getElem?_eq_getElem hi]
          rw [this] at e1
          rw [e1] at c
          exact c
        · cases h'
      obtain ⟨vs, s1, f1, l1⟩ := mk (Rle.refl _) r h
      refine ⟨a, rfl, .inl ⟨⟨vs, s1⟩, fun {ρ' G' M' H'} hr hg r' hs => ?_, l1⟩⟩
      unfold still at hs
      dsimp only at hs
      split at hs
      · rename_i ys e1
        have e2 := sames_ok _ _ hs
        subst e2
        obtain ⟨vs', s2, f2, _⟩ := mk hr r' e1
        exact ⟨vs', s2, f2⟩
      · cases hs
    | _ => simp [items, deref] at h
  · obtain ⟨p, e3, n⟩ := r.own i _ e1
    rw [e2] at e3
    cases e3
    obtain ⟨ho, e, c⟩ := n.at_
    cases d with
    | lst ds =>
      simp only [items, deref, Option.some.injEq] at h
      subst h
      obtain ⟨vs, eo, l, f⟩ := c
      subst eo
      refine ⟨p, rfl, .inl ⟨⟨vs, .of e⟩, fun {ρ' G' M' H'} hr hg r' _ => ?_, l⟩⟩
      obtain ⟨p', e4, n'⟩ := r'.own i _ e1
      rw [e2] at e4
      cases e4
      obtain ⟨ho', e', vs', eo', l', f'⟩ := n'.at_
      subst eo'
      exact ⟨vs', .of e', f'⟩
    | dct ks ds => simp [items, deref] at h
    | ins C fs ds => simp [items, deref] at h
    | _ => exact c.elim
end

/-! ### the block's slots -/
theorem wipe_get (σ : L2.St) : ∀ (vs : List Nat) (j : Nat), (L2.wipe σ vs)[j]? = if j ∈ vs then σ[j]?.map (fun _ => none) else σ[j]?
  | [], j => by simp [L2.wipe]
  | v :: vs, j => by
    show ((L2.wipe σ vs).set v none)[j]? = _
    by_cases q : v = j
    · subst q
      rw [if_pos List.mem_cons_self]
      by_cases hl : v < σ.length
      · rw [List.getElem?_set_self (by rw [wipe_length]; exact hl), List.getElem?_eq_getElem hl]; rfl
      · rw [List.getElem?_eq_none (by rw [List.length_set, wipe_length]; omega), List.getElem?_eq_none (by omega)]; rfl
    · rw [List.getElem?_set_ne q, wipe_get σ vs j]
      have : (j ∈ v :: vs) ↔ j ∈ vs := by simp; exact fun z => absurd z.symm q
      simp only [this]
theorem wipeS_get (σ : List SV) : ∀ (vs : List Nat) (j : Nat), j ∉ vs → (VM.wipe vs σ)[j]? = σ[j]?
  | [], j, _ => rfl
  | v :: vs, j, h => by
    simp only [List.mem_cons, not_or] at h
    show ((VM.wipe vs σ).set v .u)[j]? = _
    rw [List.getElem?_set_ne (fun z => h.1 z.symm), wipeS_get σ vs j h.2]
mutual
theorem bind_out : ∀ (t : Tg) (d : D) (σ τ : List SV) (j : Nat), t.bind d σ = some τ → j ∉ t.is → τ[j]? = σ[j]?
  | .n i, d, σ, τ, j, h, k => by
    simp only [Tg.bind, Option.some.injEq] at h
    subst h
    simp only [Tg.is, List.mem_singleton] at k
    exact List.getElem?_set_ne fun z => k z.symm
  | .t l, d, σ, τ, j, h, k => by
    simp only [Tg.bind] at h
    split at h
    · exact binds_out l _ σ τ j h k
    · cases h
  | .nil, d, σ, τ, j, h, k => by simp only [Tg.bind] at h; cases h
  | .cons _ _, d, σ, τ, j, h, k => by simp only [Tg.bind] at h; cases h
theorem binds_out : ∀ (t : Tg) (ds : List D) (σ τ : List SV) (j : Nat), t.binds ds σ = some τ → j ∉ t.is → τ[j]? = σ[j]?
  | .nil, ds, σ, τ, j, h, k => by
    simp only [Tg.binds] at h
    split at h
    · cases h; rfl
    · cases h
  | .cons a l, ds, σ, τ, j, h, k => by
    simp only [Tg.binds] at h
    simp only [Tg.is, List.mem_append, not_or] at k
    split at h
    · split at h
      · rename_i σ1 e1
        rw [binds_out l _ _ _ j h k.2, bind_out a _ _ _ j e1 k.1]
      · cases h
    · cases h
  | .n i, ds, σ, τ, j, h, k => by simp only [Tg.binds] at h; cases h
  | .t i, ds, σ, τ, j, h, k => by simp only [Tg.binds] at h; cases h
end
section
variable {W : Wd} {WW : WX} {Fr Fr' : Hp} {ρ ρ' : List Addr} {G G' : Hp} {σs τs : List SV} {M M' : Mem} {σ τ : L2.St} {H H' : Hp} {d : D} {v : V} {xs : List D} {own : List Nat}
theorem Rel.wiped (r : Rel W Fr ρ G σs M σ H) : ∀ own : List Nat, Rel W Fr ρ G (VM.wipe own σs) M (L2.wipe σ own) H
  | [] => r
  | i :: is => (r.wiped is).setu none
/-- out of the block -/
theorem Rel.outof (r : Rel W Fr ρ G σs M σ H) (r' : Rel W Fr' ρ' G' τs M' τ H') (hr : Rle ρ ρ') (hg : Hle G G') (hf : Hle Fr Fr') (no : noO own σs = true) (e1 : ∀ j, j ∉ own → τs[j]? = σs[j]?) (e2 : ∀ j, j ∉ own → τ[j]? = σ[j]?) : Rel W Fr ρ' G' σs M' σ H' where
  gh := r'.gh
  fh := hf.trans r'.fh
  gf := fun a o e => r'.gf a o (hf _ _ e)
  len := r'.len
  mem := fun i a d h1 h2 => by
    obtain ⟨ho, a1, a2, a3, a4⟩ := r'.mem i a d h1 h2
    refine ⟨ho, a1, a2, a3, ?_⟩
    cases q : Fr a with
    | none => rfl
    | some o => rw [hf _ _ q] at a4; cases a4
  nd := r'.nd
  sl := r.sl
  val := fun i d e => let ⟨v, h1, h2⟩ := r.val i d e; ⟨v, h1, h2.mono hr hg⟩
  own := fun i d e => by
    have hi : i ∉ own := fun z => by
      have := List.all_eq_true.mp no i z
      rw [e] at this
      cases this
    obtain ⟨p, h1, n⟩ := r'.own i d (by rw [e1 i hi]; exact e)
    refine ⟨p, by rw [← e2 i hi]; exact h1, n.at_, n.g, ?_, n.r⟩
    cases q : Fr p with
    | none => rfl
    | some o => have := n.f; rw [hf _ _ q] at this; cases this
  self := r.self
  uniq := r.uniq

theorem upTo_len {f : Nat → Int} {n : Nat} : (upTo f n).length = n := by unfold upTo; rw [List.length_map, List.length_range]
theorem upTo_get {f : Nat → Int} {n i : Nat} (h : i < (upTo f n).length) : (upTo f n)[i] = .int (f i) := by
  have : (upTo f n)[i]? = some (.int (f i)) := by
    unfold upTo
    rw [List.getElem?_map, List.getElem?_range (by rw [upTo_len] at h; exact h)]
    rfl
  rw [List.getElem?_eq_getElem h] at this
  exact Option.some.inj this
/-- a walk from a fixed place -/
structure WkS (W : Wd) (Fr : Hp) (ρ : List Addr) (G : Hp) (σs : List SV) (σ : L2.St) (J : L2.It) (xs : List D) (c : Mem → Bool) : Prop where
  go : ∀ {ρ' : List Addr} {G' : Hp} {M : Mem} {H : Hp} (i : Nat) (hi : i < xs.length), Rle ρ ρ' → Hle G G' → Rel W Fr ρ' G' σs M σ H → c M = true → J.go i H ∧ ∀ x H', J.yld i H x H' → H' = H ∧ Fz W ρ' G' xs[i] x
  stop : ∀ {ρ' : List Addr} {G' : Hp} {M : Mem} {H : Hp}, Rle ρ ρ' → Hle G G' → Rel W Fr ρ' G' σs M σ H → c M = true → J.stop xs.length H
theorem wks_of {J : L2.It} {S : Hp → List V → Prop} (sj : SqJ J S) (src : Src W Fr ρ G σs σ d xs S) : WkS W Fr ρ G σs σ J xs (still d xs) where
  go := fun {ρ' G' M H} i hi hr hg r hc => by
    obtain ⟨vs, h1, h2⟩ := src.at_ hr hg r hc
    obtain ⟨x, h3, h4⟩ := h2.get (List.getElem?_eq_getElem hi)
    refine ⟨sj.go i H vs x h1 h3, fun y H' hy => ?_⟩
    obtain ⟨e, k⟩ := sj.yld i H y H' hy
    have := k vs h1
    rw [h3] at this
    cases this
    exact ⟨e, h4⟩
  stop := fun {ρ' G' M H} hr hg r hc => by
    obtain ⟨vs, h1, h2⟩ := src.at_ hr hg r hc
    exact sj.stop _ H vs h1 (by rw [h2.length]; exact Nat.le_refl _)
theorem wks_rng {lo : Int} {n : Nat} {c : Mem → Bool} : WkS W Fr ρ G σs σ (Itr lo n) (upTo (fun k => lo + (k : Int)) n) c where
  go := fun i hi _ _ _ _ => by
    refine ⟨show i < n by rw [upTo_len] at hi; exact hi, fun x H' ⟨e1, e2⟩ => ⟨e1, ?_⟩⟩
    rw [upTo_get]
    exact e2
  stop := fun _ _ _ _ => by
    show n ≤ _
    rw [upTo_len]; exact Nat.le_refl _

/-! ### one turn's element -/
def ElOk (W : Wd) (WB : WX) (tt : TT) (te : TE) (el : List SV → Mem → Rs (Option D)) : Prop := ∀ (Fr : Hp) (ρ : List Addr) (G : Hp) (τs : List SV) (M : Mem) (τ : L2.St) (H : Hp) (P : VK) (R : Hp → Prop), Rel W Fr ρ G τs M τ H →
  (match el τs M with
    | .ok (some d) M' => ∀ ρ' G' v H', Rle ρ ρ' → Hle G G' → Rel W Fr ρ' G' τs M' τ H' → Fz W ρ' G' d v → P v H'
    | .ok none M' => ∀ ρ' G' H', Rle ρ ρ' → Hle G G' → Rel W Fr ρ' G' τs M' τ H' → R H'
    | .ex C M' => ∀ ρ' G' H', Rle ρ ρ' → Hle G G' → Rel W Fr ρ' G' τs M' τ H' → WB (.ref (W.ca C)) none τ H'
    | .stk => False) → tt τ H fun b H3 => if b = true then te τ H3 P else R H3
abbrev noW : WX := fun _ _ _ _ => False
/-- what a block lets out -/
abbrev outW (WW : WX) (σ : L2.St) : WX := fun cls d _ H => WW cls d σ H
variable {WB : WX}
theorem el_one (re : List SV → Mem → Rs KD) : ElOk W WB tYes (LF W WB fun σ M => (re σ M).fz) (fun τ M => (re τ M).fz.bind fun y M => .ok (some y) M) := by
  intro Fr ρ G τs M τ H P R r h
  show (if true = true then LF W WB (fun σ M => (re σ M).fz) τ H P else R H)
  rw [if_pos rfl]
  dsimp only at h
  refine ⟨Fr, ρ, G, τs, M, r, ?_⟩
  dsimp only
  cases q : (re τs M).fz with
  | ok d M1 => rw [q] at h; exact h
  | ex C M1 => rw [q] at h; exact h
  | stk => rw [q] at h; exact h
theorem el_if (rc re : List SV → Mem → Rs KD) : ElOk W WB (LT W WB fun σ M => (rc σ M).bl) (LF W WB fun σ M => (re σ M).fz)
    (fun τ M => (rc τ M).bl.bind fun k M => if k then (re τ M).fz.bind fun y M => .ok (some y) M else .ok none M) := by
  intro Fr ρ G τs M τ H P R r h
  dsimp only at h
  refine ⟨Fr, ρ, G, τs, M, r, ?_⟩
  dsimp only
  cases q : (rc τs M).bl with
  | ok k M1 =>
    rw [q] at h
    intro ρ1 G1 b H1 hr hg r1 e
    subst e
    cases b with
    | true =>
      rw [if_pos rfl]
      refine ⟨Fr, ρ1, G1, τs, M1, r1, ?_⟩
      simp only [Rs.bind, if_true] at h
      dsimp only
      cases q2 : (re τs M1).fz with
      | ok d M2 => rw [q2] at h; exact fun ρ2 G2 v H2 h1 h2 h3 h4 => h ρ2 G2 v H2 (hr.trans h1) (hg.trans h2) h3 h4
      | ex C M2 => rw [q2] at h; exact fun ρ2 G2 H2 h1 h2 h3 => h ρ2 G2 H2 (hr.trans h1) (hg.trans h2) h3
      | stk => rw [q2] at h; exact h
    | false =>
      show (if false = true then _ else R H1)
      rw [if_neg (fun z => nomatch z)]
      exact h ρ1 G1 H1 hr hg r1
  | ex C M1 => rw [q] at h; exact h
  | stk => rw [q] at h; exact h
/-! ### the whole reading -/
theorem lc_bind {R : Rs (List D)} {ys : List D} {y : Option D} {Q : VK} (h : Aft W WW Fr (RRk W Fr) ρ G σs σ ((R.bind fun zs M => .ok (match y with
      | some d => d :: zs
      | none => zs) M).bind fun zs M => okn (.lst (ys ++ zs)) M) Q) : Aft W WW Fr (RRk W Fr) ρ G σs σ (R.bind fun zs M => okn (.lst ((ys ++ y.toList) ++ zs)) M) Q := by
  cases R with
  | ok zs M =>
    cases y with
    | none => simpa only [Rs.bind, Option.toList, List.append_nil] using h
    | some d =>
      have e : ys ++ [d] ++ zs = ys ++ (d :: zs) := by simp
      simpa only [Rs.bind, Option.toList, e] using h
  | ex C M => exact h
  | stk => exact h
theorem lc_read {J : L2.It} {t : Tg} {c : Mem → Bool} {tt : TT} {te : TE} {el : List SV → Mem → Rs (Option D)} {Q : VK} (r : Rel W Fr ρ G σs M σ H) (wk : WkS W Fr ρ G σs σ J xs c) (ln : xs.length < line) (eo : ElOk W (outW WW σ) tt te el) (no : noO own σs = true) (ht : ∀ j ∈ t.is, j ∈ own)
    (q : Aft W WW Fr (RRk W Fr) ρ G σs σ ((lcL c (lcF own t σs el) xs M).bind fun ys M => okn (.lst ys) M) Q) :
    ∀ D, H D = none → ∃ Wv : Nat → Nat → Hp → Prop, (∃ m, Wv 0 m (upd H D (.lst []))) ∧ ∀ i m H, Wv i m H →
      (J.stop i H ∧ Q (.ref D) H) ∨ (J.go i H ∧ ∃ Nx : Hp → Prop, (∀ H', Nx H' → ∃ m', m' < m ∧ Wv (i + 1) m' H') ∧ ∀ x H', J.yld i H x H' → LG W t x (L2.wipe σ own) H' fun σ2 H2 => L2.wipe σ2 own = L2.wipe σ own ∧ tt σ2 H2 fun b H3 =>
        if b = true then te σ2 H3 fun y H4 => ∃ acc, H4 D = some (.lst acc) ∧ acc.length < sizeLine ∧ Nx (upd H4 D (.lst (acc ++ [y]))) else Nx H3) := by
  intro D hD
  -- what holds ahead of turn i
  let P : Nat → Hp → Prop := fun i H' => i ≤ xs.length ∧ ∃ (ρ1 : List Addr) (G1 : Hp) (M1 : Mem) (acc : List V) (ys : List VM.D), Rle ρ ρ1 ∧ Hle G G1 ∧ Rel W Fr ρ1 G1 σs M1 σ H' ∧ H' D = some (.lst acc) ∧ Fzs W ρ1 G1 ys acc ∧ ys.length ≤ i ∧ G1 D = none ∧ Fr D = none ∧ D ∉ ρ1 ∧
    (∀ j, ¬ Own σs σ j D) ∧ Aft W WW Fr (RRk W Fr) ρ1 G1 σs σ ((lcL c (lcF own t σs el) (xs.drop i) M1).bind fun zs M => okn (.lst (ys ++ zs)) M) Q
  refine ⟨fun i m H' => m = xs.length - i ∧ P i H', ⟨xs.length, rfl, Nat.zero_le _, ρ, G, M, [], [], Rle.refl _, Hle.refl _, r.push hD, upd_same, .nil, Nat.le_refl _, r.none_g hD, r.none_f hD, r.none_r hD, r.noOwn hD, ?_⟩, ?_⟩
  · rw [List.drop_zero]
    exact q
  · rintro i m H' ⟨rfl, hi, ρ1, G1, M1, acc, ys, hr, hg, r1, h1, h2, h3, g1, f1, n1, o1, fin⟩
    have st : c M1 = true := by
      by_cases hs : c M1 = true
      · exact hs
      · exfalso
        cases e : xs.drop i with
        | nil => rw [e] at fin; simp only [lcL] at fin; rw [if_neg hs] at fin; exact fin
        | cons x r => rw [e] at fin; simp only [lcL] at fin; rw [if_neg hs] at fin; exact fin
    by_cases hlt : i < xs.length
    · have ed : xs.drop i = xs[i] :: xs.drop (i + 1) := List.drop_eq_getElem_cons hlt
      rw [ed] at fin
      simp only [lcL] at fin
      rw [if_pos st] at fin
      obtain ⟨w1, w2⟩ := wk.go i hlt hr hg r1 st
      refine .inr ⟨w1, P (i + 1), fun H2 k => ⟨xs.length - (i + 1), by omega, rfl, k⟩, fun x H2 hy => ?_⟩
      obtain ⟨rfl, fx⟩ := w2 x H2 hy
      have rg := r1.guard h1 g1 n1 o1
      refine ⟨upd Fr D (.lst acc), ρ1, G1, VM.wipe own σs, M1, xs[i], rg.wiped own, fx, ?_⟩
      cases hb : t.bind xs[i] (VM.wipe own σs) with
      | none =>
        rw [show lcF own t σs el xs[i] M1 = .stk from by unfold lcF; rw [hb]] at fin
        exact fin.elim
      | some τs =>
        rw [show lcF own t σs el xs[i] M1 = el τs M1 from by unfold lcF; rw [hb]] at fin
        refine ⟨τs, rfl, fun τ rt e1 l1 => ?_⟩
        have out1 : ∀ j, j ∉ own → τs[j]? = σs[j]? := fun j hj => by rw [bind_out t _ _ _ j hb (fun z => hj (ht j z)), wipeS_get σs own j hj]
        have out2 : ∀ j, j ∉ own → τ[j]? = σ[j]? := fun j hj => by rw [e1 j (fun z => hj (ht j z)), wipe_get, if_neg hj]
        refine ⟨?_, ?_⟩
        · apply List.ext_getElem?
          intro j
          rw [wipe_get, wipe_get]
          by_cases hj : j ∈ own
          · rw [if_pos hj, if_pos hj]
            have l2 : τ.length = σ.length := by rw [l1, wipe_length]
            by_cases hl : j < σ.length
            · rw [List.getElem?_eq_getElem (show j < τ.length by omega), List.getElem?_eq_getElem hl]; rfl
            · rw [List.getElem?_eq_none (show τ.length ≤ j by omega), List.getElem?_eq_none (show σ.length ≤ j by omega)]
          · rw [if_neg hj, if_neg hj, out2 j hj]
        · have hfr : Hle Fr (upd Fr D (.lst acc)) := upd_le f1
          have back : ∀ {ρ2 : List Addr} {G2 : Hp} {M2 : Mem} {H2 : Hp}, Rle ρ1 ρ2 → Hle G1 G2 → Rel W (upd Fr D (.lst acc)) ρ2 G2 τs M2 τ H2 → Rel W Fr ρ2 G2 σs M2 σ H2 ∧ H2 D = some (.lst acc) ∧ G2 D = none ∧ D ∉ ρ2 := fun {ρ2 G2 M2 H2} a b c => by
            refine ⟨r1.outof c a b hfr no out1 out2, c.fh _ _ upd_same, c.gf _ _ upd_same, fun z => ?_⟩
            obtain ⟨k, hk, ek⟩ := List.getElem_of_mem z
            have hm : k < M2.length := by rw [c.len]; exact hk
            obtain ⟨_, _, _, _, h4⟩ := c.mem k D M2[k] (by rw [List.getElem?_eq_getElem hk, ek]) (List.getElem?_eq_getElem hm)
            rw [upd_same] at h4; cases h4
          refine eo _ ρ1 G1 τs M1 τ H2 _ _ rt ?_
          cases he : el τs M1 with
          | ok o M2 =>
            rw [he] at fin
            have fin := lc_bind (y := o) fin
            cases o with
            | some y =>
              intro ρ2 G2 v H3 a b c k
              obtain ⟨c1, c2, c3, c4⟩ := back a b c
              refine ⟨acc, c2, ?_, hlt, ρ2, G2, M2, acc ++ [v], ys ++ [y], hr.trans a, hg.trans b, c1.poke c3 f1 c4 o1, upd_same, (h2.mono a b).append (.one k), by rw [List.length_append]; simp; omega, c3, f1, c4, o1, Aft.from a b fin⟩
              rw [line_eq, ← h2.length]
              omega
            | none =>
              intro ρ2 G2 H3 a b c
              obtain ⟨c1, c2, c3, c4⟩ := back a b c
              have e : ys ++ (none : Option VM.D).toList = ys := by simp
              rw [e] at fin
              exact ⟨hlt, ρ2, G2, M2, acc, ys, hr.trans a, hg.trans b, c1, c2, h2.mono a b, by omega, c3, f1, c4, o1, Aft.from a b fin⟩
          | ex C M2 =>
            rw [he] at fin
            exact fun ρ2 G2 H3 a b c => fin ρ2 G2 H3 a b (back a b c).1
          | stk => rw [he] at fin; exact fin
    · -- the end
      have e : i = xs.length := by omega
      subst e
      rw [List.drop_length] at fin
      simp only [lcL] at fin
      rw [if_pos st] at fin
      refine .inl ⟨wk.stop hr hg r1 st, ?_⟩
      have fin : Aft W WW Fr (RRk W Fr) ρ1 G1 σs σ (okn (.lst (ys ++ [])) M1) Q := fin
      rw [List.append_nil] at fin
      exact fin ρ1 G1 (.ref D) H' (Rle.refl _) (Hle.refl _) r1 ⟨D, rfl, ⟨⟨_, h1, _, rfl, by omega, h2⟩, g1, f1, n1⟩, o1⟩
end
end VM
/-! VM7: a comprehension, statements. -/
namespace VM
open PySem L2 PySem.Spec PyProof.Rows

section
variable {T : Tab} {Φ : Hot → Nat → List D → Mem → Rs KD} {Γ : Tx} {nm : Nm} {n : Nat} {N : List Str} {sc : Scope} {hot : Hot} {xa : Option Addr} {WW : WX} {X : Cx}
theorem Cok.blk (c : Cok T Φ Γ nm n N sc hot xa WW X) {L : Addr} (fr : Frm X L) (σ : L2.St) (scope : Scope) (s : Shared) (H : Hp) (C : Addr) (cl : List (Str × Addr)) (fp : List Addr) (E : Value → Shared → Prop)
    (toE : ∀ u s', ExE (blkX X s H scope (compEnvC scope cl C X.env) fp E) L (outW WW σ) u s' → E u s') : Cok T Φ Γ nm n N (relS scope sc) hot xa (outW WW σ) (blkX X s H scope (compEnvC scope cl C X.env) fp E) where
  N := c.N
  nd := c.nd
  sc := by rw [← c.sc]; rfl
  sk := c.sk
  fx := ⟨L, ⟨fr.fr, fr.top⟩, toE⟩
  un := c.un
  mode := c.mode
  ar := c.ar
  fk := c.fk
/-- all that is known of a comprehension -/
structure LcP (X : Cx) (WW : WX) (iter tg elt : Expr) (ifs : List Expr) (scope : Scope) (own : List (Str × Nat)) (r : TE) : Prop where
  ex : ∃ (wi : TI) (g : TG) (tt : L2.St → TT) (te : L2.St → TE) (L : Addr), Frm X L ∧ (∀ u s', ExE X L WW u s' → X.xe u s') ∧ PIQ X tg iter wi ∧ BlkOk X.N X.env.scope scope own ∧
    (∀ (s : Shared) (H : Hp) (C : Addr) (cl : List (Str × Addr)) (fp : List Addr) (E : Value → Shared → Prop), PG (blkX X s H scope (compEnvC scope cl C X.env) fp E) tg g) ∧
    (∀ (σ : L2.St) (s : Shared) (H : Hp) (C : Addr) (cl : List (Str × Addr)) (fp : List Addr) (E : Value → Shared → Prop), (∀ u s', ExE (blkX X s H scope (compEnvC scope cl C X.env) fp E) L (fun cls d _ H => WW cls d σ H) u s' → E u s') → PTs (blkX X s H scope (compEnvC scope cl C X.env) fp E) ifs (tt σ)) ∧
    (∀ (σ : L2.St) (s : Shared) (H : Hp) (C : Addr) (cl : List (Str × Addr)) (fp : List Addr) (E : Value → Shared → Prop), (∀ u s', ExE (blkX X s H scope (compEnvC scope cl C X.env) fp E) L (fun cls d _ H => WW cls d σ H) u s' → E u s') → PE (blkX X s H scope (compEnvC scope cl C X.env) fp E) elt (te σ)) ∧
    (∀ x, foldedSetIterable iter X.env x = pure x) ∧ ∀ σ H Q, r σ H Q → tLcX wi g tt te (own.map (·.2)) σ H Q
theorem LcP.pe {iter elt tg : Expr} {ifs : List Expr} {scope : Scope} {own : List (Str × Nat)} {pos : Pos} {r : TE} (c : Cok T Φ Γ nm n N sc hot xa WW X) (p : LcP X WW iter tg elt ifs scope own r) : PE X (.ListComp elt [⟨tg, iter, ifs, 0⟩] scope pos) r := by
  obtain ⟨wi, g, tt, te, L, fr, hx, hi, hb, hg, ht, he, hs, k⟩ := p.ex
  exact PE.weak (pe_lcx c.calm fr hx c.nd hi hb hg ht he hs) k
/-- its elements: what is asked of the block -/
structure LcE (X : Cx) (WW : WX) (W : Wd) (L : Addr) (tg elt : Expr) (ifs : List Expr) (scope : Scope) (t : Tg) (el : List SV → Mem → Rs (Option D)) : Prop where
  hg : ∀ (s : Shared) (H : Hp) (C : Addr) (cl : List (Str × Addr)) (fp : List Addr) (E : Value → Shared → Prop), PG (blkX X s H scope (compEnvC scope cl C X.env) fp E) tg (LG W t)
  el : ∃ (tt : L2.St → TT) (te : L2.St → TE), (∀ σ, ElOk W (outW WW σ) (tt σ) (te σ) el) ∧ ∀ (σ : L2.St) (s : Shared) (H : Hp) (C : Addr) (cl : List (Str × Addr)) (fp : List Addr) (E : Value → Shared → Prop),
    (∀ u s', ExE (blkX X s H scope (compEnvC scope cl C X.env) fp E) L (outW WW σ) u s' → E u s') → PTs (blkX X s H scope (compEnvC scope cl C X.env) fp E) ifs (tt σ) ∧ PE (blkX X s H scope (compEnvC scope cl C X.env) fp E) elt (te σ)
theorem v_lc (c : Cok T Φ Γ nm n N sc hot xa WW X) {iter elt tg : Expr} {ifs : List Expr} {scope : Scope} {own' : List (Str × Nat)} {rit : List SV → Mem → Rs KD} {t : Tg} {el : List SV → Mem → Rs (Option D)}
    (hit : PE X iter (LK (wd X nm xa) WW rit)) (hb : BlkOk X.N X.env.scope scope own') (he : ∀ L, Frm X L → LcE X WW (wd X nm xa) L tg elt ifs scope t el) (hto : ∀ j ∈ t.is, j ∈ own'.map (·.2)) (hs : ∀ x, foldedSetIterable iter X.env x = pure x) {own : List Nat} (ho : own = own'.map (·.2)) :
    LcP X WW iter tg elt ifs scope own' (LK (wd X nm xa) WW fun σ M => if !noO own σ then .stk else (rit σ M).bw.bind fun d M => (match items d M with
      | some xs => (lcL (still d xs) (lcF own t σ el) xs M).bind fun ys M => okn (.lst ys) M
      | none => .stk)) := by
  obtain ⟨L, fr, hx⟩ := c.fx
  obtain ⟨hg, tt, te, eo, h2⟩ := he L fr
  refine ⟨_, _, tt, te, L, fr, hx, pi_sqQ (pe_bw hit), hb, hg, fun σ s H C cl fp E k => (h2 σ s H C cl fp E k).1, fun σ s H C cl fp E k => (h2 σ s H C cl fp E k).2, hs, ?_⟩
  intro σ H Q ⟨Fr, ρ, G, σs, M, r, q⟩
  dsimp only at q
  split at q
  · exact q.elim
  · rename_i hno
    have hno : noO own σs = true := by simpa using hno
    refine ⟨Fr, ρ, G, σs, M, r, (Aft.bind (RA := RRb _) q).weaker ?_⟩
    rintro x H1 ⟨ρ1, G1, M1, d, hr1, hg1, r1, k1, q1⟩
    dsimp only at q1
    split at q1
    · rename_i xs hx
      obtain ⟨a, ea, hq⟩ := src_of (K := X.K) rfl r1 k1 hx
      refine ⟨a, ea, ?_⟩
      subst ho
      rcases hq with ⟨h1, h2⟩ | ⟨h1, h2⟩
      · exact .inl ⟨h1, lc_read r1 (wks_of (sqj_l X.K a) h2) h2.ln (eo σ) hno hto q1⟩
      · exact .inr ⟨h1, lc_read r1 (wks_of (sqj_t X.K a) h2) h2.ln (eo σ) hno hto q1⟩
    · exact q1.elim
theorem Fzs_int {W : Wd} {Fr : Hp} {ρ : List Addr} {G : Hp} {σs : List SV} {M : Mem} {σ : L2.St} {H : Hp} {i : Int} {v : V} (r : Rel W Fr ρ G σs M σ H) (k : Bz W ρ G σs σ (.int i) v) : v = .int i := k.int r
theorem v_lcr1 (c : Cok T Φ Γ nm n N sc hot xa WW X) {a elt tg : Expr} {ifs : List Expr} {scope : Scope} {own' : List (Str × Nat)} {p1 p2 : Pos} {ra : List SV → Mem → Rs (List D)} {t : Tg} {el : List SV → Mem → Rs (Option D)}
    (hgl : gloC sc "range" = true) (h1 : noStar a = true) (hit : PA X [a] (LAb (wd X nm xa) WW ra)) (hb : BlkOk X.N X.env.scope scope own') (he : ∀ L, Frm X L → LcE X WW (wd X nm xa) L tg elt ifs scope t el) (hto : ∀ j ∈ t.is, j ∈ own'.map (·.2)) {own : List Nat} (ho : own = own'.map (·.2))
    (one : ∀ σ M ds M', ra σ M = .ok ds M' → ds.length = 1) :
    LcP X WW (.Call (.Name "range" p1) [a] [] p2) tg elt ifs scope own' (LK (wd X nm xa) WW fun σ M => if !noO own σ then .stk else (ra σ M).bind fun ds M => (match rngL ds with
      | some xs => (lcL (still .non xs) (lcF own t σ el) xs M).bind fun ys M => okn (.lst ys) M
      | none => .stk)) := by
  obtain ⟨L, fr, hx⟩ := c.fx
  obtain ⟨hg, tt, te, eo, h2⟩ := he L fr
  have gl : Gl X "range" := by unfold Gl Env.kindOf; rw [c.sc]; exact gloC_ok hgl
  have fre : X.mg "range" = none := c.sk.free _ (by decide +kernel)
  refine ⟨_, _, tt, te, L, fr, hx, pi_rng1Q gl fre hit (star_cons h1), hb, hg, fun σ s H C cl fp E k => (h2 σ s H C cl fp E k).1, fun σ s H C cl fp E k => (h2 σ s H C cl fp E k).2, fun _ => rfl, ?_⟩
  intro σ H Q ⟨Fr, ρ, G, σs, M, r, q⟩
  dsimp only at q
  split at q
  · exact q.elim
  · rename_i hno
    have hno : noO own σs = true := by simpa using hno
    refine ⟨Fr, ρ, G, σs, M, r, ?_⟩
    dsimp only
    have len := one σs M
    cases e : ra σs M with
    | ok ds M1 =>
      rw [e] at q
      have l1 := len ds M1 e
      intro ρ1 G1 vs H1 hr hg1 r1 k1
      subst ho
      cases ds with
      | nil => cases l1
      | cons d ds =>
        cases ds with
        | cons _ _ => simp at l1
        | nil =>
          obtain ⟨v, r', rfl, kd, kr⟩ := k1
          have kr : r' = [] := kr
          subst kr
          · simp only [Rs.bind, rngL] at q
            split at q
            · rename_i xs hxs
              split at hxs
              · rename_i ys hys
                split at hxs
                · rename_i hl
                  cases hxs
                  unfold rng1 at hys
                  split at hys
                  · rename_i j
                    split at hys
                    · rename_i hj
                      cases hys
                      exact ⟨j, by rw [kd.int r1], by omega, by omega, lc_read r1 wks_rng hl (eo σ) hno hto (Aft.from hr hg1 q)⟩
                    · cases hys
                  · cases hys
                · cases hxs
              · cases hxs
            · exact q.elim
    | ex C M1 => rw [e] at q; exact q
    | stk => rw [e] at q; exact q.elim

theorem v_lcr2 (c : Cok T Φ Γ nm n N sc hot xa WW X) {a b elt tg : Expr} {ifs : List Expr} {scope : Scope} {own' : List (Str × Nat)} {p1 p2 : Pos} {ra : List SV → Mem → Rs (List D)} {t : Tg} {el : List SV → Mem → Rs (Option D)}
    (hgl : gloC sc "range" = true) (h1 : noStar a = true) (h2 : noStar b = true) (hit : PA X [a, b] (LAb (wd X nm xa) WW ra)) (hb : BlkOk X.N X.env.scope scope own') (he : ∀ L, Frm X L → LcE X WW (wd X nm xa) L tg elt ifs scope t el) (hto : ∀ j ∈ t.is, j ∈ own'.map (·.2)) {own : List Nat} (ho : own = own'.map (·.2))
    (one : ∀ σ M ds M', ra σ M = .ok ds M' → ds.length = 2) :
    LcP X WW (.Call (.Name "range" p1) [a, b] [] p2) tg elt ifs scope own' (LK (wd X nm xa) WW fun σ M => if !noO own σ then .stk else (ra σ M).bind fun ds M => (match rngL ds with
      | some xs => (lcL (still .non xs) (lcF own t σ el) xs M).bind fun ys M => okn (.lst ys) M
      | none => .stk)) := by
  obtain ⟨L, fr, hx⟩ := c.fx
  obtain ⟨hg, tt, te, eo, h3⟩ := he L fr
  have gl : Gl X "range" := by unfold Gl Env.kindOf; rw [c.sc]; exact gloC_ok hgl
  have fre : X.mg "range" = none := c.sk.free _ (by decide +kernel)
  refine ⟨_, _, tt, te, L, fr, hx, pi_rng2Q gl fre hit (by rw [star_cons h1, star_cons h2]; rfl) (by rw [star_cons h2]; rfl), hb, hg, fun σ s H C cl fp E k => (h3 σ s H C cl fp E k).1, fun σ s H C cl fp E k => (h3 σ s H C cl fp E k).2, fun _ => rfl, ?_⟩
  intro σ H Q ⟨Fr, ρ, G, σs, M, r, q⟩
  dsimp only at q
  split at q
  · exact q.elim
  · rename_i hno
    have hno : noO own σs = true := by simpa using hno
    refine ⟨Fr, ρ, G, σs, M, r, ?_⟩
    dsimp only
    have len := one σs M
    cases e : ra σs M with
    | ok ds M1 =>
      rw [e] at q
      have l1 := len ds M1 e
      intro ρ1 G1 vs H1 hr hg1 r1 k1
      subst ho
      match ds, l1 with
      | [d, d'], hlen =>
        clear hlen
        obtain ⟨v, r', rfl, kd, v', r'', rfl, kd', kr⟩ := k1
        have kr : r'' = [] := kr
        subst kr
        simp only [Rs.bind, rngL] at q
        split at q
        · rename_i xs hxs
          split at hxs
          · rename_i ys hys
            split at hxs
            · rename_i hl
              cases hxs
              unfold rng2 at hys
              split at hys
              · rename_i i j
                split at hys
                · rename_i hj
                  cases hys
                  exact ⟨i, j, by rw [kd.int r1, kd'.int r1], ⟨by omega, by omega, by omega, by omega⟩, lc_read r1 wks_rng hl (eo σ) hno hto (Aft.from hr hg1 q)⟩
                · cases hys
              · cases hys
            · cases hxs
          · cases hxs
        · exact q.elim
    | ex C M1 => rw [e] at q; exact q
    | stk => rw [e] at q; exact q.elim

/-! ### statements -/
/-- a def's own frame -/
structure FnL (WW : WX) (X : Cx) : Prop where
  stk : X.stack = X.env :: X.outer
  fr : X.env.frame = some X.env.locals
  fn : ∀ x, X.fn x = true
  kd : X.env.scope.kind = .function
  tk : L2N.Takes X WW
  po : PassesOwn (model X.prog X.w) X.A X.env X.xe
theorem fx_of {X : Cx} {WW : WX} (stk : X.stack = X.env :: X.outer) (fr : X.env.frame = some X.env.locals) (tk : L2N.Takes X WW) : ∃ L, Frm X L ∧ ∀ u s', ExE X L WW u s' → X.xe u s' := ⟨X.env.locals, ⟨fr, X.env, X.outer, stk, fr⟩, tk⟩
def AftS (W : Wd) (WW : WX) (Fr : Hp) (ρ : List Addr) (G : Hp) (R : Sx) (D : Ends) : Prop :=
  match R with
  | .nx σs M => ∀ (ρ' : List Addr) (G' : Hp) (σ : L2.St) (H : Hp), Rle ρ ρ' → Hle G G' → Rel W Fr ρ' G' σs M σ H → D.nx σ H
  | .rt r M => ∀ (ρ' : List Addr) (G' : Hp) (v : V) (H : Hp), Rle ρ ρ' → Hle G G' → MRel W Fr ρ' G' M H → ResC W Fr ρ' G' H r v → D.rt v H
  | .ex C σs M => ∀ (ρ' : List Addr) (G' : Hp) (σ : L2.St) (H : Hp), Rle ρ ρ' → Hle G G' → Rel W Fr ρ' G' σs M σ H → WW (.ref (W.ca C)) none σ H
  | .stk => False
def LS (W : Wd) (WW : WX) (r : List SV → Mem → Sx) : TS := fun D σ H => ∃ (Fr : Hp) (ρ : List Addr) (G : Hp) (σs : List SV) (M : Mem), Rel W Fr ρ G σs M σ H ∧ AftS W WW Fr ρ G (r σs M) D
section
variable {W : Wd} {WW : WX} {Fr : Hp} {ρ : List Addr} {G : Hp} {σs : List SV} {M : Mem} {σ : L2.St} {H : Hp} {D : Ends} {α β : Type} {RA : RT α β}
theorem AftS.from {R : Sx} {ρ0 : List Addr} {G0 : Hp} (hr : Rle ρ0 ρ) (hg : Hle G0 G) (h : AftS W WW Fr ρ0 G0 R D) : AftS W WW Fr ρ G R D := by
  cases R with
  | nx s M => exact fun ρ' G' σ H h1 h2 h3 => h ρ' G' σ H (hr.trans h1) (hg.trans h2) h3
  | rt r M => exact fun ρ' G' v H h1 h2 h3 h4 => h ρ' G' v H (hr.trans h1) (hg.trans h2) h3 h4
  | ex C s M => exact fun ρ' G' σ H h1 h2 h3 => h ρ' G' σ H (hr.trans h1) (hg.trans h2) h3
  | stk => exact h
theorem AftS.on {R : Rs α} {f : α → Mem → Sx} (h : AftS W WW Fr ρ G (R.on σs f) D) : Aft W WW Fr RA ρ G σs σ R fun x H1 =>
    ∃ (ρ1 : List Addr) (G1 : Hp) (M1 : Mem) (a : α), Rle ρ ρ1 ∧ Hle G G1 ∧ Rel W Fr ρ1 G1 σs M1 σ H1 ∧ RA ρ1 G1 σs σ H1 a x ∧ AftS W WW Fr ρ1 G1 (f a M1) D := by
  cases R with
  | ok a M => exact fun ρ' G' v H' h1 h2 h3 h4 => ⟨ρ', G', M, a, h1, h2, h3, h4, AftS.from h1 h2 (show AftS W WW Fr ρ G (f a M) D from h)⟩
  | ex C M => exact fun ρ' G' H' h1 h2 h3 => h ρ' G' σ H' h1 h2 h3
  | stk => exact h
theorem AftS.next {R : Sx} {f : List SV → Mem → Sx} (h : AftS W WW Fr ρ G (R.next f) D) : AftS W WW Fr ρ G R { D with nx := LS W WW f D } := by
  cases R with
  | nx s M => exact fun ρ' G' σ H h1 h2 h3 => ⟨Fr, ρ', G', s, M, h3, AftS.from h1 h2 (show AftS W WW Fr ρ G (f s M) D from h)⟩
  | rt r M => exact h
  | ex C s M => exact h
  | stk => exact h
end
section
variable {W : Wd} {ra : List SV → Mem → Rs KD} {e : Expr} {pos : Pos}
theorem s_nil : PSs X [] (LS W WW fun σ M => .nx σ M) := PSs.weak pss_nil fun D σ H ⟨Fr, ρ, G, σs, M, r, q⟩ => q ρ G σ H (Rle.refl _) (Hle.refl _) r
theorem s_cons {st : Stmt} {rest : List Stmt} {r1 r2 : List SV → Mem → Sx} (h1 : PS X st (LS W WW r1)) (h2 : PSs X rest (LS W WW r2)) : PSs X (st :: rest) (LS W WW fun σ M => (r1 σ M).next r2) :=
  PSs.weak (pss_cons h1 h2) fun D σ H ⟨Fr, ρ, G, σs, M, r, q⟩ => ⟨Fr, ρ, G, σs, M, r, q.next⟩
theorem s_pass : PS X (.Pass pos) (LS W WW fun σ M => .nx σ M) := PS.weak ps_pass fun D σ H ⟨Fr, ρ, G, σs, M, r, q⟩ => q ρ G σ H (Rle.refl _) (Hle.refl _) r
theorem s_exp (hs : swapsWith e none pos.line X.env = pure false) (he : PE X e (LK W WW ra)) : PS X (.Expr e pos) (LS W WW fun σ M => (ra σ M).on σ fun _ M => .nx σ M) := by
  refine PS.weak (ps_expr he hs) fun D σ H ⟨Fr, ρ, G, σs, M, r, q⟩ => ⟨Fr, ρ, G, σs, M, r, (AftS.on (RA := RRk W Fr) q).weaker ?_⟩
  rintro x H1 ⟨ρ1, G1, M1, a, h1, h2, h3, h4, h5⟩
  exact h5 ρ1 G1 σ H1 (Rle.refl _) (Hle.refl _) h3
theorem s_ret (he : PE X e (LK W WW ra)) : PS X (.Return (some e) pos) (LS W WW fun σ M => (ra σ M).on σ fun r M => .rt (out r) M) := by
  refine PS.weak (ps_ret he) fun D σ H ⟨Fr, ρ, G, σs, M, r, q⟩ => ⟨Fr, ρ, G, σs, M, r, (AftS.on (RA := RRk W Fr) q).weaker ?_⟩
  rintro x H1 ⟨ρ1, G1, M1, ⟨k, d⟩, h1, h2, h3, h4, h5⟩
  refine h5 ρ1 G1 x H1 (Rle.refl _) (Hle.refl _) h3.toMRel ?_
  cases k with
  | f => exact h4
  | n =>
    obtain ⟨p, e, n, _⟩ := h4
    exact ⟨p, e, n⟩
  | b =>
    obtain ⟨i, e1, e2⟩ := h4
    obtain ⟨p, e3, n⟩ := h3.own i _ e1
    rw [e2] at e3
    cases e3
    exact ⟨p, rfl, n⟩
theorem s_retN : PS X (.Return none pos) (LS W WW fun σ M => (ok1 .non M).on σ fun r M => .rt (out r) M) :=
  PS.weak ps_retN fun D σ H ⟨Fr, ρ, G, σs, M, r, q⟩ => q ρ G .non H (Rle.refl _) (Hle.refl _) r.toMRel rfl
theorem s_ite {t : Expr} {a b : List Stmt} {r1 r2 : List SV → Mem → Sx} (ht : PT X t (LT W WW fun σ M => (ra σ M).bl)) (h1 : PSs X a (LS W WW r1)) (h2 : PSs X b (LS W WW r2)) :
    PS X (.If t a b pos) (LS W WW fun σ M => (ra σ M).bl.on σ fun k M => if k then r1 σ M else r2 σ M) := by
  refine PS.weak (ps_if ht h1 h2) fun D σ H ⟨Fr, ρ, G, σs, M, r, q⟩ => ⟨Fr, ρ, G, σs, M, r, (AftS.on (RA := RRt) q).weaker ?_⟩
  rintro x H1 ⟨ρ1, G1, M1, a, h1, h2, h3, h4, h5⟩
  subst h4
  cases x with
  | true => exact ⟨Fr, ρ1, G1, σs, M1, h3, h5⟩
  | false => exact ⟨Fr, ρ1, G1, σs, M1, h3, h5⟩
/-- a shared object is made of something new -/
theorem Rel.share {W : Wd} {Fr : Hp} {ρ : List Addr} {G : Hp} {σs : List SV} {M : Mem} {σ : L2.St} {H : Hp} {d : VM.D} {p : Addr} (r : Rel W Fr ρ G σs M σ H) (n : New W Fr ρ G H d p) (no : ∀ j, ¬ Own σs σ j p) : Rel W Fr (ρ ++ [p]) G σs (M ++ [d]) σ H where
  gh := r.gh
  fh := r.fh
  gf := r.gf
  len := by rw [List.length_append, List.length_append, r.len]; rfl
  mem := fun i a e h1 h2 => by
    have hr : Rle ρ (ρ ++ [p]) := fun i a h => by rw [List.getElem?_append_left (List.getElem?_eq_some_iff.mp h).1]; exact h
    by_cases hl : i < ρ.length
    · rw [List.getElem?_append_left hl] at h1
      rw [List.getElem?_append_left (by rw [r.len]; exact hl)] at h2
      obtain ⟨ho, a1, a2, a3⟩ := r.mem i a e h1 h2
      exact ⟨ho, a1, a2.mono hr (Hle.refl _), a3⟩
    · have hi : i = ρ.length := by
        have := (List.getElem?_eq_some_iff.mp h1).1
        rw [List.length_append, List.length_singleton] at this
        omega
      subst hi
      rw [List.getElem?_concat_length] at h1
      rw [← r.len, List.getElem?_concat_length] at h2
      cases h1
      cases h2
      obtain ⟨ho, a1, a2⟩ := n.at_
      exact ⟨ho, a1, a2.mono hr (Hle.refl _), n.g, n.f⟩
  nd := fun i j a h1 h2 => by
    have ck : ∀ {i : Nat}, (ρ ++ [p])[i]? = some a → (ρ[i]? = some a) ∨ (i = ρ.length ∧ a = p) := fun {i} h => by
      by_cases hl : i < ρ.length
      · rw [List.getElem?_append_left hl] at h; exact .inl h
      · have hi : i = ρ.length := by
          have := (List.getElem?_eq_some_iff.mp h).1
          rw [List.length_append, List.length_singleton] at this
          omega
        subst hi
        rw [List.getElem?_concat_length] at h
        cases h
        exact .inr ⟨rfl, rfl⟩
    rcases ck h1 with a1 | ⟨a1, b1⟩
    · rcases ck h2 with a2 | ⟨a2, b2⟩
      · exact r.nd i j a a1 a2
      · subst b2; exact absurd (List.mem_of_getElem? a1) n.r
    · rcases ck h2 with a2 | ⟨a2, b2⟩
      · subst b1; exact absurd (List.mem_of_getElem? a2) n.r
      · rw [a1, a2]
  sl := r.sl
  val := fun i e h => by
    have hr : Rle ρ (ρ ++ [p]) := fun i a h => by rw [List.getElem?_append_left (List.getElem?_eq_some_iff.mp h).1]; exact h
    obtain ⟨v, a1, a2⟩ := r.val i e h
    exact ⟨v, a1, a2.mono hr (Hle.refl _)⟩
  own := fun i e h => by
    have hr : Rle ρ (ρ ++ [p]) := fun i a h => by rw [List.getElem?_append_left (List.getElem?_eq_some_iff.mp h).1]; exact h
    obtain ⟨q, a1, n'⟩ := r.own i e h
    have : q ≠ p := fun z => no i ⟨e, h, z ▸ a1⟩
    exact ⟨q, a1, n'.mono hr (Hle.refl _) (fun _ z => z) n'.g (by simp [n'.r, this])⟩
  self := r.self
  uniq := r.uniq
theorem Rle.push (ρ : List Addr) (p : Addr) : Rle ρ (ρ ++ [p]) := fun i a h => by rw [List.getElem?_append_left (List.getElem?_eq_some_iff.mp h).1]; exact h
/-- a store to a slot -/
theorem stored {W : Wd} {WW : WX} {Fr : Hp} {ρ : List Addr} {G : Hp} {σs : List SV} {M : Mem} {σ : L2.St} {H : Hp} {D : Ends} {m : Md} {i : Nat} {k : KD} {x : V} (r : Rel W Fr ρ G σs M σ H) (h : Res W Fr ρ G σs σ H k x) (q : AftS W WW Fr ρ G (store m i k σs M) D) : D.nx (σ.set i (some x)) H := by
  obtain ⟨kk, d⟩ := k
  have hl : ∀ (o : HO) (p : Addr), H p = some o → True := fun _ _ _ => trivial
  unfold store at q
  split at q
  · exact q.elim
  · cases kk with
    | b => cases m <;> exact q.elim
    | f => cases m <;> exact q ρ G _ H (Rle.refl _) (Hle.refl _) (r.setv h)
    | n =>
      obtain ⟨p, rfl, n, no⟩ := h
      cases m with
      | f =>
        obtain ⟨ho, e, c⟩ := n.at_
        exact q ρ _ _ H (Rle.refl _) (upd_le n.g) ((r.keep e n.g n.f n.r no).setv ((c.mono (Rle.refl _) (upd_le n.g)).fz upd_same))
      | o => exact q ρ G _ H (Rle.refl _) (Hle.refl _) (r.seto n no)
      | c =>
        have r2 := r.share n no
        refine q (ρ ++ [p]) G _ H (Rle.push ρ p) (Hle.refl _) (r2.setv ?_)
        unfold Fz
        refine ⟨p, rfl, ?_⟩
        rw [r.len, List.getElem?_concat_length]
theorem s_set {m : Md} {i : Nat} {x : Str} {pos' : Pos} (hN : X.N.Nodup) (hi : X.N[i]? = some x) (hx : Loc X.env.scope x) (hf : X.fn x = true ∨ X.env.scope.names.lookup x = some .local) (hs : swapsWith e (some (.Name x pos')) pos.line X.env = pure false) (he : PE X e (LK W WW ra)) :
    PS X (.Assign [.Name x pos'] e pos) (LS W WW fun σ M => (ra σ M).on σ fun r M => store m i r σ M) := by
  refine PS.weak (ps_set hN hi hx he hs hf) fun D σ H ⟨Fr, ρ, G, σs, M, r, q⟩ => ⟨Fr, ρ, G, σs, M, r, (AftS.on (RA := RRk W Fr) q).weaker ?_⟩
  rintro y H1 ⟨ρ1, G1, M1, a, h1, h2, h3, h4, h5⟩
  exact stored h3 h4 h5
end
end
end VM
/-! VM8: for, raise, try. -/
namespace VM
open PySem L2 PySem.Spec PyProof.Rows

/-- how a for goes over items -/
structure Wk (W : Wd) (Fr : Hp) (ρ : List Addr) (G : Hp) (J : L2.It) (xs : List D) (c : Mem → Bool) : Prop where
  go : ∀ {ρ' : List Addr} {G' : Hp} {σs : List SV} {M : Mem} {σ : L2.St} {H : Hp} (i : Nat) (hi : i < xs.length), Rle ρ ρ' → Hle G G' → Rel W Fr ρ' G' σs M σ H → c M = true → J.go i H ∧ ∀ x H', J.yld i H x H' → H' = H ∧ Fz W ρ' G' xs[i] x
  stop : ∀ {ρ' : List Addr} {G' : Hp} {σs : List SV} {M : Mem} {σ : L2.St} {H : Hp}, Rle ρ ρ' → Hle G G' → Rel W Fr ρ' G' σs M σ H → c M = true → J.stop xs.length H
section
variable {W : Wd} {WW : WX} {Fr : Hp} {ρ : List Addr} {G : Hp} {σs : List SV} {M : Mem} {σ : L2.St} {H : Hp} {d : VM.D} {v : V} {xs : List VM.D} {K : PySem.W.Frag}
theorem wk_of {J : L2.It} {S : Hp → List V → Prop} {c : Mem → Bool} (sj : SqJ J S) (h : ∀ {ρ' : List Addr} {G' : Hp} {σs : List SV} {M : Mem} {σ : L2.St} {H : Hp}, Rle ρ ρ' → Hle G G' → Rel W Fr ρ' G' σs M σ H → c M = true → ∃ vs, S H vs ∧ Fzs W ρ' G' xs vs) : Wk W Fr ρ G J xs c where
  go := fun {ρ' G' σs M σ H} i hi hr hg r hc => by
    obtain ⟨vs, h1, h2⟩ := h hr hg r hc
    obtain ⟨x, h3, h4⟩ := h2.get (List.getElem?_eq_getElem hi)
    refine ⟨sj.go i H vs x h1 h3, fun y H' hy => ?_⟩
    obtain ⟨e, k⟩ := sj.yld i H y H' hy
    have := k vs h1
    rw [h3] at this
    cases this
    exact ⟨e, h4⟩
  stop := fun {ρ' G' σs M σ H} hr hg r hc => by
    obtain ⟨vs, h1, h2⟩ := h hr hg r hc
    exact sj.stop _ H vs h1 (by rw [h2.length]; exact Nat.le_refl _)
theorem srcF_of (hK : W.K = K) (r : Rel W Fr ρ G σs M σ H) (b : Fz W ρ G d v) (h : items d M = some xs) :
    ∃ a, v = .ref a ∧ (((∃ vs, SqL K H a vs) ∧ Wk W Fr ρ G (Itl K a) xs (still d xs)) ∨ ((∃ vs, SqT K H a vs) ∧ Wk W Fr ρ G (Itt K a) xs (still d xs))) := by
  cases d with
  | lst ds =>
    simp only [items, deref, Option.some.injEq] at h
    subst h
    unfold Fz at b
    obtain ⟨a, vs, e, q, l, f⟩ := b
    exact ⟨a, e, .inl ⟨⟨vs, .of (r.gh _ _ q)⟩, wk_of (sqj_l K a) fun hr hg r' _ => ⟨vs, .of (r'.gh _ _ (hg _ _ q)), f.mono hr hg⟩⟩⟩
  | scr ds =>
    simp only [items, deref, Option.some.injEq] at h
    subst h
    unfold Fz at b
    obtain ⟨a, vs, e, q, l, f⟩ := b
    exact ⟨a, e, .inl ⟨⟨vs, hK ▸ r.gh.sql q⟩, wk_of (sqj_l K a) fun hr hg r' _ => ⟨vs, hK ▸ r'.gh.sql (hg.sql q), f.mono hr hg⟩⟩⟩
  | tup ds =>
    simp only [items, deref, Option.some.injEq] at h
    subst h
    unfold Fz at b
    obtain ⟨a, vs, e, q, l, f⟩ := b
    exact ⟨a, e, .inr ⟨⟨vs, hK ▸ r.gh.sqt q⟩, wk_of (sqj_t K a) fun hr hg r' _ => ⟨vs, hK ▸ r'.gh.sqt (hg.sqt q), f.mono hr hg⟩⟩⟩
  | cell i =>
    unfold Fz at b
    obtain ⟨a, e, q⟩ := b
    subst e
    have mk : ∀ {ρ' : List Addr} {G' : Hp} {σs' : List SV} {M' : Mem} {σ' : L2.St} {H' : Hp}, Rle ρ ρ' → Rel W Fr ρ' G' σs' M' σ' H' → ∀ {ys : List VM.D}, items (.cell i) M' = some ys → ∃ vs, SqL K H' a vs ∧ Fzs W ρ' G' ys vs := fun {ρ' G' σs' M' σ' H'} hr r' {ys} h' => by
      have e := hr _ _ q
      have hi : i < M'.length := by rw [r'.len]; exact (List.getElem?_eq_some_iff.mp e).1
      obtain ⟨ho, h1, c, _⟩ := r'.mem i a M'[i] e (List.getElem?_eq_getElem hi)
      have de : deref M' (.cell i) = M'[i] := by simp [deref, List.getD, List.getElem?_eq_getElem hi]
      unfold items at h'
      rw [de] at h'
      cases z : M'[i] with
      | lst zs =>
        rw [z] at h' c
        simp only [Option.some.injEq] at h'
        subst h'
        obtain ⟨vs, eo, l, f⟩ := c
        subst eo
        exact ⟨vs, .of h1, f⟩
      | tup _ => rw [z] at c; exact c.elim
      | scr _ => rw [z] at c; exact c.elim
      | _ => rw [z] at h'; cases h'
    obtain ⟨vs, s1, f1⟩ := mk (Rle.refl _) r h
    refine ⟨a, rfl, .inl ⟨⟨vs, s1⟩, wk_of (sqj_l K a) fun {ρ' G' σs' M' σ' H'} hr hg r' hs => ?_⟩⟩
    unfold still at hs
    dsimp only at hs
    split at hs
    · rename_i ys e1
      have e2 := sames_ok _ _ hs
      subst e2
      exact mk hr r' e1
    · cases hs
  | _ => simp [items, deref] at h
theorem wk_rng {lo : Int} {n : Nat} : Wk W Fr ρ G (Itr lo n) (upTo (fun k => lo + (k : Int)) n) (still .non (upTo (fun k => lo + (k : Int)) n)) where
  go := fun i hi hr hg r hc => by
    refine ⟨show i < n by rw [upTo_len] at hi; exact hi, fun x H' ⟨e1, e2⟩ => ⟨e1, ?_⟩⟩
    rw [upTo_get]
    exact e2
  stop := fun hr hg r hc => by
    show n ≤ _
    rw [upTo_len]; exact Nat.le_refl _
theorem for_read {J : L2.It} {t : Tg} {c : Mem → Bool} {body : List SV → Mem → Sx} {D : Ends} (r : Rel W Fr ρ G σs M σ H) (wk : Wk W Fr ρ G J xs c) (q : AftS W WW Fr ρ G (forL c (forF t body) xs σs M) D) :
    ∃ Wv : Nat → Nat → L2.St → Hp → Prop, (∃ m, Wv 0 m σ H) ∧ ∀ i m σ H, Wv i m σ H → (J.stop i H ∧ D.nx σ H) ∨ (J.go i H ∧ ∃ Nx : L2.St → Hp → Prop, (∀ σ' H', Nx σ' H' → ∃ m', m' < m ∧ Wv (i + 1) m' σ' H') ∧
      ∀ x H', J.yld i H x H' → LG W t x σ H' fun σ2 H2 => LS W WW body { D with nx := Nx, ct := Nx, bk := D.nx } σ2 H2) := by
  refine ⟨fun i m σ H => i ≤ xs.length ∧ m = xs.length - i ∧ ∃ (ρ1 : List Addr) (G1 : Hp) (σs1 : List SV) (M1 : Mem), Rle ρ ρ1 ∧ Hle G G1 ∧ Rel W Fr ρ1 G1 σs1 M1 σ H ∧ AftS W WW Fr ρ1 G1 (forL c (forF t body) (xs.drop i) σs1 M1) D, ⟨xs.length, Nat.zero_le _, rfl, ρ, G, σs, M, Rle.refl _, Hle.refl _, r, by rw [List.drop_zero]; exact q⟩, ?_⟩
  rintro i m σ1 H1 ⟨hi, rfl, ρ1, G1, σs1, M1, hr, hg, r1, q1⟩
  have hc : c M1 = true := by
    by_cases hc : c M1 = true
    · exact hc
    · exfalso
      cases e : xs.drop i with
      | nil => rw [e] at q1; simp only [forL] at q1; rw [if_neg hc] at q1; exact q1
      | cons x r => rw [e] at q1; simp only [forL] at q1; rw [if_neg hc] at q1; exact q1
  by_cases hlt : i < xs.length
  · have ed : xs.drop i = xs[i] :: xs.drop (i + 1) := List.drop_eq_getElem_cons hlt
    rw [ed] at q1
    simp only [forL] at q1
    rw [if_pos hc] at q1
    obtain ⟨g1, g2⟩ := wk.go i hlt hr hg r1 hc
    refine .inr ⟨g1, fun σ2 H2 => ∃ (ρ2 : List Addr) (G2 : Hp) (σs2 : List SV) (M2 : Mem), Rle ρ ρ2 ∧ Hle G G2 ∧ Rel W Fr ρ2 G2 σs2 M2 σ2 H2 ∧ AftS W WW Fr ρ2 G2 (forL c (forF t body) (xs.drop (i + 1)) σs2 M2) D,
      fun σ2 H2 k => ⟨xs.length - (i + 1), by omega, hlt, rfl, k⟩, fun x H2 hy => ?_⟩
    obtain ⟨rfl, fx⟩ := g2 x H2 hy
    have e0 : ∀ τs, noS t.is σs1 = true → t.bind xs[i] σs1 = some τs → forF t body xs[i] σs1 M1 = body τs M1 := fun τs h1 h2 => by unfold forF; rw [if_pos h1, h2]
    by_cases hn : noS t.is σs1 = true
    · cases hb : t.bind xs[i] σs1 with
      | none =>
        rw [show forF t body xs[i] σs1 M1 = .stk from by unfold forF; rw [if_pos hn, hb]] at q1
        exact q1.elim
      | some τs =>
        rw [e0 τs hn hb] at q1
        refine ⟨Fr, ρ1, G1, σs1, M1, xs[i], r1, fx, τs, hb, fun τ rt _ _ => ⟨Fr, ρ1, G1, τs, M1, rt, ?_⟩⟩
        cases hs : body τs M1 with
        | nx s2 M2 =>
          rw [hs] at q1
          exact fun ρ2 G2 σ2 H2 h1 h2 h3 => ⟨ρ2, G2, s2, M2, hr.trans h1, hg.trans h2, h3, AftS.from h1 h2 (show AftS W WW Fr ρ1 G1 (forL c (forF t body) (xs.drop (i + 1)) s2 M2) D from q1)⟩
        | rt k M2 => rw [hs] at q1; exact q1
        | ex C s2 M2 => rw [hs] at q1; exact q1
        | stk => rw [hs] at q1; exact q1.elim
    · rw [show forF t body xs[i] σs1 M1 = .stk from by unfold forF; rw [if_neg hn]] at q1
      exact q1.elim
  · have e : i = xs.length := by omega
    subst e
    rw [List.drop_length] at q1
    simp only [forL] at q1
    rw [if_pos hc] at q1
    exact .inl ⟨wk.stop hr hg r1 hc, q1 ρ1 G1 σ1 H1 (Rle.refl _) (Hle.refl _) r1⟩
end
section
variable {T : Tab} {Φ : Hot → Nat → List D → Mem → Rs KD} {Γ : Tx} {nm : Nm} {n : Nat} {N : List Str} {sc : Scope} {hot : Hot} {xa : Option Addr} {WW : WX} {X : Cx}
theorem s_for (c : Cok T Φ Γ nm n N sc hot xa WW X) (fl : FnL WW X) {iter tg : Expr} {body : List Stmt} {pos : Pos} {rit : List SV → Mem → Rs KD} {t : Tg} {rb : List SV → Mem → Sx} (hit : PE X iter (LK (wd X nm xa) WW rit)) (hg : PG X tg (LG (wd X nm xa) t)) (hb : PSs X body (LS (wd X nm xa) WW rb))
    (hs : ∀ x, foldedSetIterable iter X.env x = pure x) :
    PS X (.For tg iter body [] pos) (LS (wd X nm xa) WW fun σ M => ((rit σ M).fz.bind fun d M => okL (items d M) d M).on σ fun xd M => forL (still xd.2 xd.1) (forF t rb) xd.1 σ M) := by
  refine PS.weak (ps_forQ fl.po c.calm (pi_sqQ (pe_fz hit)) hg hb hs) fun D σ H ⟨Fr, ρ, G, σs, M, r, q⟩ => ⟨Fr, ρ, G, σs, M, r, ?_⟩
  dsimp only at q ⊢
  cases e : (rit σs M).fz with
  | ok d M1 =>
    rw [e] at q
    intro ρ1 G1 v H1 hr hg1 r1 k1
    simp only [Rs.bind] at q
    cases hx : items d M1 with
    | none => rw [hx] at q; exact q.elim
    | some xs =>
      rw [hx] at q
      simp only [Rs.on, okL] at q
      obtain ⟨a, ea, hq⟩ := srcF_of (K := X.K) rfl r1 k1 hx
      refine ⟨a, ea, ?_⟩
      rcases hq with ⟨h1, h2⟩ | ⟨h1, h2⟩
      · exact .inl ⟨h1, for_read r1 h2 (AftS.from hr hg1 q)⟩
      · exact .inr ⟨h1, for_read r1 h2 (AftS.from hr hg1 q)⟩
  | ex C M1 => rw [e] at q; exact fun ρ' G' H' h1 h2 h3 => q ρ' G' σ H' h1 h2 h3
  | stk => rw [e] at q; exact q.elim
theorem s_rng1 (c : Cok T Φ Γ nm n N sc hot xa WW X) (fl : FnL WW X) {tg a : Expr} {body : List Stmt} {pos p1 p2 : Pos} {ra : List SV → Mem → Rs KD} {t : Tg} {rb : List SV → Mem → Sx} (hx : gloC sc "range" = true) (h1 : noStar a = true)
    (ha : PE X a (LK (wd X nm xa) WW ra)) (hg : PG X tg (LG (wd X nm xa) t)) (hb : PSs X body (LS (wd X nm xa) WW rb)) :
    PS X (.For tg (.Call (.Name "range" p1) [a] [] p2) body [] pos) (LS (wd X nm xa) WW fun σ M => ((ra σ M).bw.bind fun x M => okL (rng1 x) .non M).on σ fun xd M => forL (still xd.2 xd.1) (forF t rb) xd.1 σ M) := by
  have gl : Gl X "range" := by unfold Gl Env.kindOf; rw [c.sc]; exact gloC_ok hx
  have fr : X.mg "range" = none := c.sk.free _ (by decide +kernel)
  refine PS.weak (ps_forQ fl.po c.calm (pi_rng1Q gl fr (pa_cons (pe_bw ha) pa_nil (star_cons h1)) (star_cons h1)) hg hb (fun _ => rfl)) fun D σ H ⟨Fr, ρ, G, σs, M, r, q⟩ => ⟨Fr, ρ, G, σs, M, r, ?_⟩
  dsimp only at q ⊢
  cases e : (ra σs M).bw with
  | ok d M1 =>
    rw [e] at q
    intro ρ1 G1 v H1 hr hg1 r1 k1
    simp only [Rs.bind] at q
    unfold rng1 at q
    split at q
    · rename_i j
      split at q
      · rename_i hj
        simp only [Rs.on, okL] at q
        exact ⟨j, by rw [k1.int r1], by omega, by omega, for_read r1 wk_rng (AftS.from hr hg1 q)⟩
      · exact q.elim
    · exact q.elim
  | ex C M1 => rw [e] at q; exact fun ρ' G' H' h1 h2 h3 => q ρ' G' σ H' h1 h2 h3
  | stk => rw [e] at q; exact q.elim
theorem s_rng2 (c : Cok T Φ Γ nm n N sc hot xa WW X) (fl : FnL WW X) {tg a b : Expr} {body : List Stmt} {pos p1 p2 : Pos} {ra rc : List SV → Mem → Rs KD} {t : Tg} {rb : List SV → Mem → Sx} (hx : gloC sc "range" = true) (h1 : noStar a = true) (h2 : noStar b = true)
    (ha : PE X a (LK (wd X nm xa) WW ra)) (hc : PE X b (LK (wd X nm xa) WW rc)) (hg : PG X tg (LG (wd X nm xa) t)) (hb : PSs X body (LS (wd X nm xa) WW rb)) :
    PS X (.For tg (.Call (.Name "range" p1) [a, b] [] p2) body [] pos) (LS (wd X nm xa) WW fun σ M => ((ra σ M).bw.bind fun x M => (rc σ M).bw.bind fun y M => okL (rng2 x y) .non M).on σ fun xd M => forL (still xd.2 xd.1) (forF t rb) xd.1 σ M) := by
  have gl : Gl X "range" := by unfold Gl Env.kindOf; rw [c.sc]; exact gloC_ok hx
  have fr : X.mg "range" = none := c.sk.free _ (by decide +kernel)
  refine PS.weak (ps_forQ fl.po c.calm (pi_rng2Q gl fr (pa_cons (pe_bw ha) (pa_cons (pe_bw hc) pa_nil (star_cons h2)) (star_cons h1)) (by rw [star_cons h1, star_cons h2]; rfl) (by rw [star_cons h2]; rfl)) hg hb (fun _ => rfl)) fun D σ H ⟨Fr, ρ, G, σs, M, r, q⟩ => ⟨Fr, ρ, G, σs, M, r, ?_⟩
  dsimp only at q ⊢
  cases e : (ra σs M).bw with
  | ok d M1 =>
    rw [e] at q
    intro ρ1 G1 v H1 hr hg1 r1 k1
    simp only [Rs.bind] at q
    refine ⟨Fr, ρ1, G1, σs, M1, r1, ?_⟩
    dsimp only
    cases e2 : (rc σs M1).bw with
    | ok d2 M2 =>
      rw [e2] at q
      intro ρ2 G2 v2 H2 hr2 hg2 r2 k2
      simp only [Rs.bind] at q
      unfold rng2 at q
      split at q
      · rename_i i j
        split at q
        · rename_i hj
          simp only [Rs.on, okL] at q
          have k1' : Bz (wd X nm xa) ρ2 G2 σs σ (.int i) v := k1.elim (fun k => .inl (k.mono hr2 hg2)) .inr
          exact ⟨i, j, by rw [k1'.int r2, k2.int r2], ⟨by omega, by omega, by omega, by omega⟩, for_read r2 wk_rng (AftS.from (hr.trans hr2) (hg1.trans hg2) q)⟩
        · exact q.elim
      · exact q.elim
    | ex C M2 => rw [e2] at q; exact fun ρ' G' H' h1 h2 h3 => q ρ' G' σ H' (hr.trans h1) (hg1.trans h2) h3
    | stk => rw [e2] at q; exact q.elim
  | ex C M1 => rw [e] at q; exact fun ρ' G' H' h1 h2 h3 => q ρ' G' σ H' h1 h2 h3
  | stk => rw [e] at q; exact q.elim
end
end VM
/-! VM9: raise, try. -/
namespace VM
open PySem L2 PySem.Spec PyProof.Rows

section
variable {K : PySem.W.Frag} {ca : Nat → Addr} {fn : Nat → Str} {a : Addr} {ρ : List Addr} {G : Hp}
abbrev w0 (K : PySem.W.Frag) (ca : Nat → Addr) (fn : Nat → Str) : Wd := ⟨K, ca, fn, none⟩
abbrev w1 (K : PySem.W.Frag) (ca : Nat → Addr) (fn : Nat → Str) (a : Addr) : Wd := ⟨K, ca, fn, some a⟩
mutual
theorem Fz.up : ∀ (d : VM.D) (v : V), Fz (w0 K ca fn) ρ G d v → Fz (w1 K ca fn a) ρ G d v
  | .non, _, h => h
  | .bl _, _, h => h
  | .int _, _, h => h
  | .str _, _, h => h
  | .tup ds, v, h => by
    unfold Fz at h ⊢
    obtain ⟨p, vs, e, q, l, r⟩ := h
    exact ⟨p, vs, e, q, l, Fzs.up ds vs r⟩
  | .lst ds, v, h => by
    unfold Fz at h ⊢
    obtain ⟨p, vs, e, q, l, r⟩ := h
    exact ⟨p, vs, e, q, l, Fzs.up ds vs r⟩
  | .scr ds, v, h => by
    unfold Fz at h ⊢
    obtain ⟨p, vs, e, q, l, r⟩ := h
    exact ⟨p, vs, e, q, l, Fzs.up ds vs r⟩
  | .dct ks ds, v, h => by
    unfold Fz at h ⊢
    obtain ⟨p, vs, e, q, l, r⟩ := h
    exact ⟨p, vs, e, q, l, Fzs.up ds vs r⟩
  | .cell i, v, h => h
  | .ins C fs ds, v, h => by
    unfold Fz at h ⊢
    obtain ⟨p, dx, vs, e, q, l, r⟩ := h
    exact ⟨p, dx, vs, e, q, l, Fzs.up ds vs r⟩
  | .exc, v, h => by
    unfold Fz at h
    obtain ⟨p, e, _⟩ := h
    cases e
theorem Fzs.up : ∀ (ds : List VM.D) (vs : List V), Fzs (w0 K ca fn) ρ G ds vs → Fzs (w1 K ca fn a) ρ G ds vs
  | [], _, h => h
  | d :: ds, vs, h => by
    unfold Fzs at h ⊢
    obtain ⟨v, r, e, q, k⟩ := h
    exact ⟨v, r, e, Fz.up d v q, Fzs.up ds r k⟩
end
mutual
theorem Fz.dn : ∀ (d : VM.D) (v : V), d.nox = true → Fz (w1 K ca fn a) ρ G d v → Fz (w0 K ca fn) ρ G d v
  | .non, _, _, h => h
  | .bl _, _, _, h => h
  | .int _, _, _, h => h
  | .str _, _, _, h => h
  | .tup ds, v, n, h => by
    unfold Fz at h ⊢
    obtain ⟨p, vs, e, q, l, r⟩ := h
    exact ⟨p, vs, e, q, l, Fzs.dn ds vs (by simpa only [D.nox] using n) r⟩
  | .lst ds, v, n, h => by
    unfold Fz at h ⊢
    obtain ⟨p, vs, e, q, l, r⟩ := h
    exact ⟨p, vs, e, q, l, Fzs.dn ds vs (by simpa only [D.nox] using n) r⟩
  | .scr ds, v, n, h => by
    unfold Fz at h ⊢
    obtain ⟨p, vs, e, q, l, r⟩ := h
    exact ⟨p, vs, e, q, l, Fzs.dn ds vs (by simpa only [D.nox] using n) r⟩
  | .dct ks ds, v, n, h => by
    unfold Fz at h ⊢
    obtain ⟨p, vs, e, q, l, r⟩ := h
    exact ⟨p, vs, e, q, l, Fzs.dn ds vs (by simpa only [D.nox] using n) r⟩
  | .cell i, v, _, h => h
  | .ins C fs ds, v, n, h => by
    unfold Fz at h ⊢
    obtain ⟨p, dx, vs, e, q, l, r⟩ := h
    exact ⟨p, dx, vs, e, q, l, Fzs.dn ds vs (by simpa only [D.nox] using n) r⟩
  | .exc, v, n, h => by simp [D.nox] at n
theorem Fzs.dn : ∀ (ds : List VM.D) (vs : List V), noxs ds = true → Fzs (w1 K ca fn a) ρ G ds vs → Fzs (w0 K ca fn) ρ G ds vs
  | [], _, _, h => h
  | d :: ds, vs, n, h => by
    simp only [noxs, Bool.and_eq_true] at n
    unfold Fzs at h ⊢
    obtain ⟨v, r, e, q, k⟩ := h
    exact ⟨v, r, e, Fz.dn d v n.1 q, Fzs.dn ds r n.2 k⟩
end
mutual
theorem Fz.nx : ∀ (d : VM.D) (v : V), Fz (w0 K ca fn) ρ G d v → d.nox = true
  | .non, _, h => rfl
  | .bl _, _, h => rfl
  | .int _, _, h => rfl
  | .str _, _, h => rfl
  | .tup ds, v, h => by
    unfold Fz at h
    obtain ⟨p, vs, e, q, l, r⟩ := h
    simpa only [D.nox] using Fzs.nx ds vs r
  | .lst ds, v, h => by
    unfold Fz at h
    obtain ⟨p, vs, e, q, l, r⟩ := h
    simpa only [D.nox] using Fzs.nx ds vs r
  | .scr ds, v, h => by
    unfold Fz at h
    obtain ⟨p, vs, e, q, l, r⟩ := h
    simpa only [D.nox] using Fzs.nx ds vs r
  | .dct ks ds, v, h => by
    unfold Fz at h
    obtain ⟨p, vs, e, q, l, r⟩ := h
    simpa only [D.nox] using Fzs.nx ds vs r
  | .cell i, v, h => rfl
  | .ins C fs ds, v, h => by
    unfold Fz at h
    obtain ⟨p, dx, vs, e, q, l, r⟩ := h
    simpa only [D.nox] using Fzs.nx ds vs r
  | .exc, v, h => by
    unfold Fz at h
    obtain ⟨p, e, _⟩ := h
    cases e
theorem Fzs.nx : ∀ (ds : List VM.D) (vs : List V), Fzs (w0 K ca fn) ρ G ds vs → noxs ds = true
  | [], _, h => rfl
  | d :: ds, vs, h => by
    unfold Fzs at h
    obtain ⟨v, r, e, q, k⟩ := h
    simp only [noxs, Bool.and_eq_true]
    exact ⟨Fz.nx d v q, Fzs.nx ds r k⟩
end
theorem Co.up {d : VM.D} {ho : HO} (h : Co (w0 K ca fn) ρ G d ho) : Co (w1 K ca fn a) ρ G d ho := by
  cases d with
  | lst ds => obtain ⟨vs, e, l, q⟩ := h; exact ⟨vs, e, l, q.up⟩
  | dct ks ds => obtain ⟨vs, e, l, q⟩ := h; exact ⟨vs, e, l, q.up⟩
  | ins C fs ds => obtain ⟨dx, vs, e, l, q⟩ := h; exact ⟨dx, vs, e, l, q.up⟩
  | _ => exact h
theorem Co.dn {d : VM.D} {ho : HO} (n : d.nox = true) (h : Co (w1 K ca fn a) ρ G d ho) : Co (w0 K ca fn) ρ G d ho := by
  cases d with
  | lst ds => obtain ⟨vs, e, l, q⟩ := h; exact ⟨vs, e, l, q.dn ds vs (by simpa only [D.nox] using n)⟩
  | dct ks ds => obtain ⟨vs, e, l, q⟩ := h; exact ⟨vs, e, l, q.dn ds vs (by simpa only [D.nox] using n)⟩
  | ins C fs ds => obtain ⟨dx, vs, e, l, q⟩ := h; exact ⟨dx, vs, e, l, q.dn ds vs (by simpa only [D.nox] using n)⟩
  | _ => exact h
theorem Co.nx {d : VM.D} {ho : HO} (h : Co (w0 K ca fn) ρ G d ho) : d.nox = true := by
  cases d with
  | lst ds => obtain ⟨vs, e, l, q⟩ := h; simpa only [D.nox] using q.nx
  | dct ks ds => obtain ⟨vs, e, l, q⟩ := h; simpa only [D.nox] using q.nx
  | ins C fs ds => obtain ⟨dx, vs, e, l, q⟩ := h; simpa only [D.nox] using q.nx
  | _ => exact h.elim
variable {Fr : Hp} {σs : List SV} {M : Mem} {σ : L2.St} {H : Hp}
theorem New.up {d : VM.D} {p : Addr} (h : New (w0 K ca fn) Fr ρ G H d p) : New (w1 K ca fn a) Fr ρ G H d p := let ⟨ho, e, c⟩ := h.at_; ⟨⟨ho, e, c.up⟩, h.g, h.f, h.r⟩
theorem New.dn {d : VM.D} {p : Addr} (n : d.nox = true) (h : New (w1 K ca fn a) Fr ρ G H d p) : New (w0 K ca fn) Fr ρ G H d p := let ⟨ho, e, c⟩ := h.at_; ⟨⟨ho, e, c.dn n⟩, h.g, h.f, h.r⟩
theorem MRel.up (r : MRel (w0 K ca fn) Fr ρ G M H) : MRel (w1 K ca fn a) Fr ρ G M H :=
  ⟨r.gh, r.fh, r.gf, r.len, fun i b d e1 e2 => let ⟨ho, h1, h2, h3⟩ := r.mem i b d e1 e2; ⟨ho, h1, h2.up, h3⟩, r.nd⟩
theorem MRel.nx (r : MRel (w0 K ca fn) Fr ρ G M H) : ∀ d ∈ M, d.nox = true := fun d hd => by
  obtain ⟨i, hi, e⟩ := List.getElem_of_mem hd
  have hl : i < ρ.length := by rw [← r.len]; exact hi
  obtain ⟨ho, _, c, _⟩ := r.mem i ρ[i] d (List.getElem?_eq_getElem hl) (by rw [List.getElem?_eq_getElem hi, e])
  exact c.nx
theorem MRel.dn (n : ∀ d ∈ M, d.nox = true) (r : MRel (w1 K ca fn a) Fr ρ G M H) : MRel (w0 K ca fn) Fr ρ G M H :=
  ⟨r.gh, r.fh, r.gf, r.len, fun i b d e1 e2 => let ⟨ho, h1, h2, h3⟩ := r.mem i b d e1 e2; ⟨ho, h1, h2.dn (n d (List.mem_of_getElem? e2)), h3⟩, r.nd⟩
theorem Rel.up (r : Rel (w0 K ca fn) Fr ρ G σs M σ H) : Rel (w1 K ca fn a) Fr ρ G σs M σ H :=
  { r.toMRel.up with sl := r.sl, val := fun i d e => let ⟨v, h1, h2⟩ := r.val i d e; ⟨v, h1, h2.up⟩, own := fun i d e => let ⟨p, h1, h2⟩ := r.own i d e; ⟨p, h1, h2.up⟩, self := r.self, uniq := r.uniq }
end

section
variable {T : Tab} {Φ : Hot → Nat → List D → Mem → Rs KD} {Γ : Tx} {nm : Nm} {n : Nat} {N : List Str} {sc : Scope} {hot : Hot} {xa : Option Addr} {WW : WX} {X : Cx}
theorem Cok.tr (c : Cok T Φ Γ nm n N sc none xa WW X) (fl : FnL WW X) {W' : WX} {pn : List (Addr × Obj)} {xe : Value → Shared → Prop} (tk : L2N.Takes (X.tr pn xe) W') : Cok T Φ Γ nm n N sc none xa W' (X.tr pn xe) :=
  ⟨c.N, c.nd, c.sc, c.sk, fx_of (X := X.tr pn xe) fl.stk fl.fr tk, c.un, c.mode, c.ar, c.fk⟩
theorem no_takes {X : Cx} : L2N.Takes X noW := fun u s' x => by
  obtain ⟨a, B, sI, ps, τ, H, cl, d, rest⟩ := x
  exact rest.2.2.2.2.2.2.2.2.elim
theorem Cok.suite (c : Cok T Φ Γ nm n N sc none xa WW X) (fl : FnL WW X) {a : Addr} {oe : Obj} {C : Nat} {z : Str} {pn : List (Addr × Obj)} (hC : Γ.cs[C]? = some z) (hz : L2N.Zn (.ref (nm.ca C)) none oe) (hv : ∃ vs, oe.data = .fields vs) {xb : Option Addr} (hx : xb = none ∨ xb = some a) :
    Cok T Φ Γ nm n N sc (some C) xb noW (X.suite a ((a, oe) :: pn)) where
  N := c.N
  nd := c.nd
  sc := c.sc
  sk := c.sk
  fx := fx_of (X := X.suite a ((a, oe) :: pn)) fl.stk fl.fr no_takes
  un := c.un
  mode := by
    obtain ⟨m1, m2, m3⟩ := c.mode
    obtain ⟨vs, hv⟩ := hv
    exact ⟨(a, oe), hx, List.mem_cons_self, ⟨rfl, vs, hv, hz.2.2 vs hv⟩, hz.zc, ⟨z, hC⟩, ⟨m3.dp, m3.un⟩⟩
  ar := c.ar
  fk := c.fk
theorem FnL.tr (f : FnL WW X) {W' : WX} {pn : List (Addr × Obj)} {xe : Value → Shared → Prop} (tk : L2N.Takes (X.tr pn xe) W') (po : PassesOwn (model X.prog X.w) X.A X.env xe) : FnL W' (X.tr pn xe) := ⟨f.stk, f.fr, f.fn, f.kd, tk, po⟩
theorem FnL.suite (f : FnL WW X) (a : Addr) (pn : List (Addr × Obj)) : FnL noW (X.suite a pn) := ⟨f.stk, f.fr, f.fn, f.kd, no_takes, PassesOwn.never⟩
theorem s_raise (c : Cok T Φ Γ nm n N sc none xa WW X) (fl : FnL WW X) {C : Nat} {x m : Str} {j : Nat} {p p2 pos pos' : Pos} (hC : Γ.cs[C]? = some x) (hx : gloC sc x = true) (hp : plainN x = true) :
    PS X (.Raise (some (.Call (.Name x p) [.Constant (.str m) j p2] [] pos)) none pos') (LS (wd X nm xa) WW fun σ M => .ex C σ M) := by
  obtain ⟨m1, m2, m3⟩ := c.mode
  obtain ⟨g1, g2⟩ := c.sk.cl C x hC
  obtain ⟨e1, e2, e3, _⟩ := c.sk.ex C x hC
  have gl : Gl X x := by unfold Gl Env.kindOf; rw [c.sc]; exact gloC_ok hx
  refine PS.weak (L2N.ps_raise m2 fl.tk (L2N.pmk_own PySem.F.excBase_ValueError e1 g1 g2 (raises_own e2 e3) gl (plainN_ok hp).1)) fun D σ H ⟨Fr, ρ, G, σs, M, r, q⟩ => ?_
  exact q ρ G σ H (Rle.refl _) (Hle.refl _) r
/-- the suite of a clause without a name -/
def sTn (X : Cx) (Γ : Tx) (nm : Nm) (xa : Option Addr) (rs : Nat → List SV → Mem → Sx) : Addr → Value → Option Addr → TS := fun _ cls d D σ H => ∃ (C : Nat) (z : Str), Γ.cs[C]? = some z ∧ cls = .ref (nm.ca C) ∧ d = none ∧ LS (wd X nm xa) noW (rs C) D σ H
def sTs (X : Cx) (Γ : Tx) (nm : Nm) (rs : Nat → List SV → Mem → Sx) : Addr → Value → Option Addr → TS := fun a cls d D σ H => ∃ (C : Nat) (z : Str), Γ.cs[C]? = some z ∧ cls = .ref (nm.ca C) ∧ d = none ∧ LS (wd X nm (some a)) noW (rs C) D σ H
theorem Sx.noex {W : Wd} {WW : WX} {Fr : Hp} {ρ : List Addr} {G : Hp} {R : Sx} {D : Ends} (h : AftS W WW Fr ρ G (match R with
      | .ex _ _ _ => .stk
      | r => r) D) : AftS W noW Fr ρ G R D := by
  cases R with
  | nx s M => exact h
  | rt r M => exact h
  | ex C s M => exact h.elim
  | stk => exact h
theorem names_of (c : Cok T Φ Γ nm n N sc hot xa WW X) {C : Nat} {x : Str} (hC : Γ.cs[C]? = some x) (hx : gloC sc x = true) (hp : plainN x = true) : Names X x (.ref (nm.ca C)) := by
  have gl : Gl X x := by unfold Gl Env.kindOf; rw [c.sc]; exact gloC_ok hx
  exact ⟨gl, (plainN_ok hp).1, .inl (c.sk.cl C x hC).1⟩
/-- try .. except X as n: a suite that hands back -/
theorem s_tryAs (c : Cok T Φ Γ nm n N sc none none WW X) (fl : FnL WW X) {C : Nat} {x y : Str} {i : Nat} {body : List Stmt} {b₀ : Stmt} {suite : List Stmt} {np pos pos' : Pos} {rb : List SV → Mem → Sx} {rs : Nat → List SV → Mem → Sx}
    (hC : Γ.cs[C]? = some x) (hx : gloC sc x = true) (hp : plainN x = true) (hi : N[i]? = some y) (hy : sc.names.lookup y = some .local)
    (hb : ∀ (W' : WX) (pn : List (Addr × Obj)) (xe : Value → Shared → Prop), Cok T Φ Γ nm n N sc none none W' (X.tr pn xe) → FnL W' (X.tr pn xe) → PSs (X.tr pn xe) body (LS (wd X nm none) W' rb))
    (hs : ∀ (a : Addr) (oe : Obj) (pn : List (Addr × Obj)) (k : Nat), Cok T Φ Γ nm n N sc (some k) (some a) noW (X.suite a ((a, oe) :: pn)) → FnL noW (X.suite a ((a, oe) :: pn)) → PSs (X.suite a ((a, oe) :: pn)) (b₀ :: suite) (LS (wd X nm (some a)) noW (rs k))) :
    PS X (.Try body [.ExceptHandler (some (.Name x np)) (some y) (b₀ :: suite) pos'] [] [] pos) (LS (wd X nm none) WW fun σ M => (match rb σ M with
      | .ex k σ M => if k < T.up.length then (if subC T.up 9 k C then (if isS σ[i]? then .stk else (match rs k (σ.set i (.v .exc)) M with
        | .rt r M' => if r.d.nox && sames M' M then .rt r M else .stk
        | _ => .stk)) else .ex k σ M) else .stk
      | r => r)) := by
  refine PS.weak (L2N.ps_try_as (tb := fun W' => LS (wd X nm none) W' rb) (ts := sTs X Γ nm rs) (i := i) fl.stk fl.fr c.nd (by rw [c.N]; exact hi) (by unfold Env.kindOf; rw [c.sc]; exact hy) (names_of c hC hx hp) fl.tk (fun W' pn xe tk po => hb W' pn xe (c.tr fl tk) (fl.tr tk po)) fun a oe cls d pn hz hv => ?_) fun D σ H ⟨Fr, ρ, G, σs, M, r, q⟩ => ⟨Fr, ρ, G, σs, M, r, ?_⟩
  · refine ⟨fun pins s σ H D I ⟨k, z, h1, h2, h3, h4⟩ => ?_⟩
    subst h2 h3
    exact (hs a oe pn k (c.suite fl h1 hz hv (.inr rfl)) (fl.suite a _)).run pins s σ H D I h4
  · dsimp only at q ⊢
    cases e : rb σs M with
    | nx s M1 => rw [e] at q; exact q
    | rt k M1 => rw [e] at q; exact q
    | stk => rw [e] at q; exact q
    | ex k s M1 =>
      rw [e] at q
      dsimp only at q
      intro ρ1 G1 σ1 H1 hr hg r1
      split at q
      · rename_i hk
        have hk' : k < Γ.cs.length := by rw [c.sk.ln]; exact hk
        have hz : Γ.cs[k]? = some Γ.cs[k] := List.getElem?_eq_getElem hk'
        refine ⟨subC T.up 9 k C, (c.sk.ee k C _ x hz hC).2, fun hb1 a ha => ?_, fun hb1 => ?_⟩
        · rw [if_pos hb1] at q
          split at q
          · exact q.elim
          · refine ⟨k, _, hz, rfl, rfl, Fr, ρ1, G1, s.set i (.v .exc), M1, r1.up.setv ⟨a, rfl, rfl⟩, ?_⟩
            cases e2 : rs k (s.set i (.v .exc)) M1 with
            | rt kd M2 =>
              rw [e2] at q
              dsimp only at q
              split at q
              · rename_i hn
                simp only [Bool.and_eq_true] at hn
                have e3 := sames_ok _ _ hn.2
                subst e3
                intro ρ2 G2 v H2 h1 h2 h3 h4
                refine q ρ2 G2 v H2 (hr.trans h1) (hg.trans h2) (h3.dn r1.toMRel.nx) ?_
                obtain ⟨kk, d⟩ := kd
                cases kk with
                | f => exact h4.dn d v hn.1
                | n =>
                  obtain ⟨p, e4, n⟩ := h4
                  exact ⟨p, e4, n.dn hn.1⟩
                | b => exact h4.elim
              · exact q.elim
            | nx _ _ => rw [e2] at q; exact q.elim
            | ex _ _ _ => rw [e2] at q; exact q.elim
            | stk => rw [e2] at q; exact q.elim
        · rw [if_neg (by rw [hb1]; exact Bool.false_ne_true)] at q
          exact q ρ1 G1 σ1 H1 hr hg r1
      · exact q.elim
end
end VM
/-! VM10: the checker, expressions. -/
namespace VM
open PySem L2 PySem.Spec PyProof.Rows

def pfS : Pf → Str
  | .len => "len" | .sum => "sum" | .abs => "abs" | .int => "int" | .divmod => "divmod" | .all => "all"
def tyC (Γ : Tx) (sc : Scope) (t : Ty) (y : Str) : Bool :=
  match t with
  | .cls c => decide (Γ.cs[c]? = some y) && (gloC sc y && plainN y)
  | t => (match tyS t with
    | some z => decide (y = Str.ofString z) && (gloC sc y && plainN y)
    | none => false)
def notSet : Expr → Bool
  | .Set _ _ _ => false
  | _ => true
theorem folded_ok {e : Expr} (h : notSet e = true) (env : Env) (x : Value) : foldedSetIterable e env x = pure x := by cases e <;> first | rfl | cases h
def ownP (N : List Str) (own : List Nat) : List (Str × Nat) := own.map fun i => (N.getD i "", i)
theorem ownP_snd (N : List Str) (own : List Nat) : (ownP N own).map (·.2) = own := by
  unfold ownP
  rw [List.map_map]
  exact List.map_id own
/-- a name that a block's target may be -/
def locB (scope rs : Scope) (x : Str) : Bool :=
  match rs.names.lookup x with
  | some .local => true
  | some .cell => (match scope.names.lookup x with
    | some .cell => true
    | _ => false)
  | _ => false
mutual
def chkE (Γ : Tx) (N : List Str) : E → Scope → Expr → Bool
  | .v i, sc, e => (match e with
    | .Name x _ => decide (N[i]? = some x) && (visC sc x && plainN x)
    | _ => false)
  | .c d, _, e => (match e with
    | .Constant k _ _ => constC d k
    | _ => false)
  | .g g, sc, e => (match e with
    | .Name x _ => decide (Γ.gl[g]? = some x) && (gloC sc x && plainN x)
    | _ => false)
  | .bin o a b, sc, e => (match e with
    | .BinOp x op y _ => decide (op = opA o) && (chkE Γ N a sc x && chkE Γ N b sc y)
    | _ => false)
  | .neg a, sc, e => (match e with
    | .UnaryOp .USub x _ => chkE Γ N a sc x
    | _ => false)
  | .not a, sc, e => (match e with
    | .UnaryOp .Not x _ => chkE Γ N a sc x
    | _ => false)
  | .and a b, sc, e => (match e with
    | .BoolOp .And [x, y] _ => chkE Γ N a sc x && chkE Γ N b sc y
    | .BoolOp .And (x :: y :: z :: r) p => chkE Γ N a sc x && chkE Γ N b sc (.BoolOp .And (y :: z :: r) p)
    | _ => false)
  | .or a b, sc, e => (match e with
    | .BoolOp .Or [x, y] _ => chkE Γ N a sc x && chkE Γ N b sc y
    | .BoolOp .Or (x :: y :: z :: r) p => chkE Γ N a sc x && chkE Γ N b sc (.BoolOp .Or (y :: z :: r) p)
    | _ => false)
  | .cmp o a b, sc, e => (match e with
    | .Compare x [op] [y] _ => decide (op = cpA o) && (!behindInMarks (cpA o) y && (chkE Γ N a sc x && chkE Γ N b sc y))
    | _ => false)
  | .chn o o' a b c, sc, e => (match e with
    | .Compare x [op, op'] [y, z] _ => decide (op = cpA o) && (decide (op' = cpA o') && (!lastMarks [cpA o, cpA o'] [y, z] && (chkE Γ N a sc x && (chkE Γ N b sc y && chkE Γ N c sc z))))
    | _ => false)
  | .ife t a b, sc, e => (match e with
    | .IfExp x y z _ => chkE Γ N t sc x && (chkE Γ N a sc y && chkE Γ N b sc z)
    | _ => false)
  | .call f as, sc, e => (match e with
    | .Call (.Name x _) (a :: es) [] _ => (match Γ.fs[f]? with
      | some (y, _) => decide (x = y) && (gloC sc x && (plainN x && (noStar a && (es.all noStar && chkL Γ N as sc (a :: es)))))
      | none => false)
    | _ => false)
  | .bf p as, sc, e => (match e with
    | .Call (.Name x _) (a :: es) [] _ => decide (x = pfS p) && (gloC sc x && (noStar a && (es.all noStar && chkL Γ N as sc (a :: es))))
    | _ => false)
  | .isi a t, sc, e => (match e with
    | .Call (.Name f _) [x, .Name y _] [] _ => decide (f = "isinstance") && (gloC sc f && (noStar x && (chkE Γ N a sc x && tyC Γ sc t y)))
    | _ => false)
  | .ix a i, sc, e => (match e with
    | .Subscript x y _ => noSlice y && (chkE Γ N a sc x && chkE Γ N i sc y)
    | _ => false)
  | .tup as, sc, e => (match e with
    | .Tuple es _ _ => chkL Γ N as sc es
    | _ => false)
  | .lst as, sc, e => (match e with
    | .List es _ => chkL Γ N as sc es
    | _ => false)
  | .dct0, _, e => (match e with
    | .Dict [] [] _ => true
    | _ => false)
  | .lc own t it c el, sc, e => (match e with
    | .ListComp elt [⟨tg, iter, ifs, 0⟩] scope _ => notSet iter && (chkE Γ N it sc iter && (blkC N sc scope (ownP N own) && (chkT N (locB scope (relS scope sc)) t tg && (t.is.all (fun j => decide (j ∈ own)) &&
      ((match ifs with
        | [] => c.isNil
        | [x] => !c.isNil && chkE Γ N c (relS scope sc) x
        | _ => false) && chkE Γ N el (relS scope sc) elt)))))
    | _ => false)
  | .lcr own t as c el, sc, e => (match e with
    | .ListComp elt [⟨tg, .Call (.Name f _) args [] _, ifs, 0⟩] scope _ => decide (f = "range") && (gloC sc f && ((match args with
        | [x] => noStar x
        | [x, y] => noStar x && noStar y
        | _ => false) && (chkL Γ N as sc args && (blkC N sc scope (ownP N own) && (chkT N (locB scope (relS scope sc)) t tg && (t.is.all (fun j => decide (j ∈ own)) &&
      ((match ifs with
        | [] => c.isNil
        | [x] => !c.isNil && chkE Γ N c (relS scope sc) x
        | _ => false) && chkE Γ N el (relS scope sc) elt)))))))
    | _ => false)
  | .nil, _, _ => false
  | .cons _ _, _, _ => false
def chkL (Γ : Tx) (N : List Str) : E → Scope → List Expr → Bool
  | .nil, _, es => es.isEmpty
  | .cons a as, sc, es => (match es with
    | e :: es => noStar e && (chkE Γ N a sc e && chkL Γ N as sc es)
    | _ => false)
  | _, _, _ => false
end
section
variable {T : Tab} {Φ : Hot → Nat → List D → Mem → Rs KD} {Γ : Tx} {nm : Nm} {n : Nat} {N : List Str} {hot : Hot}
/-- what is shown of an expression -/
structure Ve (T : Tab) (Φ : Hot → Nat → List D → Mem → Rs KD) (nm : Nm) (hot : Hot) (X : Cx) (xa : Option Addr) (WW : WX) (e : E) (ast : Expr) : Prop where
  pe : PE X ast (LK (wd X nm xa) WW fun σ M => ev T (Φ hot) hot e σ M)
  pt : PT X ast (LT (wd X nm xa) WW fun σ M => (ev T (Φ hot) hot e σ M).bl)
  pw : ∀ op vs pos, ast = .BoolOp op vs pos → PW X ast (LT (wd X nm xa) WW fun σ M => (ev T (Φ hot) hot e σ M).bl)
structure Va (T : Tab) (Φ : Hot → Nat → List D → Mem → Rs KD) (nm : Nm) (hot : Hot) (X : Cx) (xa : Option Addr) (WW : WX) (e : E) (asts : List Expr) : Prop where
  f : PA X asts (LA (wd X nm xa) WW fun σ M => evs T (Φ hot) hot e σ M)
  b : PA X asts (LAb (wd X nm xa) WW fun σ M => evb T (Φ hot) hot e σ M)
section
variable {X : Cx} {xa : Option Addr} {WW : WX} {e : E} {ast : Expr}
theorem Ve.mk1 (h : PE X ast (LK (wd X nm xa) WW fun σ M => ev T (Φ hot) hot e σ M)) (he : ∀ whole, isTrue ast X.env whole = (do let v ← whole; standAt ast.pos; holding [v] (truthy v))) (nb : ∀ op vs pos, ast ≠ .BoolOp op vs pos) : Ve T Φ nm hot X xa WW e ast :=
  ⟨h, t_val h he, fun op vs pos z => absurd z (nb op vs pos)⟩
theorem le_false {t : TE} (h : ∀ σ H Q, ¬ t σ H Q) : PE X ast t := ⟨fun _ _ σ H Q _ z => (h σ H Q z).elim⟩
theorem gl_of {sc : Scope} (c : Cok T Φ Γ nm n N sc hot xa WW X) {x : Str} (h : gloC sc x = true) : Gl X x := by unfold Gl Env.kindOf; rw [c.sc]; exact gloC_ok h
theorem v_isi {sc : Scope} (c : Cok T Φ Γ nm n N sc hot xa WW X) {x : Expr} {y : Str} {t : Ty} {p1 p2 pos : Pos} {ra : List SV → Mem → Rs KD} (hg : gloC sc "isinstance" = true) (hs : noStar x = true) (ha : PE X x (LK (wd X nm xa) WW ra)) (ht : tyC Γ sc t y = true) :
    PE X (.Call (.Name "isinstance" p1) [x, .Name y p2] [] pos) (LK (wd X nm xa) WW fun σ M => (ra σ M).bw.bind fun x M => okB (isInst T hot M x t) M) := by
  have main : ∀ {tv : V} {u : Value}, IsTy Γ nm t tv u → PE X (.Name y p2) (tC tv) → PE X (.Call (.Name "isinstance" p1) [x, .Name y p2] [] pos) (LK (wd X nm xa) WW fun σ M => (ra σ M).bw.bind fun x M => okB (isInst T hot M x t) M) := fun {tv u} it pt => by
    refine PE.weak (pe_callB (c_isi c it) (gl_of c hg) (c.sk.free _ (by decide +kernel)) (by decide +kernel) (pa_cons (pe_bw ha) (pa_cons pt pa_nil) (star_cons hs)) (by decide +kernel) (by decide +kernel) (star_cons hs) (star_any rfl)) fun σ H Q ⟨Fr, ρ, G, σs, M, r, q⟩ => ⟨Fr, ρ, G, σs, M, r, (Aft.bind (RA := RRb _) q).weaker ?_⟩
    rintro v H1 ⟨ρ1, G1, M1, d, hr1, hg1, r1, k1, q1⟩
    exact ⟨v, Fr, ρ1, G1, σs, M1, σ, d, rfl, r1, k1, q1⟩
  have blt : ∀ {z : String}, tyS t = some z → (t = .cls 0 → False) → bootBuiltins (Str.ofString z) = some (.type z) → y = Str.ofString z → gloC sc y = true → plainN y = true → Str.ofString z ∈ bis → PE X (.Name y p2) (tC (.ty z)) := fun {z} _ _ hv hy g pl hm => by
    subst hy
    exact pe_bltn (gl_of c g) (c.sk.free _ hm) hv rfl (plainN_ok pl).2.2 (plainN_ok pl).1
  cases t with
  | cls k =>
    simp only [tyC, Bool.and_eq_true, decide_eq_true_eq] at ht
    obtain ⟨h1, h2, h3⟩ := ht
    exact main ⟨⟨y, h1⟩, rfl, rfl⟩ (pe_glob (gl_of c h2) (c.sk.cl k y h1).1 rfl (plainN_ok h3).1)
  | _ =>
    simp only [tyC, tyS, Bool.and_eq_true, decide_eq_true_eq] at ht
    obtain ⟨h1, h2, h3⟩ := ht
    exact main ⟨_, rfl, rfl, rfl⟩ (blt rfl (fun z => nomatch z) (by decide +kernel) h1 h2 h3 (by decide +kernel))
theorem v_bf {sc : Scope} (c : Cok T Φ Γ nm n N sc hot xa WW X) {p : Pf} {a : Expr} {es : List Expr} {p1 pos : Pos} {rs : List SV → Mem → Rs (List D)} (hg : gloC sc (pfS p) = true) (hs : noStar a = true) (hss : es.all noStar = true) (h : PA X (a :: es) (LAb (wd X nm xa) WW rs)) :
    PE X (.Call (.Name (pfS p) p1) (a :: es) [] pos) (LK (wd X nm xa) WW fun σ M => if hot.isSome && !pfHot p then .stk else (rs σ M).bind fun ds M => pf p ds M) := by
  by_cases hh : (hot.isSome && !pfHot p) = true
  · exact le_false fun σ H Q ⟨Fr, ρ, G, σs, M, r, q⟩ => by
      dsimp only at q
      rw [if_pos hh] at q
      exact q.elim
  · have e : (fun (σ : List SV) (M : Mem) => if hot.isSome && !pfHot p then Rs.stk else (rs σ M).bind fun ds M => pf p ds M) = fun σ M => (rs σ M).bind fun ds M => pf p ds M := by
      funext σ M
      rw [if_neg hh]
    rw [e]
    have calm : pfHot p = false → X.calm = true := fun z => by
      cases hot with
      | none => exact c.mode.2.1
      | some k => rw [z] at hh; simp at hh
    cases p with
    | len => exact vb_call (c_len rfl) (gl_of c hg) (c.sk.free _ (by decide +kernel)) (by decide +kernel) (by decide +kernel) hs hss h
    | abs => exact vb_call c_abs (gl_of c hg) (c.sk.free _ (by decide +kernel)) (by decide +kernel) (by decide +kernel) hs hss h
    | divmod => exact vb_call c_divmod (gl_of c hg) (c.sk.free _ (by decide +kernel)) (by decide +kernel) (by decide +kernel) hs hss h
    | sum => exact vb_call (c_sum rfl (calm rfl)) (gl_of c hg) (c.sk.free _ (by decide +kernel)) (by decide +kernel) (by decide +kernel) hs hss h
    | all => exact vb_call (c_all rfl (calm rfl)) (gl_of c hg) (c.sk.free _ (by decide +kernel)) (by decide +kernel) (by decide +kernel) hs hss h
    | int => exact vt_call c_int (gl_of c hg) (c.sk.free _ (by decide +kernel)) (by decide +kernel) (by decide +kernel) hs hss h
end
end
end VM
/-! VM11: every checked expression. -/
namespace VM
open PySem L2 PySem.Spec PyProof.Rows
section
variable {T : Tab} {Φ : Hot → Nat → List D → Mem → Rs KD} {Γ : Tx} {nm : Nm} {n : Nat} {N : List Str} {hot : Hot}
/-- a test over a statement -/
def VeAll (T : Tab) (Φ : Hot → Nat → List D → Mem → Rs KD) (Γ : Tx) (nm : Nm) (n : Nat) (N : List Str) (hot : Hot) (e : E) : Prop :=
  (∀ (X : Cx) (sc : Scope) (xa : Option Addr) (WW : WX), Cok T Φ Γ nm n N sc hot xa WW X → ∀ ast, chkE Γ N e sc ast = true → Ve T Φ nm hot X xa WW e ast) ∧
  (∀ (X : Cx) (sc : Scope) (xa : Option Addr) (WW : WX), Cok T Φ Γ nm n N sc hot xa WW X → ∀ asts, chkL Γ N e sc asts = true → Va T Φ nm hot X xa WW e asts)
theorem noL {e : E} (h : ∀ (sc : Scope) (asts : List Expr), chkL Γ N e sc asts = false) : ∀ (X : Cx) (sc : Scope) (xa : Option Addr) (WW : WX), Cok T Φ Γ nm n N sc hot xa WW X → ∀ asts, chkL Γ N e sc asts = true → Va T Φ nm hot X xa WW e asts :=
  fun _ sc _ _ _ asts k => by rw [h sc asts] at k; cases k
/-- the machine's turn of a comprehension -/
abbrev elF (T : Tab) (Φ : Nat → List D → Mem → Rs KD) (hot : Hot) (cd el : E) : List SV → Mem → Rs (Option D) := fun τ M => if cd.isNil then (ev T Φ hot el τ M).fz.bind fun y M => .ok (some y) M
  else (ev T Φ hot cd τ M).bl.bind fun k M => if k then (ev T Φ hot el τ M).fz.bind fun y M => .ok (some y) M else .ok none M
theorem lc_e {own : List Nat} {t : Tg} {cd el : E} (ihc : VeAll T Φ Γ nm n N hot cd) (ihe : VeAll T Φ Γ nm n N hot el) {X : Cx} {sc : Scope} {xa : Option Addr} {WW : WX} (c : Cok T Φ Γ nm n N sc hot xa WW X) {tg elt : Expr} {ifs : List Expr} {scope : Scope}
    (h4 : chkT N (locB scope (relS scope sc)) t tg = true) (h6 : (match ifs with
        | [] => cd.isNil
        | [x] => !cd.isNil && chkE Γ N cd (relS scope sc) x
        | _ => false) = true) (h7 : chkE Γ N el (relS scope sc) elt = true) (L : Addr) (fr : Frm X L) : LcE X WW (wd X nm xa) L tg elt ifs scope t (elF T (Φ hot) hot cd el) := by
  refine ⟨fun s H C cl fp E => ?_, ?_⟩
  · have hsc : (compEnvC scope cl C X.env).scope = relS scope sc := by rw [← c.sc]; rfl
    refine vg (X := blkX X s H scope (compEnvC scope cl C X.env) fp E) (loc := locB scope (relS scope sc)) c.N c.nd (fun x hx => ?_) c.calm.blk rfl t tg h4
    unfold locB at hx
    split at hx
    · rename_i e
      have e' : (compEnvC scope cl C X.env).scope.names.lookup x = some .local := by rw [hsc]; exact e
      exact ⟨.inl e', .inr e'⟩
    · rename_i e
      split at hx
      · rename_i e2
        exact ⟨.inr (show (compEnvC scope cl C X.env).scope.names.lookup x = some .cell by rw [hsc]; exact e), .inl (show (scope.names.lookup x == some NameKind.cell) = true by rw [e2]; rfl)⟩
      · cases hx
    · cases hx
  · split at h6
    · have hc : cd.isNil = true := h6
      refine ⟨fun _ => tYes, fun σ => LF (wd X nm xa) (outW WW σ) fun τ M => (ev T (Φ hot) hot el τ M).fz, fun σ => ?_, fun σ s H C cl fp E toE => ⟨pts_nil, pe_fz (ihe.1 _ _ xa _ (c.blk fr σ scope s H C cl fp E toE) _ h7).pe⟩⟩
      unfold elF
      simp only [hc, if_true]
      exact el_one _
    · simp only [Bool.and_eq_true, Bool.not_eq_true'] at h6
      obtain ⟨hc, h6⟩ := h6
      refine ⟨fun σ => LT (wd X nm xa) (outW WW σ) fun τ M => (ev T (Φ hot) hot cd τ M).bl, fun σ => LF (wd X nm xa) (outW WW σ) fun τ M => (ev T (Φ hot) hot el τ M).fz, fun σ => ?_,
        fun σ s H C cl fp E toE => ⟨pts_one (ihc.1 _ _ xa _ (c.blk fr σ scope s H C cl fp E toE) _ h6).pt, pe_fz (ihe.1 _ _ xa _ (c.blk fr σ scope s H C cl fp E toE) _ h7).pe⟩⟩
      unfold elF
      simp only [hc, Bool.false_eq_true, if_false]
      exact el_if _ _
    · cases h6
theorem lcp {own : List Nat} {t : Tg} {it cd el : E} (iht : VeAll T Φ Γ nm n N hot it) (ihc : VeAll T Φ Γ nm n N hot cd) (ihe : VeAll T Φ Γ nm n N hot el) {X : Cx} {sc : Scope} {xa : Option Addr} {WW : WX} (c : Cok T Φ Γ nm n N sc hot xa WW X) {tg elt iter : Expr} {ifs : List Expr} {scope : Scope} {pos : Pos}
    (h : chkE Γ N (.lc own t it cd el) sc (.ListComp elt [⟨tg, iter, ifs, 0⟩] scope pos) = true) : LcP X WW iter tg elt ifs scope (ownP N own) (LK (wd X nm xa) WW fun σ M => ev T (Φ hot) hot (.lc own t it cd el) σ M) := by
  simp only [chkE, Bool.and_eq_true] at h
  obtain ⟨h1, h2, h3, h4, h5, h6, h7⟩ := h
  have hb : BlkOk X.N X.env.scope scope (ownP N own) := by rw [c.N, c.sc]; exact blkOk_by h3
  have hto : ∀ j ∈ t.is, j ∈ (ownP N own).map (·.2) := fun j hj => by
    rw [ownP_snd]
    exact of_decide_eq_true (List.all_eq_true.mp h5 j hj)
  have := v_lc c (iht.1 X sc xa WW c _ h2).pe hb (lc_e (own := own) ihc ihe c h4 h6 h7) hto (folded_ok h1 X.env) (own := own) (ownP_snd N own).symm
  simp only [ev]
  exact this
theorem evb_len {sc : Scope} : ∀ {as : E} {es : List Expr} {Φ : Nat → List D → Mem → Rs KD} {σ : List SV} {M M' : Mem} {ds : List D}, chkL Γ N as sc es = true → evb T Φ hot as σ M = .ok ds M' → ds.length = es.length := by
  intro as
  induction as with
  | cons a as _ ih =>
    intro es Φ σ M M' ds h e
    simp only [chkL] at h
    split at h
    · simp only [Bool.and_eq_true] at h
      simp only [evb] at e
      cases e1 : (ev T Φ hot a σ M).bw with
      | ok d M1 =>
        rw [e1] at e
        simp only [Rs.bind] at e
        cases e2 : evb T Φ hot as σ M1 with
        | ok ds' M2 =>
          rw [e2] at e
          simp only [Rs.ok.injEq] at e
          obtain ⟨rfl, _⟩ := e
          simp [ih h.2.2 e2]
        | ex C M2 => rw [e2] at e; cases e
        | stk => rw [e2] at e; cases e
      | ex C M1 => rw [e1] at e; cases e
      | stk => rw [e1] at e; cases e
    · cases h
  | nil =>
    intro es Φ σ M M' ds h e
    simp only [chkL, List.isEmpty_iff] at h
    subst h
    simp only [evb, Rs.ok.injEq] at e
    rw [← e.1]
    rfl
  | _ => intro es Φ σ M M' ds h e; simp [chkL] at h
theorem lcp_r {own : List Nat} {t : Tg} {as cd el : E} (iht : VeAll T Φ Γ nm n N hot as) (ihc : VeAll T Φ Γ nm n N hot cd) (ihe : VeAll T Φ Γ nm n N hot el) {X : Cx} {sc : Scope} {xa : Option Addr} {WW : WX} (c : Cok T Φ Γ nm n N sc hot xa WW X) {tg elt : Expr} {f : Str} {args : List Expr} {ifs : List Expr} {scope : Scope} {p1 p2 pos : Pos}
    (h : chkE Γ N (.lcr own t as cd el) sc (.ListComp elt [⟨tg, .Call (.Name f p1) args [] p2, ifs, 0⟩] scope pos) = true) : LcP X WW (.Call (.Name f p1) args [] p2) tg elt ifs scope (ownP N own) (LK (wd X nm xa) WW fun σ M => ev T (Φ hot) hot (.lcr own t as cd el) σ M) := by
  simp only [chkE, Bool.and_eq_true, decide_eq_true_eq] at h
  obtain ⟨hf, h1, ha, h2, h3, h4, h5, h6, h7⟩ := h
  subst hf
  have hb : BlkOk X.N X.env.scope scope (ownP N own) := by rw [c.N, c.sc]; exact blkOk_by h3
  have hto : ∀ j ∈ t.is, j ∈ (ownP N own).map (·.2) := fun j hj => by
    rw [ownP_snd]
    exact of_decide_eq_true (List.all_eq_true.mp h5 j hj)
  split at ha
  · have := v_lcr1 (p1 := p1) (p2 := p2) c h1 ha (iht.2 X sc xa WW c _ h2).b hb (lc_e (own := own) ihc ihe c h4 h6 h7) hto (own := own) (ownP_snd N own).symm fun σ M ds M' e => evb_len h2 e
    simp only [ev]
    exact this
  · simp only [Bool.and_eq_true] at ha
    have := v_lcr2 (p1 := p1) (p2 := p2) c h1 ha.1 ha.2 (iht.2 X sc xa WW c _ h2).b hb (lc_e (own := own) ihc ihe c h4 h6 h7) hto (own := own) (ownP_snd N own).symm fun σ M ds M' e => evb_len h2 e
    simp only [ev]
    exact this
  · cases ha
theorem ve (e : E) : VeAll T Φ Γ nm n N hot e := by
  induction e with
  | v i =>
    refine ⟨fun X sc xa WW c ast h => ?_, noL fun _ _ => rfl⟩
    simp only [chkE] at h
    split at h
    · simp only [decide_eq_true_eq, Bool.and_eq_true] at h
      exact .mk1 (v_var c h.1 h.2.1 h.2.2) (fun _ => rfl) (fun _ _ _ z => nomatch z)
    · cases h
  | c d =>
    refine ⟨fun X sc xa WW c ast h => ?_, noL fun _ _ => rfl⟩
    simp only [chkE] at h
    split at h
    · exact .mk1 (by simp only [ev]; exact v_const h) (fun _ => rfl) (fun _ _ _ z => nomatch z)
    · cases h
  | g g =>
    refine ⟨fun X sc xa WW c ast h => ?_, noL fun _ _ => rfl⟩
    simp only [chkE] at h
    split at h
    · simp only [decide_eq_true_eq, Bool.and_eq_true] at h
      exact .mk1 (v_glob c h.1 h.2.1 h.2.2) (fun _ => rfl) (fun _ _ _ z => nomatch z)
    · cases h
  | bin o a b iha ihb =>
    refine ⟨fun X sc xa WW c ast h => ?_, noL fun _ _ => rfl⟩
    simp only [chkE] at h
    split at h
    · simp only [decide_eq_true_eq, Bool.and_eq_true] at h
      obtain ⟨h1, h2, h3⟩ := h
      subst h1
      exact .mk1 (by simp only [ev]; exact v_bin rfl (iha.1 X sc xa WW c _ h2).pe (ihb.1 X sc xa WW c _ h3).pe) (fun _ => rfl) (fun _ _ _ z => nomatch z)
    · cases h
  | neg a iha =>
    refine ⟨fun X sc xa WW c ast h => ?_, noL fun _ _ => rfl⟩
    simp only [chkE] at h
    split at h
    · exact .mk1 (by simp only [ev]; exact v_neg (iha.1 X sc xa WW c _ h).pe) (fun _ => rfl) (fun _ _ _ z => nomatch z)
    · cases h
  | not a iha =>
    refine ⟨fun X sc xa WW c ast h => ?_, noL fun _ _ => rfl⟩
    simp only [chkE] at h
    split at h
    · have i := iha.1 X sc xa WW c _ h
      exact ⟨by simp only [ev]; exact v_not i.pe, by simp only [ev]; exact t_not i.pt, fun _ _ _ z => nomatch z⟩
    · cases h
  | and a b iha ihb =>
    refine ⟨fun X sc xa WW c ast h => ?_, noL fun _ _ => rfl⟩
    simp only [chkE] at h
    split at h
    · simp only [Bool.and_eq_true] at h
      have i := iha.1 X sc xa WW c _ h.1
      have j := ihb.1 X sc xa WW c _ h.2
      have w := w_and (pos := ‹Pos›) i.pt (pw_and1 (pos := ‹Pos›) j.pt)
      exact ⟨by simp only [ev]; exact v_and i.pe (pe_one j.pe), by simp only [ev]; exact w.pt, fun _ _ _ _ => by simp only [ev]; exact w⟩
    · simp only [Bool.and_eq_true] at h
      have i := iha.1 X sc xa WW c _ h.1
      have j := ihb.1 X sc xa WW c _ h.2
      have w := w_and i.pt (j.pw _ _ _ rfl)
      exact ⟨by simp only [ev]; exact v_and i.pe j.pe, by simp only [ev]; exact w.pt, fun _ _ _ _ => by simp only [ev]; exact w⟩
    · cases h
  | or a b iha ihb =>
    refine ⟨fun X sc xa WW c ast h => ?_, noL fun _ _ => rfl⟩
    simp only [chkE] at h
    split at h
    · simp only [Bool.and_eq_true] at h
      have i := iha.1 X sc xa WW c _ h.1
      have j := ihb.1 X sc xa WW c _ h.2
      have w := w_or (pos := ‹Pos›) i.pt (pw_or1 (pos := ‹Pos›) j.pt)
      exact ⟨by simp only [ev]; exact v_or i.pe (pe_one j.pe), by simp only [ev]; exact w.pt, fun _ _ _ _ => by simp only [ev]; exact w⟩
    · simp only [Bool.and_eq_true] at h
      have i := iha.1 X sc xa WW c _ h.1
      have j := ihb.1 X sc xa WW c _ h.2
      have w := w_or i.pt (j.pw _ _ _ rfl)
      exact ⟨by simp only [ev]; exact v_or i.pe j.pe, by simp only [ev]; exact w.pt, fun _ _ _ _ => by simp only [ev]; exact w⟩
    · cases h
  | cmp o a b iha ihb =>
    refine ⟨fun X sc xa WW c ast h => ?_, noL fun _ _ => rfl⟩
    simp only [chkE] at h
    split at h
    · simp only [Bool.and_eq_true, decide_eq_true_eq, Bool.not_eq_true'] at h
      obtain ⟨h1, h2, h3, h4⟩ := h
      subst h1
      have i := (iha.1 X sc xa WW c _ h3).pe
      have j := (ihb.1 X sc xa WW c _ h4).pe
      exact ⟨by simp only [ev]; exact v_cmp rfl c.un h2 i j, by simp only [ev]; exact t_cmp rfl c.un h2 i j, fun _ _ _ z => nomatch z⟩
    · cases h
  | chn o o' a b d iha ihb ihd =>
    refine ⟨fun X sc xa WW c ast h => ?_, noL fun _ _ => rfl⟩
    simp only [chkE] at h
    split at h
    · simp only [Bool.and_eq_true, decide_eq_true_eq, Bool.not_eq_true'] at h
      obtain ⟨h1, h2, h3, h4, h5, h6⟩ := h
      subst h1 h2
      have i := (iha.1 X sc xa WW c _ h4).pe
      have j := (ihb.1 X sc xa WW c _ h5).pe
      have k := (ihd.1 X sc xa WW c _ h6).pe
      exact ⟨by simp only [ev]; exact v_chn rfl c.un h3 i j k, by simp only [ev]; exact t_chn rfl c.un h3 i j k, fun _ _ _ z => nomatch z⟩
    · cases h
  | ife t a b iht iha ihb =>
    refine ⟨fun X sc xa WW c ast h => ?_, noL fun _ _ => rfl⟩
    simp only [chkE] at h
    split at h
    · simp only [Bool.and_eq_true] at h
      obtain ⟨h1, h2, h3⟩ := h
      have i := iht.1 X sc xa WW c _ h1
      have j := iha.1 X sc xa WW c _ h2
      have k := ihb.1 X sc xa WW c _ h3
      exact ⟨by simp only [ev]; exact v_ife i.pt j.pe k.pe, by simp only [ev]; exact t_ife i.pt j.pt k.pt, fun _ _ _ z => nomatch z⟩
    · cases h
  | call f as ih =>
    refine ⟨fun X sc xa WW c ast h => ?_, noL fun _ _ => rfl⟩
    simp only [chkE] at h
    split at h
    · split at h
      · rename_i y ps hf
        simp only [decide_eq_true_eq, Bool.and_eq_true] at h
        obtain ⟨h1, h2, h3, h4, h5, h6⟩ := h
        subst h1
        exact .mk1 (by simp only [ev]; exact v_call c hf h2 h3 h4 h5 (ih.2 X sc xa WW c _ h6).f) (fun _ => rfl) (fun _ _ _ z => nomatch z)
      · cases h
    · cases h
  | bf p as ih =>
    refine ⟨fun X sc xa WW c ast h => ?_, noL fun _ _ => rfl⟩
    simp only [chkE] at h
    split at h
    · simp only [decide_eq_true_eq, Bool.and_eq_true] at h
      obtain ⟨h1, h2, h3, h4, h5⟩ := h
      subst h1
      exact .mk1 (by simp only [ev]; exact v_bf c h2 h3 h4 (ih.2 X sc xa WW c _ h5).b) (fun _ => rfl) (fun _ _ _ z => nomatch z)
    · cases h
  | isi a t iha =>
    refine ⟨fun X sc xa WW c ast h => ?_, noL fun _ _ => rfl⟩
    simp only [chkE] at h
    split at h
    · simp only [decide_eq_true_eq, Bool.and_eq_true] at h
      obtain ⟨h1, h2, h3, h4, h5⟩ := h
      subst h1
      exact .mk1 (by simp only [ev]; exact v_isi c h2 h3 (iha.1 X sc xa WW c _ h4).pe h5) (fun _ => rfl) (fun _ _ _ z => nomatch z)
    · cases h
  | ix a i iha ihi =>
    refine ⟨fun X sc xa WW c ast h => ?_, noL fun _ _ => rfl⟩
    simp only [chkE] at h
    split at h
    · simp only [Bool.and_eq_true] at h
      obtain ⟨h1, h2, h3⟩ := h
      exact .mk1 (by simp only [ev]; exact v_ix rfl h1 (iha.1 X sc xa WW c _ h2).pe (ihi.1 X sc xa WW c _ h3).pe) (fun _ => rfl) (fun _ _ _ z => nomatch z)
    · cases h
  | tup as ih =>
    refine ⟨fun X sc xa WW c ast h => ?_, noL fun _ _ => rfl⟩
    simp only [chkE] at h
    split at h
    · exact .mk1 (by simp only [ev]; exact v_tup (ih.2 X sc xa WW c _ h).f) (fun _ => rfl) (fun _ _ _ z => nomatch z)
    · cases h
  | lst as ih =>
    refine ⟨fun X sc xa WW c ast h => ?_, noL fun _ _ => rfl⟩
    simp only [chkE] at h
    split at h
    · exact .mk1 (by simp only [ev]; exact v_lst (ih.2 X sc xa WW c _ h).f) (fun _ => rfl) (fun _ _ _ z => nomatch z)
    · cases h
  | dct0 =>
    refine ⟨fun X sc xa WW c ast h => ?_, noL fun _ _ => rfl⟩
    simp only [chkE] at h
    split at h
    · exact .mk1 (by simp only [ev]; exact v_dct0) (fun _ => rfl) (fun _ _ _ z => nomatch z)
    · cases h
  | lc own t it cd el ihit ihc ihe =>
    refine ⟨fun X sc xa WW c ast h => ?_, noL fun _ _ => rfl⟩
    have h' := h
    simp only [chkE] at h
    split at h
    · exact .mk1 ((lcp ihit ihc ihe c h').pe c) (fun _ => rfl) (fun _ _ _ z => nomatch z)
    · cases h
  | lcr own t as cd el ihas ihc ihe =>
    refine ⟨fun X sc xa WW c ast h => ?_, noL fun _ _ => rfl⟩
    have h' := h
    simp only [chkE] at h
    split at h
    · exact .mk1 ((lcp_r ihas ihc ihe c h').pe c) (fun _ => rfl) (fun _ _ _ z => nomatch z)
    · cases h
  | nil =>
    refine ⟨fun X sc xa WW c ast h => by simp [chkE] at h, fun X sc xa WW c asts h => ?_⟩
    simp only [chkL, List.isEmpty_iff] at h
    subst h
    exact ⟨by simp only [evs]; exact va_nil, by simp only [evb]; exact vb_nil⟩
  | cons a as iha ihs =>
    refine ⟨fun X sc xa WW c ast h => by simp [chkE] at h, fun X sc xa WW c asts h => ?_⟩
    simp only [chkL] at h
    split at h
    · simp only [Bool.and_eq_true] at h
      obtain ⟨h1, h2, h3⟩ := h
      have i := (iha.1 X sc xa WW c _ h2).pe
      have j := ihs.2 X sc xa WW c _ h3
      exact ⟨by simp only [evs]; exact va_cons h1 i j.f, by simp only [evb]; exact vb_cons h1 i j.b⟩
    · cases h
end
end VM
/-! VM12: every checked statement. -/
namespace VM
open PySem L2 PySem.Spec PyProof.Rows

/-- no comprehension that stands alone -/
def noComp : Expr → Bool
  | .ListComp _ _ _ _ => false
  | .SetComp _ _ _ _ => false
  | .DictComp _ _ _ _ _ => false
  | _ => true
theorem noSwap {e : Expr} (h : noComp e = true) (t : Option Expr) (l : Nat) (env : Env) : swapsWith e t l env = pure false := by cases e <;> first | rfl | cases h
def noTup : Expr → Bool
  | .Tuple _ _ _ => false
  | _ => true
theorem noStores {e : Expr} (h : noTup e = true) (t : List Expr) (env : Env) : swappedStores t e env = pure none := by
  unfold swappedStores
  cases e <;> first | (cases h; done) | skip
  all_goals first | rfl | (cases t with
    | nil => rfl
    | cons a r => cases r <;> (cases a <;> rfl))
/-- the comprehension's own store -/
def swB (sc scope : Scope) (x : Str) (l : Bool) : Bool := (match sc.names.lookup x with
  | some .local => true
  | _ => false) && (l && !(scope.names.any fun (n, k) => n == x && (k == .local || k == .cell)))
mutual
def chk1 (Γ : Tx) (N : List Str) (sc : Scope) : C → Stmt → Bool
  | .nop, s => (match s with
    | .Pass _ => true
    | _ => false)
  | .set _ i e, s => (match s with
    | .Assign [.Name x _] v _ => decide (N[i]? = some x) && (locC sc x && (plainN x && chkE Γ N e sc v))
    | _ => false)
  | .setT t e, s => (match s with
    | .Assign [.Tuple es k p] v _ => chkT N (locC sc) t (.Tuple es k p) && (noComp v && (noTup v && chkE Γ N e sc v))
    | _ => false)
  | .exp e, s => (match s with
    | .Expr v _ => noComp v && chkE Γ N e sc v
    | _ => false)
  | .ite t a b, s => (match s with
    | .If x as bs _ => chkE Γ N t sc x && (chkC Γ N sc a as && chkC Γ N sc b bs)
    | _ => false)
  | .for t it b, s => (match s with
    | .For tg iter body [] _ => chkT N (locC sc) t tg && (chkC Γ N sc b body && (match it with
      | .e a => notSet iter && chkE Γ N a sc iter
      | .r1 a => (match iter with
        | .Call (.Name f _) [x] [] _ => decide (f = "range") && (gloC sc f && (noStar x && chkE Γ N a sc x))
        | _ => false)
      | .r2 a b => (match iter with
        | .Call (.Name f _) [x, y] [] _ => decide (f = "range") && (gloC sc f && (noStar x && (noStar y && (chkE Γ N a sc x && chkE Γ N b sc y))))
        | _ => false)))
    | _ => false)
  | .ret e, s => (match s with
    | .Return (some v) _ => chkE Γ N e sc v
    | .Return none _ => (match e with
      | .c .non => true
      | _ => false)
    | _ => false)
  | .rai k, s => (match s with
    | .Raise (some (.Call (.Name x _) [.Constant (.str _) _ _] [] _)) none _ => decide (Γ.cs[k]? = some x) && (gloC sc x && plainN x)
    | _ => false)
  | .try b h, s => (match s with
    | .Try body hds [] [] _ => chkC Γ N sc b body && chkH Γ N sc h hds
    | _ => false)
  | _, _ => false
def chkC (Γ : Tx) (N : List Str) (sc : Scope) : C → List Stmt → Bool
  | .nop, ss => ss.isEmpty
  | .seq a b, ss => (match ss with
    | s :: r => chk1 Γ N sc a s && chkC Γ N sc b r
    | _ => false)
  | _, _ => false
def chkH (Γ : Tx) (N : List Str) (sc : Scope) : C → List ExceptHandler → Bool
  | .hnd k i s r, hs => (match hs, i, r with
    | [.ExceptHandler (some (.Name x _)) (some y) (b :: suite) _], some i, .nop => decide (Γ.cs[k]? = some x) && (gloC sc x && (plainN x && (decide (N[i]? = some y) && ((match sc.names.lookup y with
      | some .local => true
      | _ => false) && chkC Γ N sc s (b :: suite)))))
    | _, _, _ => false)
  | _, _ => false
end
section
variable {T : Tab} {Φ : Hot → Nat → List D → Mem → Rs KD} {Γ : Tx} {nm : Nm} {n : Nat} {N : List Str}
def Vs1 (T : Tab) (Φ : Hot → Nat → List D → Mem → Rs KD) (Γ : Tx) (nm : Nm) (n : Nat) (N : List Str) (c : C) : Prop :=
  (∀ (hot : Hot) (X : Cx) (sc : Scope) (xa : Option Addr) (WW : WX), Cok T Φ Γ nm n N sc hot xa WW X → FnL WW X → ∀ s, chk1 Γ N sc c s = true → PS X s (LS (wd X nm xa) WW fun σ M => ex T Φ hot c σ M)) ∧
  (∀ (hot : Hot) (X : Cx) (sc : Scope) (xa : Option Addr) (WW : WX), Cok T Φ Γ nm n N sc hot xa WW X → FnL WW X → ∀ ss, chkC Γ N sc c ss = true → PSs X ss (LS (wd X nm xa) WW fun σ M => ex T Φ hot c σ M))
def VsAll (T : Tab) (Φ : Hot → Nat → List D → Mem → Rs KD) (Γ : Tx) (nm : Nm) (n : Nat) (N : List Str) (c : C) : Prop :=
  Vs1 T Φ Γ nm n N c ∧ match c with
    | .hnd _ _ s _ => Vs1 T Φ Γ nm n N s
    | _ => True
theorem no1 {c : C} (h : ∀ (sc : Scope) (s : Stmt), chk1 Γ N sc c s = false) : ∀ (hot : Hot) (X : Cx) (sc : Scope) (xa : Option Addr) (WW : WX), Cok T Φ Γ nm n N sc hot xa WW X → FnL WW X → ∀ s, chk1 Γ N sc c s = true → PS X s (LS (wd X nm xa) WW fun σ M => ex T Φ hot c σ M) :=
  fun _ _ sc _ _ _ _ s k => by rw [h sc s] at k; cases k
theorem noC {c : C} (h : ∀ (sc : Scope) (s : List Stmt), chkC Γ N sc c s = false) : ∀ (hot : Hot) (X : Cx) (sc : Scope) (xa : Option Addr) (WW : WX), Cok T Φ Γ nm n N sc hot xa WW X → FnL WW X → ∀ s, chkC Γ N sc c s = true → PSs X s (LS (wd X nm xa) WW fun σ M => ex T Φ hot c σ M) :=
  fun _ _ sc _ _ _ _ s k => by rw [h sc s] at k; cases k
theorem ls_false {X : Cx} {s : Stmt} {t : TS} (h : ∀ D σ H, ¬ t D σ H) : PS X s t := ⟨fun _ _ σ H D _ z => (h D σ H z).elim⟩
theorem locT {WW : WX} {X : Cx} {sc : Scope} (hs : X.env.scope = sc) (fl : FnL WW X) : ∀ x, locC sc x = true → Loc X.env.scope x ∧ (X.fn x = true ∨ X.env.scope.names.lookup x = some .local) := fun x h => ⟨by rw [hs]; exact locC_ok h, .inl (fl.fn x)⟩
/-- a name set to a comprehension -/
theorem s_lc {hot : Hot} {X : Cx} {sc : Scope} {xa : Option Addr} {WW : WX} (c : Cok T Φ Γ nm n N sc hot xa WW X) (fl : FnL WW X) {m : Md} {i : Nat} {e : E} {own' : List (Str × Nat)} {x : Str} {elt tg iter : Expr} {ifs : List Expr} {scope : Scope} {p1 p2 p3 : Pos}
    (hi : N[i]? = some x) (hx : locC sc x = true) (pe : PE X (.ListComp elt [⟨tg, iter, ifs, 0⟩] scope p2) (LK (wd X nm xa) WW fun σ M => ev T (Φ hot) hot e σ M)) (lp : LcP X WW iter tg elt ifs scope own' (LK (wd X nm xa) WW fun σ M => ev T (Φ hot) hot e σ M)) :
    PS X (.Assign [.Name x p1] (.ListComp elt [⟨tg, iter, ifs, 0⟩] scope p2) p3) (LS (wd X nm xa) WW fun σ M => ex T Φ hot (.set m i e) σ M) := by
  have hi' : X.N[i]? = some x := by rw [c.N]; exact hi
  have loc := locT c.sc fl x hx
  by_cases hs : swB sc scope x (p1.line == p2.line) = true
  · unfold swB at hs
    simp only [Bool.and_eq_true, Bool.not_eq_true'] at hs
    obtain ⟨s1, s2, s3⟩ := hs
    have hl : sc.names.lookup x = some .local := by split at s1 <;> first | assumption | cases s1
    obtain ⟨wi, g, tt, te, L, fr, hxe, hpi, hb, hg, ht, he, hfo, k⟩ := lp.ex
    refine PS.weak (ps_setLcX (py := p1) (spos := p3) c.calm fr hxe c.nd hi' (by rw [c.sc]; exact hl) (sw_true fl.kd (by rw [c.sc]; exact hl) s2 s3) hpi hb hg ht he hfo) fun D σ H ⟨Fr, ρ, G, σs, M, r, q⟩ => ?_
    refine k σ H (fun x H1 => gName i x σ H1 D.nx) ⟨Fr, ρ, G, σs, M, r, ?_⟩
    simp only [ex] at q
    refine (AftS.on (RA := RRk (wd X nm xa) Fr) q).weaker ?_
    rintro y H1 ⟨ρ1, G1, M1, a, h1, h2, h3, h4, h5⟩
    exact stored h3 h4 h5
  · simp only [ex]
    refine s_set c.nd hi' loc.1 loc.2 ?_ pe
    unfold swapsWith
    have e : X.env.kindOf x = sc.names.lookup x := by unfold Env.kindOf; rw [c.sc]
    have hb : X.env.blockKind = .function := by unfold Env.blockKind; rw [fl.kd]; rfl
    dsimp only
    rw [e, hb]
    show pure ((true && (sc.names.lookup x == some NameKind.local) && (p1.line == p2.line)) && !(scope.names.any fun (n, k) => n == x && (k == .local || k == .cell))) = (pure false : Sem Bool)
    congr 1
    rw [Bool.eq_false_iff]
    intro z
    refine hs ?_
    unfold swB
    simp only [Bool.true_and, Bool.and_eq_true] at z ⊢
    obtain ⟨⟨z1, z2⟩, z3⟩ := z
    refine ⟨?_, z2, z3⟩
    rw [eq_of_beq z1]
theorem vs (c : C) : VsAll T Φ Γ nm n N c := by
  induction c with
  | nop =>
    refine ⟨⟨fun hot X sc xa WW ok fl s h => ?_, fun hot X sc xa WW ok fl ss h => ?_⟩, trivial⟩
    · simp only [chk1] at h
      split at h
      · simp only [ex]; exact s_pass
      · cases h
    · simp only [chkC, List.isEmpty_iff] at h
      subst h
      simp only [ex]; exact s_nil
  | seq a b iha ihb =>
    refine ⟨⟨no1 fun _ _ => rfl, fun hot X sc xa WW ok fl ss h => ?_⟩, trivial⟩
    simp only [chkC] at h
    split at h
    · simp only [Bool.and_eq_true] at h
      simp only [ex]
      exact s_cons (iha.1.1 hot X sc xa WW ok fl _ h.1) (ihb.1.2 hot X sc xa WW ok fl _ h.2)
    · cases h
  | set m i e =>
    refine ⟨⟨fun hot X sc xa WW ok fl s h => ?_, noC fun _ _ => rfl⟩, trivial⟩
    simp only [chk1] at h
    split at h
    · rename_i x p1 v p3
      simp only [decide_eq_true_eq, Bool.and_eq_true] at h
      obtain ⟨h1, h2, h3, h4⟩ := h
      have loc := locT ok.sc fl x h2
      have gen : noComp v = true → PS X (.Assign [.Name x p1] v p3) (LS (wd X nm xa) WW fun σ M => ex T Φ hot (.set m i e) σ M) := fun hn => by
        simp only [ex]
        exact s_set ok.nd (by rw [ok.N]; exact h1) loc.1 loc.2 (noSwap hn _ _ _) ((ve e).1 X sc xa WW ok _ h4).pe
      cases v with
      | ListComp elt gens scope p2 =>
        cases e with
        | lc own t it cd el =>
          have h4' := h4
          simp only [chkE] at h4'
          split at h4'
          · rename_i e1 tg iter ifs sc1 p4 eq
            cases eq
            exact s_lc ok fl h1 h2 ((ve _).1 X sc xa WW ok _ h4).pe (lcp (ve it) (ve cd) (ve el) ok h4)
          · cases h4'
        | lcr own t as cd el =>
          have h4' := h4
          simp only [chkE] at h4'
          split at h4'
          · rename_i e1 tg f p5 args p6 ifs sc1 p4 eq
            cases eq
            exact s_lc ok fl h1 h2 ((ve _).1 X sc xa WW ok _ h4).pe (lcp_r (ve as) (ve cd) (ve el) ok h4)
          · cases h4'
        | _ => simp [chkE] at h4
      | SetComp _ _ _ _ => cases e <;> simp [chkE] at h4
      | DictComp _ _ _ _ _ => cases e <;> simp [chkE] at h4
      | _ => exact gen rfl
    · cases h
  | setT t e =>
    refine ⟨⟨fun hot X sc xa WW ok fl s h => ?_, noC fun _ _ => rfl⟩, trivial⟩
    simp only [chk1] at h
    split at h
    · rename_i es k p v p3
      simp only [Bool.and_eq_true] at h
      obtain ⟨h1, h2, h3, h4⟩ := h
      have pe := ((ve (T := T) (Φ := Φ) (nm := nm) (n := n) (hot := hot) e).1 X sc xa WW ok _ h4).pe
      have pg := vg (loc := locC sc) (W := wd X nm xa) ok.N ok.nd (locT ok.sc fl) ok.calm rfl t _ h1
      refine PS.weak (ps_asg (pe_fz pe) pg (show swapsWith v (some (.Tuple es k p)) p3.line X.env = pure false from noSwap h2 _ _ _) (noStores h3 _ _)) fun D σ H ⟨Fr, ρ, G, σs, M, r, q⟩ => ⟨Fr, ρ, G, σs, M, r, ?_⟩
      simp only [ex] at q
      refine (AftS.on (RA := RRf _) q).weaker ?_
      rintro y H1 ⟨ρ1, G1, M1, a, h1, h2, h3, h4, h5⟩
      split at h5
      · cases hb : t.bind a σs with
        | none => rw [hb] at h5; exact h5.elim
        | some τs =>
          rw [hb] at h5
          exact ⟨Fr, ρ1, G1, σs, M1, a, h3, h4, τs, hb, fun τ r2 _ _ => h5 ρ1 G1 τ H1 (Rle.refl _) (Hle.refl _) r2⟩
      · exact h5.elim
    · cases h
  | exp e =>
    refine ⟨⟨fun hot X sc xa WW ok fl s h => ?_, noC fun _ _ => rfl⟩, trivial⟩
    simp only [chk1] at h
    split at h
    · simp only [Bool.and_eq_true] at h
      simp only [ex]
      exact s_exp (noSwap h.1 _ _ _) ((ve e).1 X sc xa WW ok _ h.2).pe
    · cases h
  | ite t a b iha ihb =>
    refine ⟨⟨fun hot X sc xa WW ok fl s h => ?_, noC fun _ _ => rfl⟩, trivial⟩
    simp only [chk1] at h
    split at h
    · simp only [Bool.and_eq_true] at h
      obtain ⟨h1, h2, h3⟩ := h
      simp only [ex]
      exact s_ite ((ve t).1 X sc xa WW ok _ h1).pt (iha.1.2 hot X sc xa WW ok fl _ h2) (ihb.1.2 hot X sc xa WW ok fl _ h3)
    · cases h
  | «for» t it b ihb =>
    refine ⟨⟨fun hot X sc xa WW ok fl s h => ?_, noC fun _ _ => rfl⟩, trivial⟩
    simp only [chk1] at h
    split at h
    · rename_i tg iter body p
      simp only [Bool.and_eq_true] at h
      obtain ⟨h1, h2, h3⟩ := h
      have pg := vg (loc := locC sc) (W := wd X nm xa) ok.N ok.nd (locT ok.sc fl) ok.calm rfl t _ h1
      have hb := ihb.1.2 hot X sc xa WW ok fl _ h2
      simp only [ex]
      cases it with
      | e a =>
        simp only [Bool.and_eq_true] at h3
        exact s_for ok fl ((ve a).1 X sc xa WW ok _ h3.2).pe pg hb (folded_ok h3.1 X.env)
      | r1 a =>
        dsimp only at h3
        split at h3
        · simp only [decide_eq_true_eq, Bool.and_eq_true] at h3
          obtain ⟨k1, k2, k3, k4⟩ := h3
          subst k1
          exact s_rng1 ok fl k2 k3 ((ve a).1 X sc xa WW ok _ k4).pe pg hb
        · cases h3
      | r2 a b' =>
        dsimp only at h3
        split at h3
        · simp only [decide_eq_true_eq, Bool.and_eq_true] at h3
          obtain ⟨k1, k2, k3, k4, k5, k6⟩ := h3
          subst k1
          exact s_rng2 ok fl k2 k3 k4 ((ve a).1 X sc xa WW ok _ k5).pe ((ve b').1 X sc xa WW ok _ k6).pe pg hb
        · cases h3
    · cases h
  | ret e =>
    refine ⟨⟨fun hot X sc xa WW ok fl s h => ?_, noC fun _ _ => rfl⟩, trivial⟩
    simp only [chk1] at h
    split at h
    · simp only [ex]
      exact s_ret ((ve e).1 X sc xa WW ok _ h).pe
    · split at h
      · simp only [ex, ev]
        exact s_retN
      · cases h
    · cases h
  | rai k =>
    refine ⟨⟨fun hot X sc xa WW ok fl s h => ?_, noC fun _ _ => rfl⟩, trivial⟩
    simp only [chk1] at h
    split at h
    · simp only [decide_eq_true_eq, Bool.and_eq_true] at h
      obtain ⟨h1, h2, h3⟩ := h
      cases hot with
      | some k => exact ls_false fun D σ H ⟨Fr, ρ, G, σs, M, r, q⟩ => by simp only [ex] at q; exact q
      | none =>
        simp only [ex]
        exact s_raise ok fl h1 h2 h3
    · cases h
  | «try» b h ihb ihh =>
    refine ⟨⟨fun hot X sc xa WW ok fl s k => ?_, noC fun _ _ => rfl⟩, trivial⟩
    simp only [chk1] at k
    split at k
    · rename_i body hds pt
      simp only [Bool.and_eq_true] at k
      obtain ⟨k1, k2⟩ := k
      cases hot with
      | some k => exact ls_false fun D σ H ⟨Fr, ρ, G, σs, M, r, q⟩ => by simp only [ex] at q; exact q
      | none =>
        cases h with
        | hnd K i s r =>
          simp only [chkH] at k2
          split at k2
          · rename_i x np y b0 suite p1 i
            simp only [decide_eq_true_eq, Bool.and_eq_true] at k2
            obtain ⟨e1, e2, e3, e4, e5, e6⟩ := k2
            have ey : sc.names.lookup y = some .local := by split at e5 <;> first | assumption | cases e5
            have m1 := ok.mode.1
            subst m1
            have t := s_tryAs (pos := pt) (pos' := p1) (np := np) (rb := fun σ M => ex T Φ none b σ M) (rs := fun k σ M => ex T Φ (some k) s σ M) ok fl e1 e2 e3 e4 ey (fun W' pn xe c2 f2 => ihb.1.2 none _ sc none W' c2 f2 _ k1) (fun a oe pn k c2 f2 => ihh.2.2 (some k) _ sc (some a) noW c2 f2 _ e6)
            refine PS.weak t fun D σ H ⟨Fr, ρ, G, σs, M, r, q⟩ => ⟨Fr, ρ, G, σs, M, r, ?_⟩
            simp only [ex, hx] at q
            exact q
          · cases k2
        | _ => simp [chkH] at k2
    · cases k
  | hnd K i s r ihs ihr => exact ⟨⟨no1 fun _ _ => rfl, noC fun _ _ => rfl⟩, ihs.1⟩
end
end VM
/-! VM13: defs. -/
namespace VM
open PySem L2 PySem.Spec PyProof.Rows
theorem zip_look : ∀ {xs : List Str} {us : List Value} {x : Str}, us.length = xs.length → x ∈ xs → ((xs.zip us).lookup x).isSome = true
  | [], _, _, _, h => by cases h
  | y :: ys, [], _, hl, _ => by cases hl
  | y :: ys, u :: us, x, hl, h => by
    rw [List.zip_cons_cons, List.lookup_cons]
    by_cases e : x = y
    · subst e; simp
    · have : (x == y) = false := by simpa using e
      rw [this]
      exact zip_look (by simpa using hl) ((List.mem_cons.mp h).resolve_left e)
theorem zip_binds : ∀ {xs : List Str} {us : List Value}, xs.Nodup → us.length = xs.length → (xs.filterMap fun n => ((xs.zip us).lookup n).map (n, ·)) = xs.zip us := by
  have key : ∀ (xs : List Str) (us : List Value) (s : List (Str × Value)), xs.Nodup → us.length = xs.length → (∀ x ∈ xs, s.lookup x = (xs.zip us).lookup x) → (xs.filterMap fun n => (s.lookup n).map (n, ·)) = xs.zip us := by
    intro xs
    induction xs with
    | nil => intro us s _ hl _; cases us <;> simp_all
    | cons y ys ih =>
      intro us s nd hl h
      cases us with
      | nil => cases hl
      | cons u us =>
        have e := h y List.mem_cons_self
        rw [List.zip_cons_cons, List.lookup_cons, beq_self_eq_true] at e
        rw [List.filterMap_cons, e]
        show (y, u) :: _ = _
        rw [List.zip_cons_cons]
        congr 1
        obtain ⟨n1, n2⟩ := List.nodup_cons.mp nd
        refine ih us s n2 (by simpa using hl) fun x hx => ?_
        rw [h x (List.mem_cons_of_mem _ hx), List.zip_cons_cons, List.lookup_cons]
        have : (x == y) = false := by
          rw [beq_eq_false_iff_ne]
          exact fun z => n1 (z ▸ hx)
        rw [this]
  exact fun {xs us} nd hl => key xs us (xs.zip us) nd hl fun _ _ => rfl
theorem bind_plain {x qual : Str} {args : List Arg} {body : List Stmt} {scope : Scope} {kV doc pm cdv ct : Value} {an : Option Addr} {us : List Value} (nd : (args.map (·.arg)).Nodup) (hl : us.length = args.length) :
    bindArgs (PySem.W.fnOf x qual ⟨[], args, none, [], [], none, []⟩ body scope .none kV doc pm an cdv ct) ⟨us, []⟩ = pure ((args.map (·.arg)).zip us) := by
  have h1 : ((args.map (·.arg)).filter fun n => (((args.map (·.arg)).zip us).lookup n).isNone) = [] := by
    rw [List.filter_eq_nil_iff]
    intro y hy
    have := zip_look (us := us) (by rw [hl, List.length_map]) hy
    rw [Option.isNone_iff_eq_none]
    intro z
    rw [z] at this
    cases this
  have h2 := zip_binds (us := us) nd (by rw [hl, List.length_map])
  unfold bindArgs
  have pb : ∀ {α β : Type} (a : α) (f : α → Sem β), (pure a >>= f) = f a := fun _ _ => rfl
  have hs : seqItems? .none = (pure none : Sem _) := rfl
  simp only [List.map_nil, List.nil_append, List.append_nil, List.length_map, List.forIn_nil, pb, hs, Option.getD_none, hl, Nat.lt_irrefl, gt_iff_lt, decide_false, Bool.false_and, Bool.false_eq_true, if_false, List.length_nil, List.drop_nil, Nat.zero_sub, Nat.sub_zero, List.zip_nil_right]
  have ht : (args.map (·.arg)).take args.length = args.map (·.arg) := List.take_of_length_le (by rw [List.length_map]; exact Nat.le_refl _)
  simp only [ht, h1, List.isEmpty_nil, Bool.not_true, Bool.false_eq_true, if_false, pb, h2]

/-! ### a def of the text -/
structure Fn where
  name : Str
  N : List Str
  ps : List Str
  st : Stmt
def fargs (s : Stmt) : List Arg := (defArgs s).args
def plainA (s : Stmt) : Bool := match defArgs s with
  | ⟨[], _, none, [], [], none, []⟩ => true
  | _ => false
def scopeC (N ps : List Str) (sc : Scope) : Bool :=
  (match sc.kind with
    | .function => true
    | _ => false) && (!sc.isCoroutine && (!sc.isGenerator && (decide N.Nodup && (decide (N.take ps.length = ps) && (ps.all (fun x => locC sc x) && (sc.names.all fun y => match y.2 with
    | .free => false
    | _ => true))))))
def fnC (Γ : Tx) (f : Fn) (c : C) : Bool := plainA f.st && (decide ((fargs f.st).map (·.arg) = f.ps) && (scopeC f.N f.ps (defScope f.st) && chkC Γ f.N (defScope f.st) c (defBody f.st)))
theorem scope_ok {N ps : List Str} {sc : Scope} (h : scopeC N ps sc = true) : FnScope N ps sc := by
  unfold scopeC at h
  simp only [Bool.and_eq_true, Bool.not_eq_true', decide_eq_true_eq] at h
  obtain ⟨h1, h2, h3, h4, h5, h6, h7⟩ := h
  refine ⟨?_, h2, h3, h4, h5, fun x hx => locC_ok (List.all_eq_true.mp h6 x hx), fun y hy e => ?_⟩
  · split at h1
    · assumption
    · cases h1
  · have := List.all_eq_true.mp h7 y hy
    rw [e] at this
    cases this
/-- the text: its defs, each with the machine's text -/
structure Text where
  fs : List (Fn × C)
  cs : List Str
  gl : List Str
  T : Tab
def Text.tx (P : Text) : Tx := ⟨P.fs.map fun f => (f.1.name, f.1.ps), P.cs, P.gl⟩
def Text.pr (P : Text) : Pr := ⟨P.T, P.fs.map fun f => ⟨f.1.N.length, f.1.ps.length, f.2⟩⟩
def Text.ok (P : Text) : Bool := decide (P.cs.length = P.T.up.length) && P.fs.all fun f => fnC P.tx f.1 f.2
/-- what the top has made of it -/
structure Made (P : Text) (nm : Nm) (K : PySem.W.Frag) (mg : Str → Option Value) : Prop where
  sk : Sk P.T P.tx nm K mg
  fn : ∀ (f : Nat) (x : Fn × C), P.fs[f]? = some x → ∃ fd, FunD K x.1.name x.1.name (defArgs x.1.st) (defBody x.1.st) (defScope x.1.st) [] [] (nm.fa f) fd
section
variable {P : Text} {nm : Nm} {prog : Program} {w : World} {K : PySem.W.Frag} {mg : Str → Option Value} {base : Heap}
theorem tx_fs {f : Nat} {x : Str} {ps : List Str} (h : P.tx.fs[f]? = some (x, ps)) : ∃ y, P.fs[f]? = some y ∧ y.1.name = x ∧ y.1.ps = ps := by
  unfold Text.tx at h
  simp only [List.getElem?_map, Option.map_eq_some_iff] at h
  obtain ⟨y, h1, h2⟩ := h
  cases h2
  exact ⟨y, h1, rfl, rfl⟩
theorem pr_fd {f : Nat} {y : Fn × C} (h : P.fs[f]? = some y) : P.pr.fd f = ⟨y.1.N.length, y.1.ps.length, y.2⟩ := by
  unfold Pr.fd Text.pr
  simp [List.getD, h]
theorem start_rel {W : Wd} {Fr : Hp} {ρ : List Addr} {G : Hp} {M : Mem} {H : Hp} {N : List Str} {ds : List D} {vs : List V} (r : MRel W Fr ρ G M H) (h : Fzs W ρ G ds vs) : Rel W Fr ρ G (VM.start N.length ds) M (L2.start N vs) H := by
  have hl := h.length
  have get : ∀ (i : Nat) (s : SV), (VM.start N.length ds)[i]? = some s → (∃ d, ds[i]? = some d ∧ s = .v d) ∨ (ds.length ≤ i ∧ s = .u) := fun i s e => by
    unfold VM.start at e
    by_cases hi : i < ds.length
    · rw [List.getElem?_append_left (by rw [List.length_map]; exact hi), List.getElem?_map, List.getElem?_eq_getElem hi] at e
      exact .inl ⟨_, List.getElem?_eq_getElem hi, (Option.some.inj e).symm⟩
    · rw [List.getElem?_append_right (by rw [List.length_map]; omega)] at e
      exact .inr ⟨by omega, (List.mem_replicate.mp (List.mem_of_getElem? e)).2⟩
  refine { r with sl := ?_, val := fun i d e => ?_, own := fun i d e => ?_, self := fun i d e => ?_, uniq := fun i j p ⟨d, e, _⟩ _ => ?_ }
  · unfold VM.start L2.start
    rw [List.length_append, List.length_append, List.length_map, List.length_map, List.length_replicate, List.length_replicate, hl]
  · rcases get i _ e with ⟨d', e1, e2⟩ | ⟨_, e2⟩
    · cases e2
      obtain ⟨v, h1, h2⟩ := h.get e1
      refine ⟨v, ?_, h2⟩
      unfold L2.start
      have hi : i < vs.length := (List.getElem?_eq_some_iff.mp h1).1
      rw [List.getElem?_append_left (by rw [List.length_map]; exact hi), List.getElem?_map, h1]
      rfl
    · cases e2
  · rcases get i _ e with ⟨d', _, e2⟩ | ⟨_, e2⟩ <;> cases e2
  · rcases get i _ e with ⟨d', _, e2⟩ | ⟨_, e2⟩ <;> cases e2
  · rcases get i _ e with ⟨d', _, e2⟩ | ⟨_, e2⟩ <;> cases e2
/-- a body's end is a call's end -/
theorem body_end {W : Wd} {Fr : Hp} {ρ : List Addr} {G : Hp} {R : Sx} {Q : VK} {E : XK} (h : AftC W Fr ρ G R.res Q E) : AftS W (fun cls d _ H => E cls d H) Fr ρ G R { nx := fun _ H' => Q .non H', rt := Q } := by
  cases R with
  | nx s M => exact fun ρ' G' σ H h1 h2 h3 => h ρ' G' .non H h1 h2 h3.toMRel rfl
  | rt r M => exact h
  | ex C s M => exact fun ρ' G' σ H h1 h2 h3 => h ρ' G' H h1 h2 h3.toMRel
  | stk => exact h
theorem body_read {hot : Hot} {xa : Option Addr} {n f : Nat} {y : Fn × C} (hy : P.fs[f]? = some y) {vs : List V} {H : Hp} {Q : VK} {E : XK} {W : Wd} (hsp : spC W (call P.pr (n + 1) hot) f y.1.ps.length vs H Q E) :
    LS W (fun cls d _ H => E cls d H) (fun σ M => ex P.T (call P.pr n) hot y.2 σ M) { nx := fun _ H' => Q .non H', rt := Q } (L2.start y.1.N vs) H := by
  obtain ⟨hl, Fr, ρ, G, M, ds, r, fz, q⟩ := hsp
  refine ⟨Fr, ρ, G, _, M, start_rel (N := y.1.N) r fz, body_end ?_⟩
  simp only [call, pr_fd hy] at q
  have : ds.length = y.1.ps.length := by rw [fz.length]; exact hl
  rw [if_pos this] at q
  exact q
/-- as fn_of, where an exception is handled -/
theorem fn_ofX {CX : CXT} {k : Nat} {f : Addr} {name qual : Str} {params : Arguments} {body : List Stmt} {scope : Scope} {dV kV doc pm cdv ct oc : Value} {an od : Option Addr} {osl : Array (Option Value)} {N ps : List Str} {cls : Value} {sp : Addr → Sp}
    (lk : K.lookup f = some ⟨oc, od, .func (PySem.W.fnOf name qual params body scope dV kV doc pm an cdv ct), osl⟩) (hcd : PySem.W.codeIn K cdv qual = true) (S : FnScope N ps scope) (len : ∀ a vs H Q E, sp a vs H Q E → vs.length = ps.length)
    (hbody : ∀ (A : Around) (outer : List Env) (s : Shared) (H : Hp) (vs : List V) (Q : VK) (E : XK) (p : Addr × Obj), L2H.Hot1 A p → Zc cls none p.2 → L2H.RoomH k (A.deeper (envOfC qual scope s.heap.objs.size f cdv)) → sp p.1 vs H Q E →
      ∃ t, PSs (L2H.cxH CX prog w K mg base N qual scope f cdv A outer s H E p) body t ∧ t { nx := fun _ H' => Q .non H', rt := Q } (L2.start N vs) H) :
    FnX prog w K mg base CX (k + 1) f (PySem.W.fnOf name qual params body scope dV kV doc pm an cdv ct) ps cls sp := by
  refine ⟨len, ?_⟩
  intro A outer s H args us vs Q E p room hot pin zc e0 bnd rv hsp
  have hl := len _ _ _ _ _ hsp
  have stands : ∀ b o, base.get? b = some o → s.heap.get? b = some o := fun b o e => (e0.bs b o e).1
  have KX : K.In s.heap := e0.mod.kin.keeps stands
  have lim : s.heap.NoLimit := e0.mod.nolimit.keeps stands
  refine codeAny_call_function room.depth (KX _ _ lk) rfl S.co S.gen rfl (PySem.W.codeRec_of KX hcd) (bnd _ _ _ _ ?_)
  refine wpAny_newFunctionEnv_cells S.kind ?_ ?_
  · rintro ⟨n, v⟩ hy
    rcases S.par n (List.of_mem_zip hy).1 with q | q
    · exact .inl q
    · exact .inr ⟨q, PySem.W.cellsFrom_some _ _ _ (.inl q)⟩
  intro env he s1 x
  subst he
  refine ⟨lim.keeps x.toInCall.keep, codeAny_func ?_⟩
  obtain ⟨t, ht, hq⟩ := hbody A outer s H vs Q E p hot zc (room.deeper _) hsp
  have I := L2H.inv_startH (E := E) (CX := CX) S pin e0 hl rv x
  refine wpAny_mono (ht.run [] s1 (L2.start N vs) H _ I hq) ?_ (fun _ _ z => z)
  intro fl s' hs
  cases fl with
  | ret u =>
    obtain ⟨v, σ', H', J, rv, q⟩ := hs
    exact ⟨v, H', J.os, J.bare, J.base, J.hok, rv, q⟩
  | next =>
    obtain ⟨σ', H', J, q⟩ := hs
    exact ⟨.non, H', J.os, J.bare, J.base, J.hok, rfl, q⟩
  | brk => exact hs.elim fun _ h => h.elim fun _ h => h.2.elim
  | cont => exact hs.elim fun _ h => h.elim fun _ h => h.2.elim
/-- every def keeps to the machine, at every depth -/
def FnsAt (P : Text) (nm : Nm) (prog : Program) (w : World) (K : PySem.W.Frag) (mg : Str → Option Value) (base : Heap) (n : Nat) : Prop :=
  ∀ (f : Nat) (x : Str) (ps : List Str), P.tx.fs[f]? = some (x, ps) → ∃ fd, Binds K fd ps [] ∧
    FnOk prog w K mg base (L2N.CX prog w) n (nm.fa f) fd ps (spC ⟨K, nm.ca, nm.fn, none⟩ (call P.pr n none) f ps.length) ∧
    ∀ (c : Nat) (z : Str), P.tx.cs[c]? = some z → FnX prog w K mg base (L2N.CX prog w) n (nm.fa f) fd ps (.ref (nm.ca c)) fun a vs H Q E => ∃ xa, (xa = none ∨ xa = some a) ∧ spC ⟨K, nm.ca, nm.fn, xa⟩ (call P.pr n (some c)) f ps.length vs H Q E
def FnsD (P : Text) (nm : Nm) (prog : Program) (w : World) (K : PySem.W.Frag) (mg : Str → Option Value) (base : Heap) (n : Nat) : Prop :=
  ∀ (f : Nat) (x : Str) (ps : List Str), P.tx.fs[f]? = some (x, ps) → ∃ fd, ((∃ oc od osl, K.lookup (nm.fa f) = some ⟨oc, od, .func fd, osl⟩) ∧ ∀ (s : Shared) (us : List Value), us.length = ps.length → BindsTo s fd ⟨us, []⟩ (ps.zip us)) ∧ Binds K fd ps [] ∧
    FnOk prog w K mg base (L2N.CX prog w) n (nm.fa f) fd ps (spC ⟨K, nm.ca, nm.fn, none⟩ (call P.pr n none) f ps.length) ∧
    ∀ (c : Nat) (z : Str), P.tx.cs[c]? = some z → FnX prog w K mg base (L2N.CX prog w) n (nm.fa f) fd ps (.ref (nm.ca c)) fun a vs H Q E => ∃ xa, (xa = none ∨ xa = some a) ∧ spC ⟨K, nm.ca, nm.fn, xa⟩ (call P.pr n (some c)) f ps.length vs H Q E
theorem FnsD.at_ {n : Nat} (h : FnsD P nm prog w K mg base n) : FnsAt P nm prog w K mg base n := fun f x ps e => let ⟨fd, _, r⟩ := h f x ps e; ⟨fd, r⟩
theorem spC_zero {W : Wd} {hot : Hot} {f np : Nat} {vs : List V} {H : Hp} {Q : VK} {E : XK} (h : spC W (call P.pr 0 hot) f np vs H Q E) : False := by
  obtain ⟨_, Fr, ρ, G, M, ds, _, _, q⟩ := h
  exact q
theorem fns_d (ok : P.ok = true) (mk : Made P nm K mg) : ∀ n, FnsD P nm prog w K mg base n := by
  have ok1 : P.cs.length = P.T.up.length ∧ ∀ f ∈ P.fs, fnC P.tx f.1 f.2 = true := by
    unfold Text.ok at ok
    simp only [Bool.and_eq_true, decide_eq_true_eq, List.all_eq_true] at ok
    exact ok
  have fact : ∀ {f : Nat} {y : Fn × C}, P.fs[f]? = some y → ∃ fd, FunD K y.1.name y.1.name (defArgs y.1.st) (defBody y.1.st) (defScope y.1.st) [] [] (nm.fa f) fd ∧ (∀ (s : Shared) (us : List Value), us.length = y.1.ps.length → BindsTo s fd ⟨us, []⟩ (y.1.ps.zip us)) ∧ Binds K fd y.1.ps [] ∧ FnScope y.1.N y.1.ps (defScope y.1.st) ∧ chkC P.tx y.1.N (defScope y.1.st) y.2 (defBody y.1.st) = true := fun {f y} hy => by
    obtain ⟨fd, F⟩ := mk.fn f y hy
    have c := ok1.2 y (List.mem_of_getElem? hy)
    unfold fnC at c
    simp only [decide_eq_true_eq, Bool.and_eq_true] at c
    obtain ⟨c1, c2, c3, c4⟩ := c
    have S := scope_ok c3
    have hA : defArgs y.1.st = ⟨[], fargs y.1.st, none, [], [], none, []⟩ := by
      unfold plainA at c1
      unfold fargs
      split at c1
      · rename_i e; rw [e]
      · cases c1
    have nd : ((fargs y.1.st).map (·.arg)).Nodup := by
      rw [c2, ← S.pre]
      exact S.nd.sublist (List.take_sublist _ _)
    have bnd : ∀ (kV doc pm : Value) (an : Option Addr) (cdv ct : Value) (us : List Value), us.length = y.1.ps.length → bindArgs (PySem.W.fnOf y.1.name y.1.name (defArgs y.1.st) (defBody y.1.st) (defScope y.1.st) .none kV doc pm an cdv ct) ⟨us, []⟩ = pure (y.1.ps.zip us) := fun kV doc pm an cdv ct us hl => by
      rw [hA, bind_plain nd (by rw [hl, ← c2, List.length_map]), c2]
    exact ⟨fd, F, fun s us hl => F.bindsA bnd s us hl, F.bindsN bnd, S, c4⟩
  intro n
  induction n with
  | zero =>
    intro f x ps h
    obtain ⟨y, hy, e1, e2⟩ := tx_fs h
    subst e1 e2
    obtain ⟨fd, F, bA, b, _⟩ := fact hy
    have ⟨oc, od, _, _, _, _, _, _, _, osl, _, lk, _⟩ := F.ex
    exact ⟨fd, ⟨⟨oc, od, osl, lk⟩, bA⟩, b, ⟨fun _ _ _ _ z => (spC_zero z).elim, fun _ _ _ _ _ _ _ _ _ _ _ _ _ z => (spC_zero z).elim⟩, fun c z _ => ⟨fun _ _ _ _ _ ⟨_, _, z⟩ => (spC_zero z).elim, fun _ _ _ _ _ _ _ _ _ _ _ _ _ _ _ _ _ ⟨_, _, z⟩ => (spC_zero z).elim⟩⟩
  | succ n ih =>
    intro f x ps h
    obtain ⟨y, hy, e1, e2⟩ := tx_fs h
    subst e1 e2
    obtain ⟨fd, F, bA, b, S, chk⟩ := fact hy
    have ar : ∀ (h : Hot) (f : Nat) (x : Str) (ps : List Str) (ds : List D) (M : Mem), P.tx.fs[f]? = some (x, ps) → ds.length ≠ ps.length → call P.pr n h f ds M = .stk := fun h f x ps ds M hf hl => by
      obtain ⟨y, hy, e1, e2⟩ := tx_fs hf
      subst e2
      cases n with
      | zero => rfl
      | succ n => simp only [call, pr_fd hy]; rw [if_neg hl]
    have ⟨oc, od, _, _, _, _, _, _, _, osl, _, lk, _⟩ := F.ex
    refine ⟨fd, ⟨⟨oc, od, osl, lk⟩, bA⟩, b, ?_, fun c z hc => ?_⟩
    · refine F.ok S (fun vs H Q E h => h.1) fun cdv A outer s H vs Q E hr hsp => ⟨_, ?_, body_read (xa := none) hy hsp⟩
      refine (VM.vs (T := P.T) (Φ := call P.pr n) (Γ := P.tx) (nm := nm) (n := n) (N := y.1.N) y.2).1.2 none _ (defScope y.1.st) none _ ?_ ⟨rfl, rfl, fun _ => rfl, S.kind, L2N.takes_of rfl rfl rfl rfl, PassesOwn.leaving⟩ _ chk
      exact ⟨rfl, S.nd, rfl, mk.sk, fx_of rfl rfl (L2N.takes_of rfl rfl rfl rfl), hr.units, ⟨rfl, rfl, hr⟩, ar, ih.at_⟩
    · obtain ⟨oc, od, dV, kV, doc, pm, an, cdv, ct, osl, rfl, lk, hcd, _, _⟩ := F.ex
      refine fn_ofX lk hcd S (fun a vs H Q E ⟨_, _, h⟩ => h.1) fun A outer s H vs Q E p hot zc hr ⟨xa, hxa, hsp⟩ => ⟨_, ?_, body_read (xa := xa) hy hsp⟩
      refine (VM.vs (T := P.T) (Φ := call P.pr n) (Γ := P.tx) (nm := nm) (n := n) (N := y.1.N) y.2).1.2 (some c) _ (defScope y.1.st) xa _ ?_ ⟨rfl, rfl, fun _ => rfl, S.kind, L2N.takes_of rfl rfl rfl rfl, PassesOwn.leaving⟩ _ chk
      exact ⟨rfl, S.nd, rfl, mk.sk, fx_of rfl rfl (L2N.takes_of rfl rfl rfl rfl), by have := hr.un; show (A.deeper _).units + 64 < cLine; omega, ⟨p, hxa, List.mem_cons_self, hot, zc, ⟨z, hc⟩, hr⟩, ar, ih.at_⟩
theorem fns_at (ok : P.ok = true) (mk : Made P nm K mg) (n : Nat) : FnsAt P nm prog w K mg base n := (fns_d ok mk n).at_
end
end VM
/-! VM14: what the top has made; the end. -/
namespace VM
open PySem L2 He PySem.Spec PyProof.Rows

/-! ### constants -/
mutual
def relD (K : PySem.W.Frag) : D → Value → Bool
  | .non, u => (match u with
    | .none => true
    | _ => false)
  | .bl b, u => (match u with
    | .bool c => b == c
    | _ => false)
  | .int i, u => (match u with
    | .int j _ => decide (i = j)
    | _ => false)
  | .str s, u => (match u with
    | .str z _ => decide (z = tx s) && (decide (s.length < line) && s.all (decide <| · < 1114112))
    | _ => false)
  | .tup ds, u => (match u with
    | .ref a => (match K.lookup a with
      | some ⟨.type c, _, .seq its _, _⟩ => decide (c = "tuple") && (decide (ds.length < line) && relDs K ds its.toList)
      | _ => false)
    | _ => false)
  | _, _ => false
def relDs (K : PySem.W.Frag) : List D → List Value → Bool
  | [], us => us.isEmpty
  | d :: ds, us => (match us with
    | u :: us => relD K d u && relDs K ds us
    | _ => false)
end
mutual
theorem relD_ok {K : PySem.W.Frag} : ∀ (d : D) (u : Value), relD K d u = true → ∃ v, RelV v u ∧ ∀ (W : Wd) (ρ : List Addr) (G : Hp), W.K = K → Fz W ρ G d v
  | .non, u, h => by
    simp only [relD] at h
    split at h
    · exact ⟨.non, rfl, fun _ _ _ _ => rfl⟩
    · cases h
  | .bl b, u, h => by
    simp only [relD] at h
    split at h
    · have := eq_of_beq h
      subst this
      exact ⟨.bl b, rfl, fun _ _ _ _ => rfl⟩
    · cases h
  | .int i, u, h => by
    simp only [relD] at h
    split at h
    · have := of_decide_eq_true h
      subst this
      exact ⟨.int i, ⟨_, rfl⟩, fun _ _ _ _ => rfl⟩
    · cases h
  | .str s, u, h => by
    simp only [relD] at h
    split at h
    · simp only [Bool.and_eq_true, decide_eq_true_eq, List.all_eq_true] at h
      obtain ⟨h1, h2, h3⟩ := h
      subst h1
      exact ⟨.str (tx s), ⟨_, rfl⟩, fun _ _ _ _ => .mkS ⟨h2, h3⟩⟩
    · cases h
  | .tup ds, u, h => by
    simp only [relD] at h
    split at h
    · rename_i a
      split at h
      · rename_i c dd its n sl lk
        simp only [decide_eq_true_eq, Bool.and_eq_true] at h
        obtain ⟨h1, h2, h3⟩ := h
        obtain ⟨vs, r, f⟩ := relDs_ok ds its.toList h3
        refine ⟨.ref a, rfl, fun W ρ G e => ?_⟩
        unfold Fz
        have fz := f W ρ G e
        refine ⟨a, vs, rfl, .inr ⟨_, its, n, e ▸ lk, by rw [h1], rfl, ?_, r⟩, h2, fz⟩
        have l1 := fz.length
        have l2 := r.length
        rw [line_eq]
        simp only [Array.length_toList] at l2
        omega
      · cases h
    · cases h
  | .lst _, u, h => by simp [relD] at h
  | .scr _, u, h => by simp [relD] at h
  | .dct _ _, u, h => by simp [relD] at h
  | .cell _, u, h => by simp [relD] at h
  | .ins _ _ _, u, h => by simp [relD] at h
  | .exc, u, h => by simp [relD] at h
theorem relDs_ok {K : PySem.W.Frag} : ∀ (ds : List D) (us : List Value), relDs K ds us = true → ∃ vs, Vals vs us ∧ ∀ (W : Wd) (ρ : List Addr) (G : Hp), W.K = K → Fzs W ρ G ds vs
  | [], us, h => by
    simp only [relDs, List.isEmpty_iff] at h
    subst h
    exact ⟨[], .nil, fun _ _ _ _ => .nil⟩
  | d :: ds, us, h => by
    simp only [relDs] at h
    split at h
    · simp only [Bool.and_eq_true] at h
      obtain ⟨v, r, f⟩ := relD_ok d _ h.1
      obtain ⟨vs, rs, fs⟩ := relDs_ok ds _ h.2
      exact ⟨v :: vs, .cons r rs, fun W ρ G e => .cons (f W ρ G e) (fs W ρ G e)⟩
    · cases h
end

/-! ### the check of the written part -/
def isG (K : PySem.W.Frag) (x : Str) : Bool := eqO (PySem.W.nsIn K mainGlobals x) (some (some (.ref (ga K x)))) && PySem.W.keepIn K (.ref (ga K x))
def excC (K : PySem.W.Frag) (D : Addr) : Bool :=
  eqO (PySem.W.findIn K (.ref D) "__getattribute__") (some (some (.builtin "BaseException.__getattribute__"))) && (eqO (PySem.W.findIn K (.ref D) "__getattr__") (some none) && (decide (PySem.W.subIn K (.ref D) (.type "BaseException") = some true) && (PySem.W.hasDictIn K D &&
    (eqO (PySem.W.findIn K (.ref D) "__class__") (some (some (.builtin "object.__class__"))) && (eqO (PySem.W.specialIn K (.builtin "object.__class__") "__get__") (some (some (.builtin "getset_descriptor.__get__"))) && (decide (PySem.W.takesIn K (.builtin "object.__class__") = some true) && decide (PySem.W.mroIn K D (.type "object") = some true)))))))
theorem excC_ok {K : PySem.W.Frag} {D : Addr} (h : excC K D = true) : ExcC K D := by
  unfold excC at h
  simp only [decide_eq_true_eq, Bool.and_eq_true] at h
  obtain ⟨h1, h2, h3, h4, h5, h6, h7, h8⟩ := h
  exact ⟨eqO_ok h1, eqO_ok h2, h3, h4, eqO_ok h5, eqO_ok h6, h7, h8⟩
def clsC (K : PySem.W.Frag) (x : Str) : Bool :=
  isG K x && ((allTn.all fun t => decide (PySem.W.kitOne K (.type (tnS t)) (.ref (ga K x)) = some false)) && (PySem.W.excIn K (ga K x) [.type "ValueError", .type "Exception", .type "BaseException", .type "object"] "ValueError.__new__" &&
    (decide (PySem.W.subIn K (.ref (ga K x)) (.type "BaseException") = some true) && (decide (PySem.W.typeIn K (.ref (ga K x)) = some (.type "type")) && (excC K (ga K x) && decide (PySem.W.kitOne K (.ref (ga K x)) (.type "ValueError") = some true))))))
def skC (P : Text) (K : PySem.W.Frag) : Bool :=
  (P.fs.all fun f => isG K f.1.name) && ((bis.all fun x => eqO (PySem.W.nsIn K mainGlobals x) (some none)) && ((P.cs.all fun x => clsC K x) && (((List.range P.cs.length).all fun c => (List.range P.cs.length).all fun c' =>
    decide (PySem.W.kitOne K (.ref (ga K (P.cs.getD c ""))) (.ref (ga K (P.cs.getD c' ""))) = some (subC P.T.up 9 c c')) && decide (PySem.W.exmOne K (.ref (ga K (P.cs.getD c ""))) (.ref (ga K (P.cs.getD c' ""))) = some (subC P.T.up 9 c c'))) &&
    ((List.range P.gl.length).all fun g => match PySem.W.nsIn K mainGlobals (P.gl.getD g "") with
      | some (some u) => relD K (P.T.glob.getD g .non) u
      | _ => false))))
def nmOf (P : Text) (K : PySem.W.Frag) : Nm := ⟨fun c => ga K (P.cs.getD c ""), fun _ => "", fun f => fAd K (match P.fs[f]? with
  | some y => y.1.name
  | none => "", none)⟩
def defD (f : Fn) : DefD := ⟨(f.name, none), f.name, f.name, defArgs f.st, defBody f.st, defScope f.st, [], []⟩
theorem made_of {P : Text} {K : PySem.W.Frag} {mg : Str → Option Value} {h : Heap} (ok : P.ok = true) (X : K.In h) (G : h.Ns mainGlobals mg) (c : SaysD [] (P.fs.map fun f => defD f.1) K) (s : skC P K = true) : Made P (nmOf P K) K mg := by
  have ln : P.cs.length = P.T.up.length := by
    unfold Text.ok at ok
    simp only [decide_eq_true_eq, Bool.and_eq_true] at ok
    exact ok.1
  unfold skC at s
  simp only [Bool.and_eq_true, List.all_eq_true, List.mem_range, decide_eq_true_eq] at s
  obtain ⟨s1, s2, s3, s4, s5⟩ := s
  have gd : ∀ {c : Nat} {x : Str}, P.tx.cs[c]? = some x → P.cs.getD c "" = x ∧ x ∈ P.cs ∧ c < P.cs.length := fun {c x} h => by
    have h : P.cs[c]? = some x := h
    exact ⟨by simp [List.getD, h], List.mem_of_getElem? h, (List.getElem?_eq_some_iff.mp h).1⟩
  have cc : ∀ {c : Nat} {x : Str}, P.tx.cs[c]? = some x → (nmOf P K).ca c = ga K x ∧ clsC K x = true := fun {c x} h => by
    obtain ⟨h1, h2, _⟩ := gd h
    exact ⟨by show ga K (P.cs.getD c "") = _; rw [h1], s3 x h2⟩
  have isg : ∀ {x : Str}, isG K x = true → mg x = some (.ref (ga K x)) ∧ PySem.W.keepIn K (.ref (ga K x)) = true := fun {x} h => by
    unfold isG at h
    simp only [Bool.and_eq_true] at h
    exact ⟨PySem.W.mg_of X G (eqO_ok h.1), h.2⟩
  have fa : ∀ {f : Nat} {y : Fn × C}, P.fs[f]? = some y → (nmOf P K).fa f = ga K y.1.name := fun {f y} hy => by
    show fAd K (match P.fs[f]? with
      | some y => y.1.name
      | none => "", none) = _
    rw [hy]
    rfl
  refine ⟨⟨ln, fun f x ps h => ?_, fun x hx => PySem.W.mg_none_of X G (eqO_ok (s2 x hx)), fun g x h => ?_, fun c x h => ?_, fun c x t h => ?_, fun c x h => ?_, fun c c' x x' h h' => ?_⟩, fun f y hy => ?_⟩
  · obtain ⟨y, hy, e1, e2⟩ := tx_fs h
    rw [fa hy, ← e1]
    exact isg (s1 y (List.mem_of_getElem? hy))
  · have h : P.gl[g]? = some x := h
    have hl := (List.getElem?_eq_some_iff.mp h).1
    have e : P.gl.getD g "" = x := by simp [List.getD, h]
    have := s5 g hl
    rw [e] at this
    split at this
    · rename_i u hu
      obtain ⟨v, r, f⟩ := relD_ok _ u this
      exact ⟨v, u, PySem.W.mg_of X G hu, r, f⟩
    · cases this
  · obtain ⟨e, k⟩ := cc h
    rw [e]
    unfold clsC at k
    simp only [Bool.and_eq_true] at k
    exact isg k.1
  · obtain ⟨e, k⟩ := cc h
    rw [e]
    unfold clsC at k
    simp only [Bool.and_eq_true, List.all_eq_true, decide_eq_true_eq] at k
    exact k.2.1 t (mem_allTn t)
  · obtain ⟨e, k⟩ := cc h
    rw [e]
    unfold clsC at k
    simp only [Bool.and_eq_true, List.all_eq_true, decide_eq_true_eq] at k
    obtain ⟨_, _, k1, k2, k3, k4, k5⟩ := k
    exact ⟨k1, k2, k3, excC_ok k4, k5⟩
  · obtain ⟨e1, _, l1⟩ := gd h
    obtain ⟨e2, _, l2⟩ := gd h'
    exact s4 c l1 c' l2
  · rw [fa hy]
    obtain ⟨i, hi⟩ : ∃ i, (P.fs.map fun f => defD f.1)[i]? = some (defD y.1) := ⟨f, by rw [List.getElem?_map, hy]; rfl⟩
    exact c.def_ i (d := defD y.1) hi

/-! ### the end -/
theorem ints_fz (W : Wd) (ρ : List Addr) (G : Hp) : ∀ (ns : List Int), Fzs W ρ G (ns.map .int) (ns.map V.int)
  | [] => .nil
  | n :: ns => .cons (by unfold Fz; rfl) (ints_fz W ρ G ns)
theorem law_end {P : Text} {l : PySem.W.OpenLaw} {q : Program} {loose : List Str} {XP : (Str → Option Value) → Heap → Prop} {d : DefRec} {x : Str} {m k f : Nat} {y : Fn × C}
    (hm : l.most = some m) (hm2 : m < line) (hm3 : m ≤ sizeLine) (hdf : d.params.defaults = []) (hr : Room k callerA) (ok : P.ok = true) (hy : P.fs[f]? = some y) (hn : d.name = y.1.name) (hx : y.1.ps = [x])
    (law : ∀ ns : List Int, ns.length ≤ m → ∃ kd M, call P.pr k none f [.scr (ns.map .int)] [] = .ok ⟨kd, .bl true⟩ M) :
    PySem.W.WalkO q loose XP (fun w h => ∃ K : PySem.W.Frag, K.In h ∧ SaysX [] (P.fs.map fun f => defD f.1) [] [] (skC P) w h K) l.row.toRowW d [] (fun f vs => PySem.call f vs) := by
  refine LamX.walk_ofTsE (n := m) (k := k) (x := x) (CX := fun w => L2N.CX l.prog w) hm hm3 hdf hr ?_ ?_
  · intro w mg fa h ⟨K, KX, S⟩ G hf
    refine ⟨K, KX, ?_⟩
    have mk := made_of ok KX G S.t.d S.more
    have hF : P.tx.fs[f]? = some (y.1.name, y.1.ps) := by
      show (P.fs.map fun f => (f.1.name, f.1.ps))[f]? = _
      rw [List.getElem?_map, hy]; rfl
    have efa : fa = (nmOf P K).fa f := by
      have := (mk.sk.fn f _ _ hF).1
      rw [← hn, hf] at this
      injection this with this
      injection this
    obtain ⟨fd, ⟨⟨oc, od, osl, lk⟩, bA⟩, _⟩ := fns_d (prog := l.prog) (w := w) (base := h) ok mk k f _ _ hF
    subst efa
    refine ⟨fd, [], spC ⟨K, (nmOf P K).ca, (nmOf P K).fn, none⟩ (call P.pr k none) f 1, fun p hp => by simp at hp, fun p hp => by simp at hp, fun p hp => by simp at hp, fun s u => ?_, ?_, fun base KB GB _ => ?_⟩
    · have := bA s [u] (by rw [hx]; rfl)
      rw [hx] at this
      exact this
    · intro H a ns hl _ _ hS
      obtain ⟨kd, M, e⟩ := law ns hl
      refine ⟨rfl, fun _ => none, [], H, [], [.scr (ns.map .int)], ?_, .cons ?_ .nil, ?_⟩
      · exact ⟨fun _ _ z => z, fun _ _ z => by simp at z, fun _ _ z => by simp at z, rfl, fun _ _ _ z => by simp at z, fun _ _ _ z => by simp at z⟩
      · unfold Fz
        exact ⟨a, ns.map .int, rfl, hS, by rw [List.length_map]; omega, ints_fz _ _ _ ns⟩
      · rw [e]
        intro ρ' G' v H' _ _ _ rs
        cases kd with
        | f => exact rs
        | n => 
          obtain ⟨p, _, nw⟩ := rs
          obtain ⟨ho, _, c⟩ := nw.at_
          cases ho <;> exact c.elim
        | b => exact rs.elim
    · obtain ⟨fd2, ⟨⟨oc2, od2, osl2, lk2⟩, _⟩, _, ok2, _⟩ := fns_d (prog := l.prog) (w := w) (base := base) ok mk k f _ _ hF
      rw [lk] at lk2
      cases lk2
      rw [hx] at ok2
      exact ok2
  · intro w H s e s' c
    obtain ⟨a, B, H', cls, d, _, _, _, _, _, _, _, z⟩ := c
    exact z
end VM
/-! VS: the machine, read step by step. -/
namespace VM
section
variable {α β : Type} {a : α} {M : Mem} {C : Nat} {σ : List SV} {r : KD} {d : D} {k : Kd} {b : Bool}
theorem bind_ok {f : α → Mem → Rs β} : (Rs.ok a M).bind f = f a M := rfl
theorem bind_ex {f : α → Mem → Rs β} : (Rs.ex C M : Rs α).bind f = .ex C M := rfl
theorem bind_if {p : Prop} [Decidable p] {x y : Rs α} {f : α → Mem → Rs β} : (if p then x else y).bind f = if p then x.bind f else y.bind f := by split <;> rfl
theorem bw_ok : (Rs.ok ⟨k, d⟩ M).bw = .ok d M := rfl
theorem bw_ex : (Rs.ex C M : Rs KD).bw = .ex C M := rfl
theorem fz_f : (Rs.ok ⟨.f, d⟩ M).fz = .ok d M := rfl
theorem fz_n : (Rs.ok ⟨.n, d⟩ M).fz = .ok d M := rfl
theorem fz_ex : (Rs.ex C M : Rs KD).fz = .ex C M := rfl
theorem bl_ok : (Rs.ok ⟨k, .bl b⟩ M).bl = .ok b M := by cases k <;> rfl
theorem bl_ex : (Rs.ex C M : Rs KD).bl = .ex C M := rfl
theorem on_ok {f : α → Mem → Sx} : (Rs.ok a M).on σ f = f a M := rfl
theorem on_ex {f : α → Mem → Sx} : (Rs.ex C M : Rs α).on σ f = .ex C σ M := rfl
theorem next_nx {f : List SV → Mem → Sx} : (Sx.nx σ M).next f = f σ M := rfl
theorem next_rt {f : List SV → Mem → Sx} : (Sx.rt r M).next f = .rt r M := rfl
theorem next_ex {f : List SV → Mem → Sx} : (Sx.ex C σ M).next f = .ex C σ M := rfl
theorem next_if {p : Prop} [Decidable p] {x y : Sx} {f : List SV → Mem → Sx} : (if p then x else y).next f = if p then x.next f else y.next f := by split <;> rfl
theorem res_nx : (Sx.nx σ M).res = .ok ⟨.f, .non⟩ M := rfl
theorem res_rt : (Sx.rt r M).res = .ok r M := rfl
theorem res_ex : (Sx.ex C σ M).res = .ex C M := rfl
theorem res_if {p : Prop} [Decidable p] {x y : Sx} : (if p then x else y).res = if p then x.res else y.res := by split <;> rfl
theorem out_f : out ⟨.f, d⟩ = ⟨.f, d⟩ := rfl
theorem out_n : out ⟨.n, d⟩ = ⟨.n, d⟩ := rfl
theorem out_b : out ⟨.b, d⟩ = ⟨.n, d⟩ := rfl
theorem okB_some : okB (some b) M = .ok ⟨.f, .bl b⟩ M := rfl
theorem okI_some {i : Int} : okI (some i) M = .ok ⟨.f, .int i⟩ M := rfl
theorem okO_some : okO (some d) M = .ok ⟨.f, d⟩ M := rfl
theorem ok1_eq : ok1 d M = .ok ⟨.f, d⟩ M := rfl
theorem okn_eq : okn d M = .ok ⟨.n, d⟩ M := rfl
theorem okL_some {xs : List D} : okL (some xs) d M = .ok (xs, d) M := rfl
variable {i j : Int} {x y : D}
theorem add_int : binop .add (.int i) (.int j) M = .ok ⟨.f, .int (i + j)⟩ M := rfl
theorem sub_int : binop .sub (.int i) (.int j) M = .ok ⟨.f, .int (i - j)⟩ M := rfl
theorem mul_int (h : mulOk i j = true) : binop .mul (.int i) (.int j) M = .ok ⟨.f, .int (i * j)⟩ M := by
  show (if mulOk i j = true then _ else _) = _
  rw [if_pos h]; rfl
theorem fdiv_int (h : 0 < j) (h3 : j < 18446744073709551616) : binop .fdiv (.int i) (.int j) M = .ok ⟨.f, .int (i / j)⟩ M := by
  have h2 : j.natAbs.log2 < 9000 := by
    have : j.natAbs.log2 < 64 := (Nat.log2_lt (by omega)).mpr (by omega)
    omega
  show (if 0 < j ∧ j.natAbs.log2 < 9000 then _ else _) = _
  rw [if_pos ⟨h, h2⟩]; rfl
theorem mod_int (h : 0 < j) : binop .mod (.int i) (.int j) M = .ok ⟨.f, .int (i % j)⟩ M := by
  show (if 0 < j then _ else _) = _
  rw [if_pos h]; rfl
theorem lt_int : cmpop .lt (.int i) (.int j) M = some (decide (i < j)) := rfl
theorem le_int : cmpop .le (.int i) (.int j) M = some (decide (i ≤ j)) := rfl
theorem gt_int : cmpop .gt (.int i) (.int j) M = some (decide (j < i)) := rfl
theorem ge_int : cmpop .ge (.int i) (.int j) M = some (decide (j ≤ i)) := rfl
theorem eq_int : cmpop .eq (.int i) (.int j) M = some (decide (i = j)) := by
  show some (i == j) = _
  rw [Bool.beq_eq_decide_eq]
theorem ne_int : cmpop .ne (.int i) (.int j) M = some (decide (i ≠ j)) := by
  show some (!(i == j)) = _
  by_cases h : i = j <;> simp [h]
theorem eq_str {s t : List Nat} : cmpop .eq (.str s) (.str t) M = some (decide (s = t)) := by
  show some (s == t) = _
  rw [Bool.beq_eq_decide_eq]
theorem ne_str {s t : List Nat} : cmpop .ne (.str s) (.str t) M = some (decide (s ≠ t)) := by
  show some (!(s == t)) = _
  by_cases h : s = t <;> simp [h]
theorem is_non : cmpop .is x .non M = some (isN x) := rfl
theorem isn_non : cmpop .isn x .non M = some (!isN x) := rfl
theorem small_mul_r (h : smallI j = true) : mulOk i j = true := by unfold mulOk; simp [h]
theorem small_mul_l (h : smallI i = true) : mulOk i j = true := by unfold mulOk; simp [h]
theorem small_in (h1 : -18446744073709551616 < i) (h2 : i < 18446744073709551616) : smallI i = true := by
  unfold smallI
  rw [decide_eq_true_eq]
  omega
theorem isi_some {T : Tab} {hot : Hot} {t : Tn} {u : Ty} (h : tnOf (deref M x) = some t) : isInst T hot M x u = some (isTn t u) := by
  unfold isInst
  rw [h]
theorem at_nat {α : Type} (xs : List α) (k : Nat) : at? xs (k : Int) = xs[k]? := by
  unfold at? place
  rw [if_pos (by omega)]
  split
  · simp
  · rename_i h
    rw [List.getElem?_eq_none (by omega)]; rfl
theorem at_int {α : Type} (xs : List α) {i : Int} (h : 0 ≤ i) : at? xs i = xs[i.toNat]? := by
  have := at_nat xs i.toNat
  rw [Int.toNat_of_nonneg h] at this
  exact this
theorem at_in {α : Type} (xs : List α) {i : Int} (h : 0 ≤ i) (h2 : i < xs.length) : ∃ d, at? xs i = some d ∧ d ∈ xs := by
  rw [at_int xs h]
  have : i.toNat < xs.length := by omega
  exact ⟨_, List.getElem?_eq_getElem this, List.getElem_mem this⟩
theorem ix_lst {xs : List D} (M : Mem) {i : Int} (h : 0 ≤ i) (h2 : i < xs.length) : ∃ d, index (.lst xs) (.int i) M = .ok ⟨.f, d⟩ M ∧ d ∈ xs := by
  obtain ⟨d, h1, h3⟩ := at_in xs h h2
  exact ⟨d, by show okO (at? xs i) M = _; rw [h1]; rfl, h3⟩
theorem ix_tup {xs : List D} (M : Mem) {i : Int} (h : 0 ≤ i) (h2 : i < xs.length) : ∃ d, index (.tup xs) (.int i) M = .ok ⟨.f, d⟩ M ∧ d ∈ xs := by
  obtain ⟨d, h1, h3⟩ := at_in xs h h2
  exact ⟨d, by show okO (at? xs i) M = _; rw [h1]; rfl, h3⟩
theorem len_ok {n : Int} (h : lenD (deref M x) = some n) : pf .len [x] M = .ok ⟨.f, .int n⟩ M := by
  show okI (lenD (deref M x)) M = _
  rw [h]; rfl
theorem divmod_ok (h : 0 < j) (h2 : j < 1073741824) : pf .divmod [.int i, .int j] M = .ok ⟨.f, .tup [.int (i / j), .int (i % j)]⟩ M := by
  show (if 0 < j ∧ j < 1073741824 then _ else _) = _
  rw [if_pos ⟨h, h2⟩]; rfl
theorem abs_int : pf .abs [.int i] M = .ok ⟨.f, .int (if i < 0 then -i else i)⟩ M := rfl
theorem int_int : pf .int [.int i] M = .ok ⟨.f, .int i⟩ M := rfl
theorem int_bl : pf .int [.bl b] M = .ok ⟨.f, .int (if b then 1 else 0)⟩ M := rfl
/-- a loop that keeps something -/
theorem forL_keep {P : List SV → Prop} {c : Mem → Bool} {f : D → List SV → Mem → Sx} (hc : c M = true) : ∀ {xs : List D}, (∀ x ∈ xs, ∀ σ, P σ → ∃ σ', f x σ M = .nx σ' M ∧ P σ') → ∀ {σ}, P σ → ∃ σ', forL c f xs σ M = .nx σ' M ∧ P σ'
  | [], _, σ, p => ⟨σ, by simp only [forL, hc, if_true], p⟩
  | x :: xs, h, σ, p => by
    obtain ⟨σ1, e1, p1⟩ := h x List.mem_cons_self σ p
    obtain ⟨σ2, e2, p2⟩ := forL_keep hc (fun y hy => h y (List.mem_cons_of_mem _ hy)) p1
    exact ⟨σ2, by simp only [forL, hc, if_true, e1, next_nx, e2], p2⟩
end
mutual
theorem same_refl : ∀ d : D, d.same d = true
  | .non => rfl
  | .bl b => by simp [D.same]
  | .int i => by simp [D.same]
  | .str s => by simp [D.same]
  | .tup ds => by simp only [D.same]; exact sames_refl ds
  | .lst ds => by simp only [D.same]; exact sames_refl ds
  | .scr ds => by simp only [D.same]; exact sames_refl ds
  | .dct ks ds => by simp only [D.same, sames_refl ds]; simp
  | .cell i => by simp [D.same]
  | .ins C fs ds => by simp only [D.same, sames_refl ds]; simp
  | .exc => rfl
theorem sames_refl : ∀ ds : List D, sames ds ds = true
  | [] => rfl
  | d :: ds => by simp only [sames, same_refl d, sames_refl ds]; rfl
end
end VM
namespace VM.K01
open PySem
/- 0 is_whole: 0=thing -/
def c_is_whole : C := (.seq (.ret (.and (.isi (.v 0) .int) (.not (.isi (.v 0) .bool)))) .nop)
abbrev n_is_whole : Nat := 0
/- 1 is_among: 0=thing 1=least 2=most -/
def c_is_among : C := (.seq (.ret (.and (.call 0 (.cons (.v 0) .nil)) (.chn .le .le (.v 1) (.v 0) (.v 2)))) .nop)
abbrev n_is_among : Nat := 1
/- 2 is_way: 0=thing -/
def c_is_way : C := (.seq (.ret (.and (.isi (.v 0) .str) (.cmp .isin (.v 0) (.g 2)))) .nop)
abbrev n_is_way : Nat := 2
/- 3 need_amount: 0=thing -/
def c_need_amount : C := (.seq (.ite (.not (.call 0 (.cons (.v 0) .nil))) (.seq (.rai 1) .nop) .nop) .nop)
abbrev n_need_amount : Nat := 3
/- 4 rounded: 0=number 1=way 2=whole 3=rest -/
def c_rounded : C := (.seq (.exp (.call 3 (.cons (.v 0) .nil))) (.seq (.ite (.not (.call 2 (.cons (.v 1) .nil))) (.seq (.rai 2) .nop) .nop) (.seq (.setT (.t (.cons (.n 2) (.cons (.n 3) .nil))) (.bf .divmod (.cons (.v 0) (.cons (.g 0) .nil)))) (.seq (.ite (.or (.cmp .eq (.v 3) (.c (.int 0))) (.cmp .eq (.v 1) (.c (.str [100, 111, 119, 110])))) (.seq (.ret (.v 2)) .nop) .nop) (.seq (.ite (.or (.cmp .eq (.v 1) (.c (.str [117, 112]))) (.cmp .gt (.bin .mul (.c (.int 2)) (.v 3)) (.g 0))) (.seq (.ret (.bin .add (.v 2) (.c (.int 1)))) .nop) .nop) (.seq (.ite (.cmp .lt (.bin .mul (.c (.int 2)) (.v 3)) (.g 0)) (.seq (.ret (.v 2)) .nop) .nop) (.seq (.ite (.cmp .eq (.v 1) (.c (.str [101, 118, 101, 110]))) (.seq (.ret (.bin .add (.v 2) (.bin .mod (.v 2) (.c (.int 2))))) .nop) .nop) (.seq (.ret (.bin .add (.v 2) (.bf .int (.cons (.cmp .gt (.v 0) (.c (.int 0))) .nil)))) .nop))))))))
abbrev n_rounded : Nat := 4
/- 5 share_of: 0=amount 1=parts 2=way -/
def c_share_of : C := (.seq (.exp (.call 3 (.cons (.v 0) .nil))) (.seq (.ite (.not (.call 1 (.cons (.v 1) (.cons (.c (.int 0)) (.cons (.g 1) .nil))))) (.seq (.rai 2) .nop) .nop) (.seq (.ret (.call 4 (.cons (.bin .mul (.v 0) (.v 1)) (.cons (.v 2) .nil)))) .nop)))
abbrev n_share_of : Nat := 5
/- 6 _law_cell: 0=_law_script 1=_law_k -/
def c__law_cell : C := (.seq (.ite (.cmp .lt (.v 1) (.bf .len (.cons (.v 0) .nil))) (.seq (.ret (.ix (.v 0) (.v 1))) .nop) .nop) (.seq (.ret (.c (.int 0))) .nop))
abbrev n__law_cell : Nat := 6
/- 7 _law_mixed: 0=_law_script 1=_law_k -/
def c__law_mixed : C := (.seq (.ret (.bin .mod (.bin .mul (.bin .mod (.bin .add (.bin .add (.bin .mul (.call 6 (.cons (.v 0) (.cons (.v 1) .nil))) (.c (.int 48271))) (.bin .mul (.bin .mul (.bin .mul (.c (.int 7919)) (.v 1)) (.v 1)) (.v 1))) (.c (.int 104729))) (.c (.int 2147483647))) (.c (.int 16807))) (.c (.int 2147483629)))) .nop)
abbrev n__law_mixed : Nat := 7
/- 8 _law_whole: 0=_law_found -/
def c__law_whole : C := (.seq (.ret (.and (.isi (.v 0) .int) (.not (.isi (.v 0) .bool)))) .nop)
abbrev n__law_whole : Nat := 8
/- 9 _law_amount: 0=_law_number 1=_law_way 2=_law_more 3=_law_sign 4=_law_beside -/
def c__law_amount : C := (.seq (.set .f 1 (.bin .mod (.v 0) (.c (.int 5)))) (.seq (.set .f 2 (.bin .fdiv (.v 0) (.c (.int 10)))) (.seq (.set .f 3 (.ix (.lst (.cons (.c (.int 1)) (.cons (.neg (.c (.int 1))) .nil))) (.bin .mod (.bin .fdiv (.v 0) (.c (.int 5))) (.c (.int 2))))) (.seq (.ite (.cmp .eq (.v 1) (.c (.int 0))) (.seq (.ret (.bin .mul (.v 3) (.bin .mod (.v 2) (.c (.int 41))))) .nop) .nop) (.seq (.ite (.cmp .eq (.v 1) (.c (.int 1))) (.seq (.ret (.bin .mul (.v 3) (.v 2))) .nop) .nop) (.seq (.ite (.cmp .eq (.v 1) (.c (.int 2))) (.seq (.ret (.bin .mul (.bin .mul (.bin .mul (.bin .mul (.v 3) (.v 2)) (.v 2)) (.bin .add (.bin .mod (.v 2) (.c (.int 1000003))) (.c (.int 1)))) (.bin .add (.c (.int 1)) (.bin .mod (.v 0) (.c (.int 1009)))))) .nop) .nop) (.seq (.set .f 4 (.ix (.lst (.cons (.c (.int 0)) (.cons (.c (.int 5000)) (.cons (.c (.int 1)) (.cons (.c (.int 9999)) (.cons (.c (.int 4999)) (.cons (.c (.int 5001)) .nil))))))) (.bin .mod (.v 2) (.c (.int 6))))) (.seq (.ret (.bin .mul (.v 3) (.bin .add (.bin .mul (.c (.int 10000)) (.bin .mod (.bin .fdiv (.v 2) (.c (.int 6))) (.ix (.lst (.cons (.c (.int 9)) (.cons (.bin .pow (.c (.int 10)) (.c (.int 7))) .nil))) (.bin .sub (.v 1) (.c (.int 3)))))) (.v 4)))) .nop))))))))
abbrev n__law_amount : Nat := 9
/- 10 _law_parts: 0=_law_number -/
def c__law_parts : C := (.seq (.ret (.ix (.lst (.cons (.c (.int 5000)) (.cons (.c (.int 15000)) (.cons (.c (.int 0)) (.cons (.c (.int 20000)) (.cons (.c (.int 10000)) (.cons (.c (.int 1)) (.cons (.c (.int 2500)) (.cons (.bin .mod (.bin .fdiv (.v 0) (.c (.int 8))) (.c (.int 20001))) .nil))))))))) (.bin .mod (.v 0) (.c (.int 8))))) .nop)
abbrev n__law_parts : Nat := 10
/- 11 _law_fits: 0=_law_number 1=_law_way 2=_law_found 3=_law_off -/
def c__law_fits : C := (.seq (.ite (.not (.call 8 (.cons (.v 2) .nil))) (.seq (.ret (.c (.bl false))) .nop) .nop) (.seq (.set .f 3 (.bin .sub (.v 0) (.bin .mul (.c (.int 10000)) (.v 2)))) (.seq (.ite (.cmp .eq (.v 1) (.c (.str [100, 111, 119, 110]))) (.seq (.ret (.chn .le .lt (.c (.int 0)) (.v 3) (.c (.int 10000)))) .nop) .nop) (.seq (.ite (.cmp .eq (.v 1) (.c (.str [117, 112]))) (.seq (.ret (.chn .lt .le (.neg (.c (.int 10000))) (.v 3) (.c (.int 0)))) .nop) .nop) (.seq (.ite (.cmp .ne (.bf .abs (.cons (.v 3) .nil)) (.c (.int 5000))) (.seq (.ret (.cmp .lt (.bf .abs (.cons (.v 3) .nil)) (.c (.int 5000)))) .nop) .nop) (.seq (.ite (.cmp .eq (.v 1) (.c (.str [110, 101, 97, 114]))) (.seq (.ret (.cmp .gt (.bin .mul (.c (.int 10000)) (.bf .abs (.cons (.v 2) .nil))) (.bf .abs (.cons (.v 0) .nil)))) .nop) .nop) (.seq (.ret (.cmp .eq (.bin .mod (.v 2) (.c (.int 2))) (.c (.int 0)))) .nop)))))))
abbrev n__law_fits : Nat := 11
/- 12 _law_no_parts: 0=_law_number -/
def c__law_no_parts : C := (.seq (.ret (.ix (.lst (.cons (.neg (.c (.int 1))) (.cons (.c (.int 20001)) (.cons (.c (.bl true)) (.cons (.c .non) (.cons (.c (.str [53, 48])) (.cons (.lst (.cons (.c (.int 5)) .nil)) (.cons (.bin .add (.c (.int 20001)) (.bin .fdiv (.v 0) (.c (.int 10)))) (.cons (.bin .sub (.neg (.c (.int 1))) (.bin .fdiv (.v 0) (.c (.int 10)))) (.cons (.c (.bl false)) (.cons (.tup (.cons (.c (.int 1)) .nil)) .nil))))))))))) (.bin .mod (.v 0) (.c (.int 10))))) .nop)
abbrev n__law_no_parts : Nat := 12
/- 13 _law_no_way: 0=_law_number -/
def c__law_no_way : C := (.seq (.ret (.ix (.lst (.cons (.c (.str [68, 111, 119, 110])) (.cons (.c (.str [])) (.cons (.c .non) (.cons (.c (.bl true)) (.cons (.c (.int 0)) (.cons (.lst (.cons (.c (.str [100, 111, 119, 110])) .nil)) (.cons (.c (.str [110, 101, 97, 114, 101, 115, 116])) (.cons (.c (.str [117])) (.cons (.c (.str [110, 101, 97, 114, 32])) (.cons (.tup (.cons (.c (.str [117, 112])) .nil)) .nil))))))))))) (.bin .mod (.v 0) (.c (.int 10))))) .nop)
abbrev n__law_no_way : Nat := 13
/- 14 _law_kind: 0=_law_e 1=_law_found 2=_law_word 3=_law_fits_here -/
def c__law_kind : C := (.seq (.set .f 1 (.lst (.cons (.tup (.cons (.c (.str [97, 109, 111, 117, 110, 116])) (.cons (.isi (.v 0) (.cls 1)) .nil))) (.cons (.tup (.cons (.c (.str [115, 104, 97, 114, 101])) (.cons (.isi (.v 0) (.cls 2)) .nil))) (.cons (.tup (.cons (.c (.str [116, 101, 120, 116])) (.cons (.isi (.v 0) (.cls 3)) .nil))) .nil))))) (.seq (.set .f 1 (.bin .add (.v 1) (.lst (.cons (.tup (.cons (.c (.str [109, 111, 110, 116, 104])) (.cons (.isi (.v 0) (.cls 4)) .nil))) (.cons (.tup (.cons (.c (.str [121, 101, 97, 114])) (.cons (.isi (.v 0) (.cls 5)) .nil))) .nil))))) (.seq (.set .f 1 (.bin .add (.v 1) (.lst (.cons (.tup (.cons (.c (.str [114, 117, 108, 101])) (.cons (.isi (.v 0) (.cls 6)) .nil))) (.cons (.tup (.cons (.c (.str [98, 111, 111, 107])) (.cons (.isi (.v 0) (.cls 7)) .nil))) .nil))))) (.seq (.set .f 1 (.bin .add (.v 1) (.lst (.cons (.tup (.cons (.c (.str [110, 111, 121, 101, 97, 114])) (.cons (.isi (.v 0) (.cls 8)) .nil))) (.cons (.tup (.cons (.c (.str [100, 97, 121])) (.cons (.isi (.v 0) (.cls 9)) .nil))) .nil))))) (.seq (.set .f 1 (.bin .add (.v 1) (.lst (.cons (.tup (.cons (.c (.str [101, 110, 116, 114, 121])) (.cons (.isi (.v 0) (.cls 10)) .nil))) (.cons (.tup (.cons (.c (.str [110, 111, 109, 97, 114, 107])) (.cons (.isi (.v 0) (.cls 11)) .nil))) .nil))))) (.seq (.set .f 1 (.bin .add (.v 1) (.lst (.cons (.tup (.cons (.c (.str [110, 111, 112, 101, 114, 115, 111, 110])) (.cons (.isi (.v 0) (.cls 12)) .nil))) (.cons (.tup (.cons (.c (.str [109, 97, 110, 121])) (.cons (.isi (.v 0) (.cls 13)) .nil))) .nil))))) (.seq (.set .f 1 (.bin .add (.v 1) (.lst (.cons (.tup (.cons (.c (.str [99, 108, 111, 115, 101])) (.cons (.isi (.v 0) (.cls 14)) .nil))) (.cons (.tup (.cons (.c (.str [108, 105, 110, 101])) (.cons (.isi (.v 0) (.cls 15)) .nil))) .nil))))) (.seq (.ret (.bin .add (.lc [2, 3] (.t (.cons (.n 2) (.cons (.n 3) .nil))) (.v 1) (.v 3) (.v 2)) (.bin .mul (.lst (.cons (.c (.str [118, 97, 108, 117, 101])) .nil)) (.bf .int (.cons (.isi (.v 0) .valueError) .nil))))) .nop))))))))
abbrev n__law_kind : Nat := 14
/- 15 _law_tried: 0=_law_which 1=_law_amount_here 2=_law_parts_here 3=_law_way 4=_law_e -/
def c__law_tried : C := (.seq (.try (.seq (.ite (.cmp .eq (.v 0) (.c (.int 0))) (.seq (.ret (.lst (.cons (.call 3 (.cons (.v 1) .nil)) .nil))) .nop) .nop) (.seq (.ite (.cmp .eq (.v 0) (.c (.int 1))) (.seq (.ret (.lst (.cons (.call 4 (.cons (.v 1) (.cons (.v 3) .nil))) .nil))) .nop) .nop) (.seq (.ret (.lst (.cons (.call 5 (.cons (.v 1) (.cons (.v 2) (.cons (.v 3) .nil)))) .nil))) .nop))) (.hnd 0 (some 4) (.seq (.ret (.call 14 (.cons (.v 4) .nil))) .nop) .nop)) .nop)
abbrev n__law_tried : Nat := 15
/- 16 _law_refused: 0=_law_script 1=_law_none 2=_law_amount_here 3=_law_parts_here 4=_law_way 5=_law_which 6=_law_good 7=_law_handed 8=_law_bad 9=_law_odd -/
def b__law_refused_1 : C := (.seq (.ite (.cmp .ne (.call 15 (.cons (.c (.int 2)) (.cons (.v 2) (.cons (.v 8) (.cons (.v 9) .nil))))) (.lst (.cons (.c (.str [115, 104, 97, 114, 101])) (.cons (.c (.str [118, 97, 108, 117, 101])) .nil)))) (.seq (.ret (.c (.bl false))) .nop) .nop) .nop)
def b__law_refused_0 : C := (.seq (.set .f 7 (.ix (.lst (.cons (.lst (.cons (.v 1) (.cons (.v 3) (.cons (.v 4) .nil)))) (.cons (.lst (.cons (.v 1) (.cons (.c (.int 5000)) (.cons (.c (.str [100, 111, 119, 110])) .nil)))) (.cons (.lst (.cons (.v 1) (.cons (.v 3) (.cons (.c (.str [117, 112])) .nil)))) .nil)))) (.v 6))) (.seq (.ite (.cmp .ne (.call 15 (.cons (.v 5) (.cons (.ix (.v 7) (.c (.int 0))) (.cons (.ix (.v 7) (.c (.int 1))) (.cons (.ix (.v 7) (.c (.int 2))) .nil))))) (.lst (.cons (.c (.str [97, 109, 111, 117, 110, 116])) (.cons (.c (.str [118, 97, 108, 117, 101])) .nil)))) (.seq (.ret (.c (.bl false))) .nop) .nop) .nop))
def c__law_refused : C := (.seq (.set .f 1 (.ix (.lst (.cons (.c (.bl true)) (.cons (.c .non) (.cons (.c (.str [53])) (.cons (.lst (.cons (.c (.int 5)) .nil)) (.cons (.tup (.cons (.c (.int 1)) .nil)) (.cons (.c (.bl false)) (.cons .dct0 (.cons (.c (.str [])) (.cons (.c (.str [49, 46, 48, 48])) (.cons (.tup .nil) .nil))))))))))) (.bin .mod (.call 7 (.cons (.v 0) (.cons (.c (.int 3)) .nil))) (.c (.int 10))))) (.seq (.set .f 2 (.call 9 (.cons (.call 7 (.cons (.v 0) (.cons (.c (.int 4)) .nil))) .nil))) (.seq (.set .f 3 (.call 12 (.cons (.call 7 (.cons (.v 0) (.cons (.c (.int 5)) .nil))) .nil))) (.seq (.set .f 4 (.call 13 (.cons (.call 7 (.cons (.v 0) (.cons (.c (.int 6)) .nil))) .nil))) (.seq (.for (.t (.cons (.n 5) (.cons (.n 6) .nil))) (.e (.tup (.cons (.tup (.cons (.c (.int 0)) (.cons (.c (.int 0)) .nil))) (.cons (.tup (.cons (.c (.int 1)) (.cons (.c (.int 0)) .nil))) (.cons (.tup (.cons (.c (.int 2)) (.cons (.c (.int 0)) .nil))) (.cons (.tup (.cons (.c (.int 1)) (.cons (.c (.int 1)) .nil))) (.cons (.tup (.cons (.c (.int 2)) (.cons (.c (.int 1)) .nil))) (.cons (.tup (.cons (.c (.int 2)) (.cons (.c (.int 2)) .nil))) .nil)))))))) b__law_refused_0) (.seq (.for (.t (.cons (.n 8) (.cons (.n 9) .nil))) (.e (.tup (.cons (.tup (.cons (.v 3) (.cons (.v 4) .nil))) (.cons (.tup (.cons (.v 3) (.cons (.c (.str [117, 112])) .nil))) (.cons (.tup (.cons (.c (.int 20000)) (.cons (.v 4) .nil))) (.cons (.tup (.cons (.c (.int 0)) (.cons (.v 4) .nil))) .nil)))))) b__law_refused_1) (.seq (.ret (.cmp .eq (.call 15 (.cons (.c (.int 1)) (.cons (.v 2) (.cons (.c (.int 0)) (.cons (.v 4) .nil))))) (.lst (.cons (.c (.str [115, 104, 97, 114, 101])) (.cons (.c (.str [118, 97, 108, 117, 101])) .nil))))) .nop)))))))
abbrev n__law_refused : Nat := 16
/- 17 law: 0=_law_script 1=_law_number 2=_law_amount_here 3=_law_parts_here 4=_law_turn 5=_law_ways 6=_law_k 7=_law_way -/
def b_law_0 : C := (.seq (.set .f 7 (.ix (.v 5) (.bin .mod (.bin .add (.v 4) (.bin .mul (.v 6) (.bin .add (.c (.int 1)) (.bin .mul (.c (.int 2)) (.bin .mod (.bin .fdiv (.v 4) (.c (.int 4))) (.c (.int 2))))))) (.c (.int 4))))) (.seq (.ite (.not (.call 11 (.cons (.v 1) (.cons (.v 7) (.cons (.call 4 (.cons (.v 1) (.cons (.v 7) .nil))) .nil))))) (.seq (.ret (.c (.bl false))) .nop) .nop) (.seq (.ite (.not (.call 11 (.cons (.bin .mul (.v 2) (.v 3)) (.cons (.v 7) (.cons (.call 5 (.cons (.v 2) (.cons (.v 3) (.cons (.v 7) .nil)))) .nil))))) (.seq (.ret (.c (.bl false))) .nop) .nop) .nop)))
def c_law : C := (.seq (.set .f 1 (.call 9 (.cons (.call 7 (.cons (.v 0) (.cons (.c (.int 0)) .nil))) .nil))) (.seq (.set .f 2 (.call 9 (.cons (.call 7 (.cons (.v 0) (.cons (.c (.int 1)) .nil))) .nil))) (.seq (.set .f 3 (.call 10 (.cons (.call 7 (.cons (.v 0) (.cons (.c (.int 2)) .nil))) .nil))) (.seq (.set .f 4 (.call 7 (.cons (.v 0) (.cons (.c (.int 7)) .nil)))) (.seq (.set .f 5 (.lst (.cons (.c (.str [100, 111, 119, 110])) (.cons (.c (.str [117, 112])) (.cons (.c (.str [110, 101, 97, 114])) (.cons (.c (.str [101, 118, 101, 110])) .nil)))))) (.seq (.for (.n 6) (.r1 (.c (.int 4))) b_law_0) (.seq (.ite (.or (.cmp .isn (.call 3 (.cons (.v 1) .nil)) (.c .non)) (.cmp .isn (.call 3 (.cons (.bin .mul (.v 2) (.v 3)) .nil)) (.c .non))) (.seq (.ret (.c (.bl false))) .nop) .nop) (.seq (.ret (.call 16 (.cons (.v 0) .nil))) .nop))))))))
abbrev n_law : Nat := 17
def tab : Tab := ⟨[none, some 0, some 0, some 0, some 0, some 0, some 0, some 0, some 0, some 0, some 0, some 0, some 0, some 0, some 0, some 0], [(.int 10000), (.int 20000), (.tup [(.str [100, 111, 119, 110]), (.str [117, 112]), (.str [110, 101, 97, 114]), (.str [101, 118, 101, 110])])]⟩
def top (i : Nat) : Stmt := (PySem.Challenge.rw_coinroll_k01_shares_rounded).prog.main.body.getD i (.Pass ⟨0, 0, 0, 0⟩)
def P : Text := ⟨[(⟨"is_whole", ["thing"], ["thing"], top 18⟩, c_is_whole),
  (⟨"is_among", ["thing", "least", "most"], ["thing", "least", "most"], top 19⟩, c_is_among),
  (⟨"is_way", ["thing"], ["thing"], top 24⟩, c_is_way),
  (⟨"need_amount", ["thing"], ["thing"], top 25⟩, c_need_amount),
  (⟨"rounded", ["number", "way", "whole", "rest"], ["number", "way"], top 26⟩, c_rounded),
  (⟨"share_of", ["amount", "parts", "way"], ["amount", "parts", "way"], top 27⟩, c_share_of),
  (⟨"_law_cell", ["_law_script", "_law_k"], ["_law_script", "_law_k"], top 29⟩, c__law_cell),
  (⟨"_law_mixed", ["_law_script", "_law_k"], ["_law_script", "_law_k"], top 30⟩, c__law_mixed),
  (⟨"_law_whole", ["_law_found"], ["_law_found"], top 31⟩, c__law_whole),
  (⟨"_law_amount", ["_law_number", "_law_way", "_law_more", "_law_sign", "_law_beside"], ["_law_number"], top 32⟩, c__law_amount),
  (⟨"_law_parts", ["_law_number"], ["_law_number"], top 33⟩, c__law_parts),
  (⟨"_law_fits", ["_law_number", "_law_way", "_law_found", "_law_off"], ["_law_number", "_law_way", "_law_found"], top 34⟩, c__law_fits),
  (⟨"_law_no_parts", ["_law_number"], ["_law_number"], top 35⟩, c__law_no_parts),
  (⟨"_law_no_way", ["_law_number"], ["_law_number"], top 36⟩, c__law_no_way),
  (⟨"_law_kind", ["_law_e", "_law_found", "_law_word", "_law_fits_here"], ["_law_e"], top 37⟩, c__law_kind),
  (⟨"_law_tried", ["_law_which", "_law_amount_here", "_law_parts_here", "_law_way", "_law_e"], ["_law_which", "_law_amount_here", "_law_parts_here", "_law_way"], top 38⟩, c__law_tried),
  (⟨"_law_refused", ["_law_script", "_law_none", "_law_amount_here", "_law_parts_here", "_law_way", "_law_which", "_law_good", "_law_handed", "_law_bad", "_law_odd"], ["_law_script"], top 39⟩, c__law_refused),
  (⟨"law", ["_law_script", "_law_number", "_law_amount_here", "_law_parts_here", "_law_turn", "_law_ways", "_law_k", "_law_way"], ["_law_script"], top 40⟩, c_law)], ["RollError", "BadAmount", "BadShare", "BadText", "BadMonth", "BadYear", "BadRule", "BadBook", "NoYear", "BadDay", "BadEntry", "NoMark", "NoPerson", "TooMany", "BadClose", "BadLine"], ["WHOLE", "MOST_PARTS", "WAYS"], tab⟩
theorem go_is_whole {n : Nat} {hot : Hot} {M : Mem} {d0 : D} : call P.pr (n + 1) hot 0 [d0] M = (ex tab (call P.pr n) hot c_is_whole [.v d0] M).res := rfl
theorem go_is_among {n : Nat} {hot : Hot} {M : Mem} {d0 d1 d2 : D} : call P.pr (n + 1) hot 1 [d0, d1, d2] M = (ex tab (call P.pr n) hot c_is_among [.v d0, .v d1, .v d2] M).res := rfl
theorem go_is_way {n : Nat} {hot : Hot} {M : Mem} {d0 : D} : call P.pr (n + 1) hot 2 [d0] M = (ex tab (call P.pr n) hot c_is_way [.v d0] M).res := rfl
theorem go_need_amount {n : Nat} {hot : Hot} {M : Mem} {d0 : D} : call P.pr (n + 1) hot 3 [d0] M = (ex tab (call P.pr n) hot c_need_amount [.v d0] M).res := rfl
theorem go_rounded {n : Nat} {hot : Hot} {M : Mem} {d0 d1 : D} : call P.pr (n + 1) hot 4 [d0, d1] M = (ex tab (call P.pr n) hot c_rounded [.v d0, .v d1, .u, .u] M).res := rfl
theorem go_share_of {n : Nat} {hot : Hot} {M : Mem} {d0 d1 d2 : D} : call P.pr (n + 1) hot 5 [d0, d1, d2] M = (ex tab (call P.pr n) hot c_share_of [.v d0, .v d1, .v d2] M).res := rfl
theorem go__law_cell {n : Nat} {hot : Hot} {M : Mem} {d0 d1 : D} : call P.pr (n + 1) hot 6 [d0, d1] M = (ex tab (call P.pr n) hot c__law_cell [.v d0, .v d1] M).res := rfl
theorem go__law_mixed {n : Nat} {hot : Hot} {M : Mem} {d0 d1 : D} : call P.pr (n + 1) hot 7 [d0, d1] M = (ex tab (call P.pr n) hot c__law_mixed [.v d0, .v d1] M).res := rfl
theorem go__law_whole {n : Nat} {hot : Hot} {M : Mem} {d0 : D} : call P.pr (n + 1) hot 8 [d0] M = (ex tab (call P.pr n) hot c__law_whole [.v d0] M).res := rfl
theorem go__law_amount {n : Nat} {hot : Hot} {M : Mem} {d0 : D} : call P.pr (n + 1) hot 9 [d0] M = (ex tab (call P.pr n) hot c__law_amount [.v d0, .u, .u, .u, .u] M).res := rfl
theorem go__law_parts {n : Nat} {hot : Hot} {M : Mem} {d0 : D} : call P.pr (n + 1) hot 10 [d0] M = (ex tab (call P.pr n) hot c__law_parts [.v d0] M).res := rfl
theorem go__law_fits {n : Nat} {hot : Hot} {M : Mem} {d0 d1 d2 : D} : call P.pr (n + 1) hot 11 [d0, d1, d2] M = (ex tab (call P.pr n) hot c__law_fits [.v d0, .v d1, .v d2, .u] M).res := rfl
theorem go__law_no_parts {n : Nat} {hot : Hot} {M : Mem} {d0 : D} : call P.pr (n + 1) hot 12 [d0] M = (ex tab (call P.pr n) hot c__law_no_parts [.v d0] M).res := rfl
theorem go__law_no_way {n : Nat} {hot : Hot} {M : Mem} {d0 : D} : call P.pr (n + 1) hot 13 [d0] M = (ex tab (call P.pr n) hot c__law_no_way [.v d0] M).res := rfl
theorem go__law_kind {n : Nat} {hot : Hot} {M : Mem} {d0 : D} : call P.pr (n + 1) hot 14 [d0] M = (ex tab (call P.pr n) hot c__law_kind [.v d0, .u, .u, .u] M).res := rfl
theorem go__law_tried {n : Nat} {hot : Hot} {M : Mem} {d0 d1 d2 d3 : D} : call P.pr (n + 1) hot 15 [d0, d1, d2, d3] M = (ex tab (call P.pr n) hot c__law_tried [.v d0, .v d1, .v d2, .v d3, .u] M).res := rfl
theorem go__law_refused {n : Nat} {hot : Hot} {M : Mem} {d0 : D} : call P.pr (n + 1) hot 16 [d0] M = (ex tab (call P.pr n) hot c__law_refused [.v d0, .u, .u, .u, .u, .u, .u, .u, .u, .u] M).res := rfl
theorem go_law {n : Nat} {hot : Hot} {M : Mem} {d0 : D} : call P.pr (n + 1) hot 17 [d0] M = (ex tab (call P.pr n) hot c_law [.v d0, .u, .u, .u, .u, .u, .u, .u] M).res := rfl
def loose0 : List PySem.Str := ["RollError", "BadAmount", "BadShare", "BadText", "BadMonth", "BadYear", "BadRule", "BadBook", "NoYear", "BadDay", "BadEntry", "NoMark", "NoPerson", "TooMany", "BadClose", "BadLine", "is_whole", "is_among", "WHOLE", "MOST_PARTS", "WAYS", "is_way", "need_amount", "rounded", "share_of", "_law_cell", "_law_mixed", "_law_whole", "_law_amount", "_law_parts"]
def loose1 : List PySem.Str := ["_law_fits", "_law_no_parts", "_law_no_way", "_law_kind", "_law_tried", "_law_refused"]
def loose : List PySem.Str := loose0 ++ loose1
def place : Nat := 40
theorem ok : P.ok = true := by decide +kernel
end VM.K01
namespace VM.K01
variable {n : Nat} {hot : Hot} {M : Mem}
theorem r_cell (xs : List Int) (k : Nat) : ∃ c : Int, call P.pr (n + 1) hot 6 [.scr (xs.map .int), .int k] M = .ok ⟨.f, .int c⟩ M := by
  have e : ∀ (a b : SV), pf .len [.scr (xs.map .int)] M = .ok ⟨.f, .int xs.length⟩ M := fun _ _ => len_ok (by simp [deref, lenD])
  by_cases h : (k : Int) < xs.length
  · have hi : index (.scr (xs.map .int)) (.int k) M = .ok ⟨.f, .int (xs.getD k 0)⟩ M := by
      show okO (at? (xs.map .int) k) M = _
      rw [at_nat, List.getElem?_map, List.getElem?_eq_getElem (by omega)]
      simp [okO, ok1, List.getD, List.getElem?_eq_getElem (show k < xs.length by omega)]
    exact ⟨xs.getD k 0, by simp [ex, ev, evs, evb, VM.start, bind_ok, bind_ex, bw_ok, bw_ex, fz_f, fz_n, fz_ex, bl_ok, bl_ex, on_ok, on_ex, next_nx, next_rt, next_ex, res_nx, res_rt, res_ex, out_f, out_n, out_b, okB_some, okI_some, okO_some, ok1_eq, okn_eq, okL_some, add_int, sub_int, mul_int, fdiv_int, mod_int, lt_int, le_int, gt_int, ge_int, eq_int, ne_int, eq_str, ne_str, is_non, isn_non, abs_int, int_int, int_bl, divmod_ok, pfHot, store, isS, noS, setE, isN, Tg.bind, Tg.binds, Tg.is, evIt, forF, isTn, line, go__law_cell, c__law_cell, e .u .u, hi, h]⟩
  · exact ⟨0, by simp [ex, ev, evs, evb, VM.start, bind_ok, bind_ex, bw_ok, bw_ex, fz_f, fz_n, fz_ex, bl_ok, bl_ex, on_ok, on_ex, next_nx, next_rt, next_ex, res_nx, res_rt, res_ex, out_f, out_n, out_b, okB_some, okI_some, okO_some, ok1_eq, okn_eq, okL_some, add_int, sub_int, mul_int, fdiv_int, mod_int, lt_int, le_int, gt_int, ge_int, eq_int, ne_int, eq_str, ne_str, is_non, isn_non, abs_int, int_int, int_bl, divmod_ok, pfHot, store, isS, noS, setE, isN, Tg.bind, Tg.binds, Tg.is, evIt, forF, isTn, line, go__law_cell, c__law_cell, e .u .u, h]⟩
theorem r_mixed (xs : List Int) (k : Nat) (hk : k < 1000) : ∃ m : Int, (0 ≤ m ∧ m < 2147483647) ∧ call P.pr (n + 2) hot 7 [.scr (xs.map .int), .int k] M = .ok ⟨.f, .int m⟩ M := by
  obtain ⟨c, hc⟩ := r_cell (n := n) (hot := hot) (M := M) xs k
  have k1 : ∀ i, mulOk i (k : Int) = true := fun i => small_mul_r (small_in (by omega) (by omega))
  have l1 : ∀ i, mulOk i 48271 = true := fun i => small_mul_r (by decide)
  have l2 : ∀ i, mulOk i 16807 = true := fun i => small_mul_r (by decide)
  refine ⟨_, ?_, by
    simp [ex, ev, evs, evb, VM.start, bind_ok, bind_ex, bw_ok, bw_ex, fz_f, fz_n, fz_ex, bl_ok, bl_ex, on_ok, on_ex, next_nx, next_rt, next_ex, res_nx, res_rt, res_ex, out_f, out_n, out_b, okB_some, okI_some, okO_some, ok1_eq, okn_eq, okL_some, add_int, sub_int, mul_int, fdiv_int, mod_int, lt_int, le_int, gt_int, ge_int, eq_int, ne_int, eq_str, ne_str, is_non, isn_non, abs_int, int_int, int_bl, divmod_ok, pfHot, store, isS, noS, setE, isN, Tg.bind, Tg.binds, Tg.is, evIt, forF, isTn, line, go__law_mixed, c__law_mixed, hc, k1, l1, l2]
    rfl⟩
  omega
theorem r_mix (xs : List Int) (k : Int) (h0 : 0 ≤ k) (hk : k < 1000) : ∃ m : Int, (0 ≤ m ∧ m < 2147483647) ∧ call P.pr (n + 2) hot 7 [.scr (xs.map .int), .int k] M = .ok ⟨.f, .int m⟩ M := by
  have := r_mixed (n := n) (hot := hot) (M := M) xs k.toNat (by omega)
  rw [Int.toNat_of_nonneg h0] at this
  exact this
theorem r_amount {m : Int} (h0 : 0 ≤ m) (h1 : m < 2147483647) : ∃ a : Int, call P.pr (n + 1) hot 9 [.int m] M = .ok ⟨.f, .int a⟩ M := by
  obtain ⟨d, hd, md⟩ := ix_lst (xs := [.int 1, .int (-1)]) M (i := m / 5 % 2) (by omega) (by simp; omega)
  obtain ⟨s, rfl, hs⟩ : ∃ s : Int, d = .int s ∧ (s = 1 ∨ s = -1) := by
    simp only [List.mem_cons, List.not_mem_nil, or_false] at md
    rcases md with rfl | rfl
    · exact ⟨1, rfl, .inl rfl⟩
    · exact ⟨-1, rfl, .inr rfl⟩
  have sm : ∀ j, mulOk s j = true := fun j => small_mul_l (small_in (by omega) (by omega))
  have mm : ∀ i, mulOk i (m / 10) = true := fun i => small_mul_r (small_in (by omega) (by omega))
  have m3 : ∀ i, mulOk i (m / 10 % 1000003 + 1) = true := fun i => small_mul_r (small_in (by omega) (by omega))
  have m4 : ∀ i, mulOk i (1 + m % 1009) = true := fun i => small_mul_r (small_in (by omega) (by omega))
  by_cases w0 : m % 5 = 0
  · exact ⟨_, by simp [ex, ev, evs, evb, VM.start, bind_ok, bind_ex, bw_ok, bw_ex, fz_f, fz_n, fz_ex, bl_ok, bl_ex, on_ok, on_ex, next_nx, next_rt, next_ex, res_nx, res_rt, res_ex, out_f, out_n, out_b, okB_some, okI_some, okO_some, ok1_eq, okn_eq, okL_some, add_int, sub_int, mul_int, fdiv_int, mod_int, lt_int, le_int, gt_int, ge_int, eq_int, ne_int, eq_str, ne_str, is_non, isn_non, abs_int, int_int, int_bl, divmod_ok, pfHot, store, isS, noS, setE, isN, Tg.bind, Tg.binds, Tg.is, evIt, forF, isTn, line, go__law_amount, c__law_amount, hd, w0, sm]; rfl⟩
  by_cases w1 : m % 5 = 1
  · exact ⟨_, by simp [ex, ev, evs, evb, VM.start, bind_ok, bind_ex, bw_ok, bw_ex, fz_f, fz_n, fz_ex, bl_ok, bl_ex, on_ok, on_ex, next_nx, next_rt, next_ex, res_nx, res_rt, res_ex, out_f, out_n, out_b, okB_some, okI_some, okO_some, ok1_eq, okn_eq, okL_some, add_int, sub_int, mul_int, fdiv_int, mod_int, lt_int, le_int, gt_int, ge_int, eq_int, ne_int, eq_str, ne_str, is_non, isn_non, abs_int, int_int, int_bl, divmod_ok, pfHot, store, isS, noS, setE, isN, Tg.bind, Tg.binds, Tg.is, evIt, forF, isTn, line, go__law_amount, c__law_amount, hd, w0, w1, sm]; rfl⟩
  by_cases w2 : m % 5 = 2
  · exact ⟨_, by simp [ex, ev, evs, evb, VM.start, bind_ok, bind_ex, bw_ok, bw_ex, fz_f, fz_n, fz_ex, bl_ok, bl_ex, on_ok, on_ex, next_nx, next_rt, next_ex, res_nx, res_rt, res_ex, out_f, out_n, out_b, okB_some, okI_some, okO_some, ok1_eq, okn_eq, okL_some, add_int, sub_int, mul_int, fdiv_int, mod_int, lt_int, le_int, gt_int, ge_int, eq_int, ne_int, eq_str, ne_str, is_non, isn_non, abs_int, int_int, int_bl, divmod_ok, pfHot, store, isS, noS, setE, isN, Tg.bind, Tg.binds, Tg.is, evIt, forF, isTn, line, go__law_amount, c__law_amount, hd, w0, w1, w2, sm, mm, m3, m4]; rfl⟩
  obtain ⟨d2, hd2, md2⟩ := ix_lst (xs := [.int 0, .int 5000, .int 1, .int 9999, .int 4999, .int 5001]) M (i := m / 10 % 6) (by omega) (by simp; omega)
  obtain ⟨s2, rfl⟩ : ∃ s : Int, d2 = .int s := by
    simp only [List.mem_cons, List.not_mem_nil, or_false] at md2
    rcases md2 with rfl | rfl | rfl | rfl | rfl | rfl <;> exact ⟨_, rfl⟩
  obtain ⟨d3, hd3, md3⟩ := ix_lst (xs := [.int 9, .int 10000000]) M (i := m % 5 - 3) (by omega) (by simp; omega)
  obtain ⟨s3, rfl, h3⟩ : ∃ s : Int, d3 = .int s ∧ (s = 9 ∨ s = 10000000) := by
    simp only [List.mem_cons, List.not_mem_nil, or_false] at md3
    rcases md3 with rfl | rfl
    · exact ⟨9, rfl, .inl rfl⟩
    · exact ⟨_, rfl, .inr rfl⟩
  have p3 : 0 < s3 := by omega
  have hp : binop .pow (.int 10) (.int 7) M = .ok ⟨.f, .int 10000000⟩ M := rfl
  have q3 : ∀ i, mulOk 10000 i = true := fun i => small_mul_l (by decide)
  exact ⟨_, by simp [ex, ev, evs, evb, VM.start, bind_ok, bind_ex, bw_ok, bw_ex, fz_f, fz_n, fz_ex, bl_ok, bl_ex, on_ok, on_ex, next_nx, next_rt, next_ex, res_nx, res_rt, res_ex, out_f, out_n, out_b, okB_some, okI_some, okO_some, ok1_eq, okn_eq, okL_some, add_int, sub_int, mul_int, fdiv_int, mod_int, lt_int, le_int, gt_int, ge_int, eq_int, ne_int, eq_str, ne_str, is_non, isn_non, abs_int, int_int, int_bl, divmod_ok, pfHot, store, isS, noS, setE, isN, Tg.bind, Tg.binds, Tg.is, evIt, forF, isTn, line, go__law_amount, c__law_amount, hd, hd2, hd3, w0, w1, w2, sm, p3, q3, hp]; rfl⟩
theorem r_parts {m : Int} (h0 : 0 ≤ m) (h1 : m < 2147483647) : ∃ p : Int, (0 ≤ p ∧ p ≤ 20000) ∧ call P.pr (n + 1) hot 10 [.int m] M = .ok ⟨.f, .int p⟩ M := by
  obtain ⟨d, hd, md⟩ := ix_lst (xs := [.int 5000, .int 15000, .int 0, .int 20000, .int 10000, .int 1, .int 2500, .int (m / 8 % 20001)]) M (i := m % 8) (by omega) (by simp; omega)
  obtain ⟨s, rfl, hs⟩ : ∃ s : Int, d = .int s ∧ (0 ≤ s ∧ s ≤ 20000) := by
    simp only [List.mem_cons, List.not_mem_nil, or_false] at md
    rcases md with rfl | rfl | rfl | rfl | rfl | rfl | rfl | rfl <;> exact ⟨_, rfl, by omega, by omega⟩
  exact ⟨s, hs, by simp [ex, ev, evs, evb, VM.start, bind_ok, bind_ex, bw_ok, bw_ex, fz_f, fz_n, fz_ex, bl_ok, bl_ex, on_ok, on_ex, next_nx, next_rt, next_ex, res_nx, res_rt, res_ex, out_f, out_n, out_b, okB_some, okI_some, okO_some, ok1_eq, okn_eq, okL_some, add_int, sub_int, mul_int, fdiv_int, mod_int, lt_int, le_int, gt_int, ge_int, eq_int, ne_int, eq_str, ne_str, is_non, isn_non, abs_int, int_int, int_bl, divmod_ok, pfHot, store, isS, noS, setE, isN, Tg.bind, Tg.binds, Tg.is, evIt, forF, isTn, line, go__law_parts, c__law_parts, hd]⟩
theorem r_whole {d : D} {t : Tn} (h : tnOf (deref M d) = some t) : call P.pr (n + 1) hot 0 [d] M = .ok ⟨.f, .bl (decide (t = .int))⟩ M := by
  cases t <;> simp [ex, ev, evs, evb, VM.start, bind_ok, bind_ex, bw_ok, bw_ex, fz_f, fz_n, fz_ex, bl_ok, bl_ex, on_ok, on_ex, next_nx, next_rt, next_ex, res_nx, res_rt, res_ex, out_f, out_n, out_b, okB_some, okI_some, okO_some, ok1_eq, okn_eq, okL_some, add_int, sub_int, mul_int, fdiv_int, mod_int, lt_int, le_int, gt_int, ge_int, eq_int, ne_int, eq_str, ne_str, is_non, isn_non, abs_int, int_int, int_bl, divmod_ok, pfHot, store, isS, noS, setE, isN, Tg.bind, Tg.binds, Tg.is, evIt, forF, isTn, line, go_is_whole, c_is_whole, isi_some h]
theorem r_need {d : D} {t : Tn} (h : tnOf (deref M d) = some t) : call P.pr (n + 2) none 3 [d] M = if t = .int then .ok ⟨.f, .non⟩ M else .ex 1 M := by
  have w := r_whole (n := n) (hot := none) h
  by_cases k : t = .int
  · simp [ex, ev, evs, evb, VM.start, bind_ok, bind_ex, bw_ok, bw_ex, fz_f, fz_n, fz_ex, bl_ok, bl_ex, on_ok, on_ex, next_nx, next_rt, next_ex, res_nx, res_rt, res_ex, out_f, out_n, out_b, okB_some, okI_some, okO_some, ok1_eq, okn_eq, okL_some, add_int, sub_int, mul_int, fdiv_int, mod_int, lt_int, le_int, gt_int, ge_int, eq_int, ne_int, eq_str, ne_str, is_non, isn_non, abs_int, int_int, int_bl, divmod_ok, pfHot, store, isS, noS, setE, isN, Tg.bind, Tg.binds, Tg.is, evIt, forF, isTn, line, go_need_amount, c_need_amount, w, k]
  · simp [ex, ev, evs, evb, VM.start, bind_ok, bind_ex, bw_ok, bw_ex, fz_f, fz_n, fz_ex, bl_ok, bl_ex, on_ok, on_ex, next_nx, next_rt, next_ex, res_nx, res_rt, res_ex, out_f, out_n, out_b, okB_some, okI_some, okO_some, ok1_eq, okn_eq, okL_some, add_int, sub_int, mul_int, fdiv_int, mod_int, lt_int, le_int, gt_int, ge_int, eq_int, ne_int, eq_str, ne_str, is_non, isn_non, abs_int, int_int, int_bl, divmod_ok, pfHot, store, isS, noS, setE, isN, Tg.bind, Tg.binds, Tg.is, evIt, forF, isTn, line, go_need_amount, c_need_amount, w, k]
theorem r_needi {i : Int} : call P.pr (n + 2) none 3 [.int i] M = .ok ⟨.f, .non⟩ M := by
  rw [r_need (t := .int) rfl]; rfl
theorem r_is_i {i : Int} : call P.pr (n + 1) hot 0 [.int i] M = .ok ⟨.f, .bl true⟩ M := by
  rw [r_whole (t := .int) rfl]; rfl
theorem r_fw {i : Int} : call P.pr (n + 1) hot 8 [.int i] M = .ok ⟨.f, .bl true⟩ M := rfl
def ways : List D := [.str [100, 111, 119, 110], .str [117, 112], .str [110, 101, 97, 114], .str [101, 118, 101, 110]]
theorem r_way {w : D} (h : w ∈ ways) : call P.pr (n + 1) hot 2 [w] M = .ok ⟨.f, .bl true⟩ M := by
  simp only [ways, List.mem_cons, List.not_mem_nil, or_false] at h
  rcases h with rfl | rfl | rfl | rfl <;> rfl
/-- rounded by a way, and the law's own test of it -/
theorem r_round {a : Int} {w : D} (h : w ∈ ways) : ∃ r : Int, call P.pr (n + 3) none 4 [.int a, w] M = .ok ⟨.f, .int r⟩ M ∧ ∀ m, call P.pr (m + 2) none 11 [.int a, w, .int r] M = .ok ⟨.f, .bl true⟩ M := by
  have hw := r_way (n := n + 1) (hot := none) (M := M) h
  have hn := r_needi (n := n) (M := M) (i := a)
  have m2 : ∀ i, mulOk 2 i = true := fun i => small_mul_l (by decide)
  have m4 : ∀ i, mulOk 10000 i = true := fun i => small_mul_l (by decide)
  have f8 : ∀ (m : Nat) (i : Int), call P.pr (m + 1) none 8 [.int i] M = .ok ⟨.f, .bl true⟩ M := fun m i => r_fw
  have wh : (Tab.glob tab)[0]?.getD .non = .int 10000 := rfl
  simp only [ways, List.mem_cons, List.not_mem_nil, or_false] at h
  by_cases r0 : a % 10000 = 0
  · refine ⟨a / 10000, ?_, ?_⟩
    · rcases h with rfl | rfl | rfl | rfl <;> simp [ex, ev, evs, evb, VM.start, bind_ok, bind_ex, bw_ok, bw_ex, fz_f, fz_n, fz_ex, bl_ok, bl_ex, on_ok, on_ex, next_nx, next_rt, next_ex, res_nx, res_rt, res_ex, out_f, out_n, out_b, okB_some, okI_some, okO_some, ok1_eq, okn_eq, okL_some, add_int, sub_int, mul_int, fdiv_int, mod_int, lt_int, le_int, gt_int, ge_int, eq_int, ne_int, eq_str, ne_str, is_non, isn_non, abs_int, int_int, int_bl, divmod_ok, pfHot, store, isS, noS, setE, isN, Tg.bind, Tg.binds, Tg.is, evIt, forF, isTn, line, go_rounded, c_rounded, hw, hn, wh, r0]
    · have e : a - 10000 * (a / 10000) = 0 := by omega
      rcases h with rfl | rfl | rfl | rfl <;> simp [ex, ev, evs, evb, VM.start, bind_ok, bind_ex, bw_ok, bw_ex, fz_f, fz_n, fz_ex, bl_ok, bl_ex, on_ok, on_ex, next_nx, next_rt, next_ex, res_nx, res_rt, res_ex, out_f, out_n, out_b, okB_some, okI_some, okO_some, ok1_eq, okn_eq, okL_some, add_int, sub_int, mul_int, fdiv_int, mod_int, lt_int, le_int, gt_int, ge_int, eq_int, ne_int, eq_str, ne_str, is_non, isn_non, abs_int, int_int, int_bl, divmod_ok, pfHot, store, isS, noS, setE, isN, Tg.bind, Tg.binds, Tg.is, evIt, forF, isTn, line, go__law_fits, c__law_fits, f8, m4, e]
  have q0 : 0 < a % 10000 := by omega
  have q1 : a % 10000 < 10000 := by omega
  rcases h with rfl | rfl | h
  · refine ⟨a / 10000, by simp [ex, ev, evs, evb, VM.start, bind_ok, bind_ex, bw_ok, bw_ex, fz_f, fz_n, fz_ex, bl_ok, bl_ex, on_ok, on_ex, next_nx, next_rt, next_ex, res_nx, res_rt, res_ex, out_f, out_n, out_b, okB_some, okI_some, okO_some, ok1_eq, okn_eq, okL_some, add_int, sub_int, mul_int, fdiv_int, mod_int, lt_int, le_int, gt_int, ge_int, eq_int, ne_int, eq_str, ne_str, is_non, isn_non, abs_int, int_int, int_bl, divmod_ok, pfHot, store, isS, noS, setE, isN, Tg.bind, Tg.binds, Tg.is, evIt, forF, isTn, line, go_rounded, c_rounded, hw, hn, wh, r0], ?_⟩
    obtain ⟨o, ho⟩ : ∃ o, a - 10000 * (a / 10000) = o := ⟨_, rfl⟩
    have e1 : 0 ≤ o := by omega
    have e2 : o < 10000 := by omega
    simp [ex, ev, evs, evb, VM.start, bind_ok, bind_ex, bw_ok, bw_ex, fz_f, fz_n, fz_ex, bl_ok, bl_ex, on_ok, on_ex, next_nx, next_rt, next_ex, res_nx, res_rt, res_ex, out_f, out_n, out_b, okB_some, okI_some, okO_some, ok1_eq, okn_eq, okL_some, add_int, sub_int, mul_int, fdiv_int, mod_int, lt_int, le_int, gt_int, ge_int, eq_int, ne_int, eq_str, ne_str, is_non, isn_non, abs_int, int_int, int_bl, divmod_ok, pfHot, store, isS, noS, setE, isN, Tg.bind, Tg.binds, Tg.is, evIt, forF, isTn, line, go__law_fits, c__law_fits, f8, m4, ho, e1, e2]
  · refine ⟨a / 10000 + 1, by simp [ex, ev, evs, evb, VM.start, bind_ok, bind_ex, bw_ok, bw_ex, fz_f, fz_n, fz_ex, bl_ok, bl_ex, on_ok, on_ex, next_nx, next_rt, next_ex, res_nx, res_rt, res_ex, out_f, out_n, out_b, okB_some, okI_some, okO_some, ok1_eq, okn_eq, okL_some, add_int, sub_int, mul_int, fdiv_int, mod_int, lt_int, le_int, gt_int, ge_int, eq_int, ne_int, eq_str, ne_str, is_non, isn_non, abs_int, int_int, int_bl, divmod_ok, pfHot, store, isS, noS, setE, isN, Tg.bind, Tg.binds, Tg.is, evIt, forF, isTn, line, go_rounded, c_rounded, hw, hn, wh, r0], ?_⟩
    obtain ⟨o, ho⟩ : ∃ o, a - 10000 * (a / 10000 + 1) = o := ⟨_, rfl⟩
    have e1 : -10000 < o := by omega
    have e2 : o ≤ 0 := by omega
    simp [ex, ev, evs, evb, VM.start, bind_ok, bind_ex, bw_ok, bw_ex, fz_f, fz_n, fz_ex, bl_ok, bl_ex, on_ok, on_ex, next_nx, next_rt, next_ex, res_nx, res_rt, res_ex, out_f, out_n, out_b, okB_some, okI_some, okO_some, ok1_eq, okn_eq, okL_some, add_int, sub_int, mul_int, fdiv_int, mod_int, lt_int, le_int, gt_int, ge_int, eq_int, ne_int, eq_str, ne_str, is_non, isn_non, abs_int, int_int, int_bl, divmod_ok, pfHot, store, isS, noS, setE, isN, Tg.bind, Tg.binds, Tg.is, evIt, forF, isTn, line, go__law_fits, c__law_fits, f8, m4, ho, e1, e2]
  · by_cases g : 10000 < 2 * (a % 10000)
    · refine ⟨a / 10000 + 1, by rcases h with rfl | rfl <;> simp [ex, ev, evs, evb, VM.start, bind_ok, bind_ex, bw_ok, bw_ex, fz_f, fz_n, fz_ex, bl_ok, bl_ex, on_ok, on_ex, next_nx, next_rt, next_ex, res_nx, res_rt, res_ex, out_f, out_n, out_b, okB_some, okI_some, okO_some, ok1_eq, okn_eq, okL_some, add_int, sub_int, mul_int, fdiv_int, mod_int, lt_int, le_int, gt_int, ge_int, eq_int, ne_int, eq_str, ne_str, is_non, isn_non, abs_int, int_int, int_bl, divmod_ok, pfHot, store, isS, noS, setE, isN, Tg.bind, Tg.binds, Tg.is, evIt, forF, isTn, line, go_rounded, c_rounded, hw, hn, wh, r0, m2, g], ?_⟩
      obtain ⟨o, ho⟩ : ∃ o, a - 10000 * (a / 10000 + 1) = o := ⟨_, rfl⟩
      have e1 : o < 0 := by omega
      have e2 : ¬ -o = 5000 := by omega
      have e3 : -o < 5000 := by omega
      rcases h with rfl | rfl <;> simp [ex, ev, evs, evb, VM.start, bind_ok, bind_ex, bw_ok, bw_ex, fz_f, fz_n, fz_ex, bl_ok, bl_ex, on_ok, on_ex, next_nx, next_rt, next_ex, res_nx, res_rt, res_ex, out_f, out_n, out_b, okB_some, okI_some, okO_some, ok1_eq, okn_eq, okL_some, add_int, sub_int, mul_int, fdiv_int, mod_int, lt_int, le_int, gt_int, ge_int, eq_int, ne_int, eq_str, ne_str, is_non, isn_non, abs_int, int_int, int_bl, divmod_ok, pfHot, store, isS, noS, setE, isN, Tg.bind, Tg.binds, Tg.is, evIt, forF, isTn, line, go__law_fits, c__law_fits, f8, m4, ho, e1, e2, e3]
    · by_cases g2 : 2 * (a % 10000) < 10000
      · refine ⟨a / 10000, by rcases h with rfl | rfl <;> simp [ex, ev, evs, evb, VM.start, bind_ok, bind_ex, bw_ok, bw_ex, fz_f, fz_n, fz_ex, bl_ok, bl_ex, on_ok, on_ex, next_nx, next_rt, next_ex, res_nx, res_rt, res_ex, out_f, out_n, out_b, okB_some, okI_some, okO_some, ok1_eq, okn_eq, okL_some, add_int, sub_int, mul_int, fdiv_int, mod_int, lt_int, le_int, gt_int, ge_int, eq_int, ne_int, eq_str, ne_str, is_non, isn_non, abs_int, int_int, int_bl, divmod_ok, pfHot, store, isS, noS, setE, isN, Tg.bind, Tg.binds, Tg.is, evIt, forF, isTn, line, go_rounded, c_rounded, hw, hn, wh, r0, m2, g, g2], ?_⟩
        obtain ⟨o, ho⟩ : ∃ o, a - 10000 * (a / 10000) = o := ⟨_, rfl⟩
        have e1 : ¬ o < 0 := by omega
        have e2 : ¬ o = 5000 := by omega
        have e3 : o < 5000 := by omega
        rcases h with rfl | rfl <;> simp [ex, ev, evs, evb, VM.start, bind_ok, bind_ex, bw_ok, bw_ex, fz_f, fz_n, fz_ex, bl_ok, bl_ex, on_ok, on_ex, next_nx, next_rt, next_ex, res_nx, res_rt, res_ex, out_f, out_n, out_b, okB_some, okI_some, okO_some, ok1_eq, okn_eq, okL_some, add_int, sub_int, mul_int, fdiv_int, mod_int, lt_int, le_int, gt_int, ge_int, eq_int, ne_int, eq_str, ne_str, is_non, isn_non, abs_int, int_int, int_bl, divmod_ok, pfHot, store, isS, noS, setE, isN, Tg.bind, Tg.binds, Tg.is, evIt, forF, isTn, line, go__law_fits, c__law_fits, f8, m4, ho, e1, e2, e3]
      · rcases h with rfl | rfl
        · by_cases p : 0 < a
          · refine ⟨a / 10000 + 1, by simp [ex, ev, evs, evb, VM.start, bind_ok, bind_ex, bw_ok, bw_ex, fz_f, fz_n, fz_ex, bl_ok, bl_ex, on_ok, on_ex, next_nx, next_rt, next_ex, res_nx, res_rt, res_ex, out_f, out_n, out_b, okB_some, okI_some, okO_some, ok1_eq, okn_eq, okL_some, add_int, sub_int, mul_int, fdiv_int, mod_int, lt_int, le_int, gt_int, ge_int, eq_int, ne_int, eq_str, ne_str, is_non, isn_non, abs_int, int_int, int_bl, divmod_ok, pfHot, store, isS, noS, setE, isN, Tg.bind, Tg.binds, Tg.is, evIt, forF, isTn, line, go_rounded, c_rounded, hw, hn, wh, r0, m2, g, g2, p], ?_⟩
            obtain ⟨o, ho⟩ : ∃ o, a - 10000 * (a / 10000 + 1) = o := ⟨_, rfl⟩
            obtain ⟨u, hu⟩ : ∃ u, a / 10000 + 1 = u := ⟨_, rfl⟩
            have e1 : o = -5000 := by omega
            subst e1
            have e2 : ¬ u < 0 := by omega
            have e3 : ¬ a < 0 := by omega
            have e4 : a < 10000 * u := by omega
            rw [hu] at ho ⊢
            simp [ex, ev, evs, evb, VM.start, bind_ok, bind_ex, bw_ok, bw_ex, fz_f, fz_n, fz_ex, bl_ok, bl_ex, on_ok, on_ex, next_nx, next_rt, next_ex, res_nx, res_rt, res_ex, out_f, out_n, out_b, okB_some, okI_some, okO_some, ok1_eq, okn_eq, okL_some, add_int, sub_int, mul_int, fdiv_int, mod_int, lt_int, le_int, gt_int, ge_int, eq_int, ne_int, eq_str, ne_str, is_non, isn_non, abs_int, int_int, int_bl, divmod_ok, pfHot, store, isS, noS, setE, isN, Tg.bind, Tg.binds, Tg.is, evIt, forF, isTn, line, go__law_fits, c__law_fits, f8, m4, ho, e2, e3, e4]
          · refine ⟨a / 10000, by simp [ex, ev, evs, evb, VM.start, bind_ok, bind_ex, bw_ok, bw_ex, fz_f, fz_n, fz_ex, bl_ok, bl_ex, on_ok, on_ex, next_nx, next_rt, next_ex, res_nx, res_rt, res_ex, out_f, out_n, out_b, okB_some, okI_some, okO_some, ok1_eq, okn_eq, okL_some, add_int, sub_int, mul_int, fdiv_int, mod_int, lt_int, le_int, gt_int, ge_int, eq_int, ne_int, eq_str, ne_str, is_non, isn_non, abs_int, int_int, int_bl, divmod_ok, pfHot, store, isS, noS, setE, isN, Tg.bind, Tg.binds, Tg.is, evIt, forF, isTn, line, go_rounded, c_rounded, hw, hn, wh, r0, m2, g, g2, p], ?_⟩
            obtain ⟨o, ho⟩ : ∃ o, a - 10000 * (a / 10000) = o := ⟨_, rfl⟩
            obtain ⟨u, hu⟩ : ∃ u, a / 10000 = u := ⟨_, rfl⟩
            have e1 : o = 5000 := by omega
            subst e1
            have e2 : u < 0 := by omega
            have e3 : a < 0 := by omega
            have e4 : -a < 10000 * -u := by omega
            rw [hu] at ho ⊢
            have e5 : 10000 * u < a := by omega
            simp [ex, ev, evs, evb, VM.start, bind_ok, bind_ex, bw_ok, bw_ex, fz_f, fz_n, fz_ex, bl_ok, bl_ex, on_ok, on_ex, next_nx, next_rt, next_ex, res_nx, res_rt, res_ex, out_f, out_n, out_b, okB_some, okI_some, okO_some, ok1_eq, okn_eq, okL_some, add_int, sub_int, mul_int, fdiv_int, mod_int, lt_int, le_int, gt_int, ge_int, eq_int, ne_int, eq_str, ne_str, is_non, isn_non, abs_int, int_int, int_bl, divmod_ok, pfHot, store, isS, noS, setE, isN, Tg.bind, Tg.binds, Tg.is, evIt, forF, isTn, line, go__law_fits, c__law_fits, f8, m4, ho, e2, e3, e4, e5]
        · refine ⟨a / 10000 + a / 10000 % 2, by simp [ex, ev, evs, evb, VM.start, bind_ok, bind_ex, bw_ok, bw_ex, fz_f, fz_n, fz_ex, bl_ok, bl_ex, on_ok, on_ex, next_nx, next_rt, next_ex, res_nx, res_rt, res_ex, out_f, out_n, out_b, okB_some, okI_some, okO_some, ok1_eq, okn_eq, okL_some, add_int, sub_int, mul_int, fdiv_int, mod_int, lt_int, le_int, gt_int, ge_int, eq_int, ne_int, eq_str, ne_str, is_non, isn_non, abs_int, int_int, int_bl, divmod_ok, pfHot, store, isS, noS, setE, isN, Tg.bind, Tg.binds, Tg.is, evIt, forF, isTn, line, go_rounded, c_rounded, hw, hn, wh, r0, m2, g, g2], ?_⟩
          obtain ⟨u, hu⟩ : ∃ u, a / 10000 + a / 10000 % 2 = u := ⟨_, rfl⟩
          obtain ⟨o, ho⟩ : ∃ o, a - 10000 * u = o := ⟨_, rfl⟩
          have e1 : o = 5000 ∨ o = -5000 := by omega
          have e2 : u % 2 = 0 := by omega
          rw [hu]
          rcases e1 with rfl | rfl <;> simp [ex, ev, evs, evb, VM.start, bind_ok, bind_ex, bw_ok, bw_ex, fz_f, fz_n, fz_ex, bl_ok, bl_ex, on_ok, on_ex, next_nx, next_rt, next_ex, res_nx, res_rt, res_ex, out_f, out_n, out_b, okB_some, okI_some, okO_some, ok1_eq, okn_eq, okL_some, add_int, sub_int, mul_int, fdiv_int, mod_int, lt_int, le_int, gt_int, ge_int, eq_int, ne_int, eq_str, ne_str, is_non, isn_non, abs_int, int_int, int_bl, divmod_ok, pfHot, store, isS, noS, setE, isN, Tg.bind, Tg.binds, Tg.is, evIt, forF, isTn, line, go__law_fits, c__law_fits, f8, m4, ho, e2]
theorem r_share {a p : Int} {w : D} (h : w ∈ ways) (p0 : 0 ≤ p) (p1 : p ≤ 20000) : ∃ r : Int, call P.pr (n + 4) none 5 [.int a, .int p, w] M = .ok ⟨.f, .int r⟩ M ∧ ∀ m, call P.pr (m + 2) none 11 [.int (a * p), w, .int r] M = .ok ⟨.f, .bl true⟩ M := by
  obtain ⟨r, h1, h2⟩ := r_round (n := n) (M := M) (a := a * p) h
  have hn := r_needi (n := n + 1) (M := M) (i := a)
  have hi := r_is_i (n := n + 1) (hot := none) (M := M) (i := p)
  have hm : ∀ i, mulOk i p = true := fun i => small_mul_r (small_in (by omega) (by omega))
  have ham : call P.pr (n + 3) none 1 [.int p, .int 0, .int 20000] M = .ok ⟨.f, .bl true⟩ M := by
    simp [ex, ev, evs, evb, VM.start, bind_ok, bind_ex, bw_ok, bw_ex, fz_f, fz_n, fz_ex, bl_ok, bl_ex, on_ok, on_ex, next_nx, next_rt, next_ex, res_nx, res_rt, res_ex, out_f, out_n, out_b, okB_some, okI_some, okO_some, ok1_eq, okn_eq, okL_some, add_int, sub_int, mul_int, fdiv_int, mod_int, lt_int, le_int, gt_int, ge_int, eq_int, ne_int, eq_str, ne_str, is_non, isn_non, abs_int, int_int, int_bl, divmod_ok, pfHot, store, isS, noS, setE, isN, Tg.bind, Tg.binds, Tg.is, evIt, forF, isTn, line, go_is_among, c_is_among, hi, p0, p1]
  have wh : (Tab.glob tab)[1]?.getD .non = .int 20000 := rfl
  exact ⟨r, by simp [ex, ev, evs, evb, VM.start, bind_ok, bind_ex, bw_ok, bw_ex, fz_f, fz_n, fz_ex, bl_ok, bl_ex, on_ok, on_ex, next_nx, next_rt, next_ex, res_nx, res_rt, res_ex, out_f, out_n, out_b, okB_some, okI_some, okO_some, ok1_eq, okn_eq, okL_some, add_int, sub_int, mul_int, fdiv_int, mod_int, lt_int, le_int, gt_int, ge_int, eq_int, ne_int, eq_str, ne_str, is_non, isn_non, abs_int, int_int, int_bl, divmod_ok, pfHot, store, isS, noS, setE, isN, Tg.bind, Tg.binds, Tg.is, evIt, forF, isTn, line, go_share_of, c_share_of, hn, wh, ham, hm, h1], h2⟩
/-! ### what is refused -/
def A : D := .lst [.str [97, 109, 111, 117, 110, 116], .str [118, 97, 108, 117, 101]]
def B : D := .lst [.str [115, 104, 97, 114, 101], .str [118, 97, 108, 117, 101]]
theorem kind1 : call P.pr (n + 1) (some 1) 14 [.exc] M = .ok ⟨.n, A⟩ M := rfl
theorem kind2 : call P.pr (n + 1) (some 2) 14 [.exc] M = .ok ⟨.n, B⟩ M := rfl
/-- no whole number -/
def NoI (M : Mem) (d : D) : Prop := ∃ t, tnOf (deref M d) = some t ∧ t ≠ .int
theorem r_needx {d : D} (h : NoI M d) : call P.pr (n + 2) none 3 [d] M = .ex 1 M := by
  obtain ⟨t, h1, h2⟩ := h
  rw [r_need h1, if_neg h2]
theorem r_roundx {d w : D} (h : NoI M d) : call P.pr (n + 3) none 4 [d, w] M = .ex 1 M := by
  simp [ex, ev, evs, evb, VM.start, bind_ok, bind_ex, bw_ok, bw_ex, fz_f, fz_n, fz_ex, bl_ok, bl_ex, on_ok, on_ex, next_nx, next_rt, next_ex, res_nx, res_rt, res_ex, out_f, out_n, out_b, okB_some, okI_some, okO_some, ok1_eq, okn_eq, okL_some, add_int, sub_int, mul_int, fdiv_int, mod_int, lt_int, le_int, gt_int, ge_int, eq_int, ne_int, eq_str, ne_str, is_non, isn_non, abs_int, int_int, int_bl, divmod_ok, pfHot, store, isS, noS, setE, isN, Tg.bind, Tg.binds, Tg.is, evIt, forF, isTn, line, go_rounded, c_rounded, r_needx h]
theorem r_sharex {d p w : D} (h : NoI M d) : call P.pr (n + 3) none 5 [d, p, w] M = .ex 1 M := by
  simp [ex, ev, evs, evb, VM.start, bind_ok, bind_ex, bw_ok, bw_ex, fz_f, fz_n, fz_ex, bl_ok, bl_ex, on_ok, on_ex, next_nx, next_rt, next_ex, res_nx, res_rt, res_ex, out_f, out_n, out_b, okB_some, okI_some, okO_some, ok1_eq, okn_eq, okL_some, add_int, sub_int, mul_int, fdiv_int, mod_int, lt_int, le_int, gt_int, ge_int, eq_int, ne_int, eq_str, ne_str, is_non, isn_non, abs_int, int_int, int_bl, divmod_ok, pfHot, store, isS, noS, setE, isN, Tg.bind, Tg.binds, Tg.is, evIt, forF, isTn, line, go_share_of, c_share_of, r_needx h]
theorem tried1 {i : Int} {d p w : D} (hi : i = 0 ∨ i = 1 ∨ i = 2) (h : NoI M d) : call P.pr (n + 5) none 15 [.int i, d, p, w] M = .ok ⟨.n, A⟩ M := by
  have s : subC tab.up 9 1 0 = true := by decide
  have e : A.nox = true := rfl
  rcases hi with rfl | rfl | rfl
  · simp [ex, ev, evs, evb, VM.start, bind_ok, bind_ex, bw_ok, bw_ex, fz_f, fz_n, fz_ex, bl_ok, bl_ex, on_ok, on_ex, next_nx, next_rt, next_ex, res_nx, res_rt, res_ex, out_f, out_n, out_b, okB_some, okI_some, okO_some, ok1_eq, okn_eq, okL_some, add_int, sub_int, mul_int, fdiv_int, mod_int, lt_int, le_int, gt_int, ge_int, eq_int, ne_int, eq_str, ne_str, is_non, isn_non, abs_int, int_int, int_bl, divmod_ok, pfHot, store, isS, noS, setE, isN, Tg.bind, Tg.binds, Tg.is, evIt, forF, isTn, line, go__law_tried, c__law_tried, hx, r_needx h, r_roundx h, r_sharex h, kind1, s, sames_refl, e, show tab.up.length = 16 from rfl]
  · simp [ex, ev, evs, evb, VM.start, bind_ok, bind_ex, bw_ok, bw_ex, fz_f, fz_n, fz_ex, bl_ok, bl_ex, on_ok, on_ex, next_nx, next_rt, next_ex, res_nx, res_rt, res_ex, out_f, out_n, out_b, okB_some, okI_some, okO_some, ok1_eq, okn_eq, okL_some, add_int, sub_int, mul_int, fdiv_int, mod_int, lt_int, le_int, gt_int, ge_int, eq_int, ne_int, eq_str, ne_str, is_non, isn_non, abs_int, int_int, int_bl, divmod_ok, pfHot, store, isS, noS, setE, isN, Tg.bind, Tg.binds, Tg.is, evIt, forF, isTn, line, go__law_tried, c__law_tried, hx, r_needx h, r_roundx h, r_sharex h, kind1, s, sames_refl, e, show tab.up.length = 16 from rfl]
  · simp [ex, ev, evs, evb, VM.start, bind_ok, bind_ex, bw_ok, bw_ex, fz_f, fz_n, fz_ex, bl_ok, bl_ex, on_ok, on_ex, next_nx, next_rt, next_ex, res_nx, res_rt, res_ex, out_f, out_n, out_b, okB_some, okI_some, okO_some, ok1_eq, okn_eq, okL_some, add_int, sub_int, mul_int, fdiv_int, mod_int, lt_int, le_int, gt_int, ge_int, eq_int, ne_int, eq_str, ne_str, is_non, isn_non, abs_int, int_int, int_bl, divmod_ok, pfHot, store, isS, noS, setE, isN, Tg.bind, Tg.binds, Tg.is, evIt, forF, isTn, line, go__law_tried, c__law_tried, hx, r_needx h, r_roundx h, r_sharex h, kind1, s, sames_refl, e, show tab.up.length = 16 from rfl]
def BadP (M : Mem) (p : D) : Prop := ∀ n, call P.pr (n + 2) none 1 [p, .int 0, .int 20000] M = .ok ⟨.f, .bl false⟩ M
def BadW (M : Mem) (w : D) : Prop := ∀ n, call P.pr (n + 1) none 2 [w] M = .ok ⟨.f, .bl false⟩ M
theorem bad_noi {p : D} (h : NoI M p) : BadP M p := fun n => by
  obtain ⟨t, h1, h2⟩ := h
  have w := r_whole (n := n) (hot := none) h1
  simp [ex, ev, evs, evb, VM.start, bind_ok, bind_ex, bw_ok, bw_ex, fz_f, fz_n, fz_ex, bl_ok, bl_ex, on_ok, on_ex, next_nx, next_rt, next_ex, res_nx, res_rt, res_ex, out_f, out_n, out_b, okB_some, okI_some, okO_some, ok1_eq, okn_eq, okL_some, add_int, sub_int, mul_int, fdiv_int, mod_int, lt_int, le_int, gt_int, ge_int, eq_int, ne_int, eq_str, ne_str, is_non, isn_non, abs_int, int_int, int_bl, divmod_ok, pfHot, store, isS, noS, setE, isN, Tg.bind, Tg.binds, Tg.is, evIt, forF, isTn, line, go_is_among, c_is_among, w, h2]
theorem bad_int {i : Int} (h : i < 0 ∨ 20000 < i) : BadP M (.int i) := fun n => by
  have w := r_is_i (n := n) (hot := none) (M := M) (i := i)
  rcases h with h | h
  · have e : ¬ 0 ≤ i := by omega
    simp [ex, ev, evs, evb, VM.start, bind_ok, bind_ex, bw_ok, bw_ex, fz_f, fz_n, fz_ex, bl_ok, bl_ex, on_ok, on_ex, next_nx, next_rt, next_ex, res_nx, res_rt, res_ex, out_f, out_n, out_b, okB_some, okI_some, okO_some, ok1_eq, okn_eq, okL_some, add_int, sub_int, mul_int, fdiv_int, mod_int, lt_int, le_int, gt_int, ge_int, eq_int, ne_int, eq_str, ne_str, is_non, isn_non, abs_int, int_int, int_bl, divmod_ok, pfHot, store, isS, noS, setE, isN, Tg.bind, Tg.binds, Tg.is, evIt, forF, isTn, line, go_is_among, c_is_among, w, e]
  · have e : 0 ≤ i := by omega
    have e2 : ¬ i ≤ 20000 := by omega
    simp [ex, ev, evs, evb, VM.start, bind_ok, bind_ex, bw_ok, bw_ex, fz_f, fz_n, fz_ex, bl_ok, bl_ex, on_ok, on_ex, next_nx, next_rt, next_ex, res_nx, res_rt, res_ex, out_f, out_n, out_b, okB_some, okI_some, okO_some, ok1_eq, okn_eq, okL_some, add_int, sub_int, mul_int, fdiv_int, mod_int, lt_int, le_int, gt_int, ge_int, eq_int, ne_int, eq_str, ne_str, is_non, isn_non, abs_int, int_int, int_bl, divmod_ok, pfHot, store, isS, noS, setE, isN, Tg.bind, Tg.binds, Tg.is, evIt, forF, isTn, line, go_is_among, c_is_among, w, e, e2]
theorem r_noparts {m : Int} (h0 : 0 ≤ m) (h1 : m < 2147483647) : ∃ p : D, BadP M p ∧ call P.pr (n + 1) none 12 [.int m] M = .ok ⟨.f, p⟩ M := by
  obtain ⟨d, hd, md⟩ := ix_lst (xs := [.int (-1), .int 20001, .bl true, .non, .str [53, 48], .lst [.int 5], .int (20001 + m / 10), .int (-1 - m / 10), .bl false, .tup [.int 1]]) M (i := m % 10) (by omega) (by simp; omega)
  refine ⟨d, ?_, by simp [ex, ev, evs, evb, VM.start, bind_ok, bind_ex, bw_ok, bw_ex, fz_f, fz_n, fz_ex, bl_ok, bl_ex, on_ok, on_ex, next_nx, next_rt, next_ex, res_nx, res_rt, res_ex, out_f, out_n, out_b, okB_some, okI_some, okO_some, ok1_eq, okn_eq, okL_some, add_int, sub_int, mul_int, fdiv_int, mod_int, lt_int, le_int, gt_int, ge_int, eq_int, ne_int, eq_str, ne_str, is_non, isn_non, abs_int, int_int, int_bl, divmod_ok, pfHot, store, isS, noS, setE, isN, Tg.bind, Tg.binds, Tg.is, evIt, forF, isTn, line, go__law_no_parts, c__law_no_parts, hd]⟩
  simp only [List.mem_cons, List.not_mem_nil, or_false] at md
  rcases md with rfl | rfl | rfl | rfl | rfl | rfl | rfl | rfl | rfl | rfl
  · exact bad_int (by omega)
  · exact bad_int (by omega)
  · exact bad_noi ⟨_, rfl, by decide⟩
  · exact bad_noi ⟨_, rfl, by decide⟩
  · exact bad_noi ⟨_, rfl, by decide⟩
  · exact bad_noi ⟨_, rfl, by decide⟩
  · exact bad_int (by omega)
  · exact bad_int (by omega)
  · exact bad_noi ⟨_, rfl, by decide⟩
  · exact bad_noi ⟨_, rfl, by decide⟩
theorem r_noway {m : Int} (h0 : 0 ≤ m) (h1 : m < 2147483647) : ∃ w : D, BadW M w ∧ call P.pr (n + 1) none 13 [.int m] M = .ok ⟨.f, w⟩ M := by
  obtain ⟨d, hd, md⟩ := ix_lst (xs := [.str [68, 111, 119, 110], .str [], .non, .bl true, .int 0, .lst [.str [100, 111, 119, 110]], .str [110, 101, 97, 114, 101, 115, 116], .str [117], .str [110, 101, 97, 114, 32], .tup [.str [117, 112]]]) M (i := m % 10) (by omega) (by simp; omega)
  refine ⟨d, ?_, by simp [ex, ev, evs, evb, VM.start, bind_ok, bind_ex, bw_ok, bw_ex, fz_f, fz_n, fz_ex, bl_ok, bl_ex, on_ok, on_ex, next_nx, next_rt, next_ex, res_nx, res_rt, res_ex, out_f, out_n, out_b, okB_some, okI_some, okO_some, ok1_eq, okn_eq, okL_some, add_int, sub_int, mul_int, fdiv_int, mod_int, lt_int, le_int, gt_int, ge_int, eq_int, ne_int, eq_str, ne_str, is_non, isn_non, abs_int, int_int, int_bl, divmod_ok, pfHot, store, isS, noS, setE, isN, Tg.bind, Tg.binds, Tg.is, evIt, forF, isTn, line, go__law_no_way, c__law_no_way, hd]⟩
  simp only [List.mem_cons, List.not_mem_nil, or_false] at md
  rcases md with rfl | rfl | rfl | rfl | rfl | rfl | rfl | rfl | rfl | rfl <;> exact fun n => rfl
theorem round2 {i : Int} {w : D} (h : BadW M w) : call P.pr (n + 3) none 4 [.int i, w] M = .ex 2 M := by
  simp [ex, ev, evs, evb, VM.start, bind_ok, bind_ex, bw_ok, bw_ex, fz_f, fz_n, fz_ex, bl_ok, bl_ex, on_ok, on_ex, next_nx, next_rt, next_ex, res_nx, res_rt, res_ex, out_f, out_n, out_b, okB_some, okI_some, okO_some, ok1_eq, okn_eq, okL_some, add_int, sub_int, mul_int, fdiv_int, mod_int, lt_int, le_int, gt_int, ge_int, eq_int, ne_int, eq_str, ne_str, is_non, isn_non, abs_int, int_int, int_bl, divmod_ok, pfHot, store, isS, noS, setE, isN, Tg.bind, Tg.binds, Tg.is, evIt, forF, isTn, line, go_rounded, c_rounded, r_needi, h (n + 1)]
theorem share2p {i : Int} {p w : D} (h : BadP M p) : call P.pr (n + 4) none 5 [.int i, p, w] M = .ex 2 M := by
  have hn := r_needi (n := n + 1) (M := M) (i := i)
  have wh : (Tab.glob tab)[1]?.getD .non = .int 20000 := rfl
  simp [ex, ev, evs, evb, VM.start, bind_ok, bind_ex, bw_ok, bw_ex, fz_f, fz_n, fz_ex, bl_ok, bl_ex, on_ok, on_ex, next_nx, next_rt, next_ex, res_nx, res_rt, res_ex, out_f, out_n, out_b, okB_some, okI_some, okO_some, ok1_eq, okn_eq, okL_some, add_int, sub_int, mul_int, fdiv_int, mod_int, lt_int, le_int, gt_int, ge_int, eq_int, ne_int, eq_str, ne_str, is_non, isn_non, abs_int, int_int, int_bl, divmod_ok, pfHot, store, isS, noS, setE, isN, Tg.bind, Tg.binds, Tg.is, evIt, forF, isTn, line, go_share_of, c_share_of, hn, wh, h (n + 1)]
theorem share2w {i p : Int} {w : D} (hp : 0 ≤ p ∧ p ≤ 20000) (h : BadW M w) : call P.pr (n + 4) none 5 [.int i, .int p, w] M = .ex 2 M := by
  have hn := r_needi (n := n + 1) (M := M) (i := i)
  have hi := r_is_i (n := n + 1) (hot := none) (M := M) (i := p)
  have hm : ∀ i, mulOk i p = true := fun i => small_mul_r (small_in (by omega) (by omega))
  have ham : call P.pr (n + 3) none 1 [.int p, .int 0, .int 20000] M = .ok ⟨.f, .bl true⟩ M := by
    simp [ex, ev, evs, evb, VM.start, bind_ok, bind_ex, bw_ok, bw_ex, fz_f, fz_n, fz_ex, bl_ok, bl_ex, on_ok, on_ex, next_nx, next_rt, next_ex, res_nx, res_rt, res_ex, out_f, out_n, out_b, okB_some, okI_some, okO_some, ok1_eq, okn_eq, okL_some, add_int, sub_int, mul_int, fdiv_int, mod_int, lt_int, le_int, gt_int, ge_int, eq_int, ne_int, eq_str, ne_str, is_non, isn_non, abs_int, int_int, int_bl, divmod_ok, pfHot, store, isS, noS, setE, isN, Tg.bind, Tg.binds, Tg.is, evIt, forF, isTn, line, go_is_among, c_is_among, hi, hp.1, hp.2]
  have wh : (Tab.glob tab)[1]?.getD .non = .int 20000 := rfl
  simp [ex, ev, evs, evb, VM.start, bind_ok, bind_ex, bw_ok, bw_ex, fz_f, fz_n, fz_ex, bl_ok, bl_ex, on_ok, on_ex, next_nx, next_rt, next_ex, res_nx, res_rt, res_ex, out_f, out_n, out_b, okB_some, okI_some, okO_some, ok1_eq, okn_eq, okL_some, add_int, sub_int, mul_int, fdiv_int, mod_int, lt_int, le_int, gt_int, ge_int, eq_int, ne_int, eq_str, ne_str, is_non, isn_non, abs_int, int_int, int_bl, divmod_ok, pfHot, store, isS, noS, setE, isN, Tg.bind, Tg.binds, Tg.is, evIt, forF, isTn, line, go_share_of, c_share_of, hn, wh, ham, hm, round2 h]
theorem tried2 {a : Int} {p w : D} (h : BadP M p ∨ ((p = .int 0 ∨ p = .int 20000) ∧ BadW M w)) : call P.pr (n + 5) none 15 [.int 2, .int a, p, w] M = .ok ⟨.n, B⟩ M := by
  have s : subC tab.up 9 2 0 = true := by decide
  have e : B.nox = true := rfl
  have k : call P.pr (n + 4) none 5 [.int a, p, w] M = .ex 2 M := by
    rcases h with h | ⟨rfl | rfl, h⟩
    · exact share2p h
    · exact share2w (by omega) h
    · exact share2w (by omega) h
  simp [ex, ev, evs, evb, VM.start, bind_ok, bind_ex, bw_ok, bw_ex, fz_f, fz_n, fz_ex, bl_ok, bl_ex, on_ok, on_ex, next_nx, next_rt, next_ex, res_nx, res_rt, res_ex, out_f, out_n, out_b, okB_some, okI_some, okO_some, ok1_eq, okn_eq, okL_some, add_int, sub_int, mul_int, fdiv_int, mod_int, lt_int, le_int, gt_int, ge_int, eq_int, ne_int, eq_str, ne_str, is_non, isn_non, abs_int, int_int, int_bl, divmod_ok, pfHot, store, isS, noS, setE, isN, Tg.bind, Tg.binds, Tg.is, evIt, forF, isTn, line, go__law_tried, c__law_tried, hx, k, kind2, s, sames_refl, e, show tab.up.length = 16 from rfl]
theorem tried3 {a : Int} {p w : D} (h : BadW M w) : call P.pr (n + 5) none 15 [.int 1, .int a, p, w] M = .ok ⟨.n, B⟩ M := by
  have s : subC tab.up 9 2 0 = true := by decide
  have e : B.nox = true := rfl
  have k := round2 (n := n + 1) (i := a) h
  simp [ex, ev, evs, evb, VM.start, bind_ok, bind_ex, bw_ok, bw_ex, fz_f, fz_n, fz_ex, bl_ok, bl_ex, on_ok, on_ex, next_nx, next_rt, next_ex, res_nx, res_rt, res_ex, out_f, out_n, out_b, okB_some, okI_some, okO_some, ok1_eq, okn_eq, okL_some, add_int, sub_int, mul_int, fdiv_int, mod_int, lt_int, le_int, gt_int, ge_int, eq_int, ne_int, eq_str, ne_str, is_non, isn_non, abs_int, int_int, int_bl, divmod_ok, pfHot, store, isS, noS, setE, isN, Tg.bind, Tg.binds, Tg.is, evIt, forF, isTn, line, go__law_tried, c__law_tried, hx, k, kind2, s, sames_refl, e, show tab.up.length = 16 from rfl]
def hand (dn p w : D) (g : Int) : D := if g = 0 then .lst [dn, p, w] else if g = 1 then .lst [dn, .int 5000, .str [100, 111, 119, 110]] else .lst [dn, p, .str [117, 112]]
theorem body0 {sc dn p w : D} {i g : Int} {a5 a8 a9 am : SV} (hn : NoI M dn) (hi : i = 0 ∨ i = 1 ∨ i = 2) (hg : g = 0 ∨ g = 1 ∨ g = 2) (h : isS (some a5) = false) :
    ex tab (call P.pr (n + 5)) none b__law_refused_0 [.v sc, .v dn, am, .v p, .v w, .v (.int i), .v (.int g), a5, a8, a9] M = .nx [.v sc, .v dn, am, .v p, .v w, .v (.int i), .v (.int g), .v (hand dn p w g), a8, a9] M := by
  have t0 : ∀ p w, call P.pr (n + 5) none 15 [.int i, dn, p, w] M = .ok ⟨.n, A⟩ M := fun p w => tried1 hi hn
  have c' : cmpop .ne A (.lst [.str [97, 109, 111, 117, 110, 116], .str [118, 97, 108, 117, 101]]) M = some false := rfl
  have i0 : ∀ x y z : D, index (.lst [x, y, z]) (.int 0) M = .ok ⟨.f, x⟩ M := fun _ _ _ => rfl
  have i1 : ∀ x y z : D, index (.lst [x, y, z]) (.int 1) M = .ok ⟨.f, y⟩ M := fun _ _ _ => rfl
  have i2 : ∀ x y z : D, index (.lst [x, y, z]) (.int 2) M = .ok ⟨.f, z⟩ M := fun _ _ _ => rfl
  cases a5 with
  | s d => cases h
  | _ => rcases hg with rfl | rfl | rfl <;> simp [ex, ev, evs, evb, VM.start, bind_ok, bind_ex, bw_ok, bw_ex, fz_f, fz_n, fz_ex, bl_ok, bl_ex, on_ok, on_ex, next_nx, next_rt, next_ex, res_nx, res_rt, res_ex, out_f, out_n, out_b, okB_some, okI_some, okO_some, ok1_eq, okn_eq, okL_some, add_int, sub_int, mul_int, fdiv_int, mod_int, lt_int, le_int, gt_int, ge_int, eq_int, ne_int, eq_str, ne_str, is_non, isn_non, abs_int, int_int, int_bl, divmod_ok, pfHot, store, isS, noS, setE, isN, Tg.bind, Tg.binds, Tg.is, evIt, forF, isTn, line, b__law_refused_0, i0, i1, i2, t0, c', hand]
theorem body1 {sc dn p w : D} {am : Int} {x : D} {o : D} {a5 a6 a7 : SV} (h : BadP M x ∨ ((x = .int 0 ∨ x = .int 20000) ∧ BadW M o)) :
    ex tab (call P.pr (n + 5)) none b__law_refused_1 [.v sc, .v dn, .v (.int am), .v p, .v w, a5, a6, a7, .v x, .v o] M = .nx [.v sc, .v dn, .v (.int am), .v p, .v w, a5, a6, a7, .v x, .v o] M := by
  have c' : cmpop .ne B (.lst [.str [115, 104, 97, 114, 101], .str [118, 97, 108, 117, 101]]) M = some false := rfl
  simp [ex, ev, evs, evb, VM.start, bind_ok, bind_ex, bw_ok, bw_ex, fz_f, fz_n, fz_ex, bl_ok, bl_ex, on_ok, on_ex, next_nx, next_rt, next_ex, res_nx, res_rt, res_ex, out_f, out_n, out_b, okB_some, okI_some, okO_some, ok1_eq, okn_eq, okL_some, add_int, sub_int, mul_int, fdiv_int, mod_int, lt_int, le_int, gt_int, ge_int, eq_int, ne_int, eq_str, ne_str, is_non, isn_non, abs_int, int_int, int_bl, divmod_ok, pfHot, store, isS, noS, setE, isN, Tg.bind, Tg.binds, Tg.is, evIt, forF, isTn, line, b__law_refused_1, tried2 (n := n) (a := am) h, c']
theorem r_refused (xs : List Int) : call P.pr (n + 6) none 16 [.scr (xs.map .int)] M = .ok ⟨.f, .bl true⟩ M := by
  obtain ⟨m3, ⟨b3, c3⟩, h3⟩ := r_mix (n := n + 3) (hot := none) (M := M) xs 3 (by decide) (by decide)
  obtain ⟨m4, ⟨b4, c4⟩, h4⟩ := r_mix (n := n + 3) (hot := none) (M := M) xs 4 (by decide) (by decide)
  obtain ⟨m5, ⟨b5, c5⟩, h5⟩ := r_mix (n := n + 3) (hot := none) (M := M) xs 5 (by decide) (by decide)
  obtain ⟨m6, ⟨b6, c6⟩, h6⟩ := r_mix (n := n + 3) (hot := none) (M := M) xs 6 (by decide) (by decide)
  obtain ⟨am, ha⟩ := r_amount (n := n + 4) (hot := none) (M := M) b4 c4
  obtain ⟨p, hp, hp'⟩ := r_noparts (n := n + 4) (M := M) b5 c5
  obtain ⟨w, hw, hw'⟩ := r_noway (n := n + 4) (M := M) b6 c6
  obtain ⟨dn, hd, md⟩ := ix_lst (xs := [.bl true, .non, .str [53], .lst [.int 5], .tup [.int 1], .bl false, .dct [] [], .str [], .str [49, 46, 48, 48], .tup []]) M (i := m3 % 10) (by omega) (by simp; omega)
  have hn : NoI M dn := by
    simp only [List.mem_cons, List.not_mem_nil, or_false] at md
    rcases md with rfl | rfl | rfl | rfl | rfl | rfl | rfl | rfl | rfl | rfl <;> exact ⟨_, rfl, by decide⟩
  have s1 : BadP M p ∨ ((p = .int 0 ∨ p = .int 20000) ∧ BadW M w) := .inl hp
  have s2 : ∀ o, BadP M p ∨ ((p = .int 0 ∨ p = .int 20000) ∧ BadW M o) := fun _ => .inl hp
  have s3 : BadP M (.int 20000) ∨ (((D.int 20000) = .int 0 ∨ (D.int 20000) = .int 20000) ∧ BadW M w) := .inr ⟨.inr rfl, hw⟩
  have s4 : BadP M (.int 0) ∨ (((D.int 0) = .int 0 ∨ (D.int 0) = .int 20000) ∧ BadW M w) := .inr ⟨.inl rfl, hw⟩
  have c' : cmpop .eq B (.lst [.str [115, 104, 97, 114, 101], .str [118, 97, 108, 117, 101]]) M = some true := rfl
  have it : ∀ ds, items (.tup ds) M = some ds := fun _ => rfl
  have st : ∀ ds xs M, still (.tup ds) xs M = true := fun _ _ _ => rfl
  have b0 : ∀ {sc p w : D} {i g : Int} {a5 a8 a9 am : SV}, (i = 0 ∨ i = 1 ∨ i = 2) → (g = 0 ∨ g = 1 ∨ g = 2) → isS (some a5) = false →
    ex tab (call P.pr (n + 5)) none b__law_refused_0 [.v sc, .v dn, am, .v p, .v w, .v (.int i), .v (.int g), a5, a8, a9] M = .nx [.v sc, .v dn, am, .v p, .v w, .v (.int i), .v (.int g), .v (hand dn p w g), a8, a9] M := fun hi hg h => body0 hn hi hg h
  have b00 := fun {sc p w a8 a9 am} => @b0 sc p w 0 0 .u a8 a9 am (.inl rfl) (.inl rfl) rfl
  have b10 := fun {sc p w a8 a9 am d} => @b0 sc p w 1 0 (.v d) a8 a9 am (.inr (.inl rfl)) (.inl rfl) rfl
  have b20 := fun {sc p w a8 a9 am d} => @b0 sc p w 2 0 (.v d) a8 a9 am (.inr (.inr rfl)) (.inl rfl) rfl
  have b11 := fun {sc p w a8 a9 am d} => @b0 sc p w 1 1 (.v d) a8 a9 am (.inr (.inl rfl)) (.inr (.inl rfl)) rfl
  have b21 := fun {sc p w a8 a9 am d} => @b0 sc p w 2 1 (.v d) a8 a9 am (.inr (.inr rfl)) (.inr (.inl rfl)) rfl
  have b22 := fun {sc p w a8 a9 am d} => @b0 sc p w 2 2 (.v d) a8 a9 am (.inr (.inr rfl)) (.inr (.inr rfl)) rfl
  simp [ex, ev, evs, evb, VM.start, bind_ok, bind_ex, bw_ok, bw_ex, fz_f, fz_n, fz_ex, bl_ok, bl_ex, on_ok, on_ex, next_nx, next_rt, next_ex, res_nx, res_rt, res_ex, out_f, out_n, out_b, okB_some, okI_some, okO_some, ok1_eq, okn_eq, okL_some, add_int, sub_int, mul_int, fdiv_int, mod_int, lt_int, le_int, gt_int, ge_int, eq_int, ne_int, eq_str, ne_str, is_non, isn_non, abs_int, int_int, int_bl, divmod_ok, pfHot, store, isS, noS, setE, isN, Tg.bind, Tg.binds, Tg.is, evIt, forF, isTn, line, go__law_refused, c__law_refused, h3, h4, h5, h6, ha, hp', hw', hd, it, st, forL, b00, b10, b20, b11, b21, b22, body1 (s2 _), body1 s3, body1 s4, tried3 hw, c']
theorem law_body {sc : D} {a b p tn x : Int} {s7 : SV} (hp : 0 ≤ p ∧ p ≤ 20000) (ht : 0 ≤ tn ∧ tn < 2147483647) (hk : 0 ≤ x ∧ x < 4) (h7 : isS (some s7) = false) :
    ∃ w, ex tab (call P.pr (n + 4)) none b_law_0 [.v sc, .v (.int a), .v (.int b), .v (.int p), .v (.int tn), .v (.lst ways), .v (.int x), s7] M = .nx [.v sc, .v (.int a), .v (.int b), .v (.int p), .v (.int tn), .v (.lst ways), .v (.int x), .v w] M := by
  obtain ⟨w, hw, mw⟩ := ix_lst (xs := ways) M (i := (tn + x * (1 + 2 * (tn / 4 % 2))) % 4) (by omega) (by simp [ways]; omega)
  obtain ⟨r1, e1, f1⟩ := r_round (n := n + 1) (M := M) (a := a) mw
  obtain ⟨r2, e2, f2⟩ := r_share (n := n) (M := M) (a := b) (p := p) mw hp.1 hp.2
  have hm : mulOk b p = true := small_mul_r (small_in (by omega) (by omega))
  have m2 : ∀ i, mulOk 2 i = true := fun i => small_mul_l (by decide)
  have mx : ∀ i, mulOk x i = true := fun i => small_mul_l (small_in (by omega) (by omega))
  refine ⟨w, ?_⟩
  cases s7 with
  | s d => cases h7
  | _ => simp [ex, ev, evs, evb, VM.start, bind_ok, bind_ex, bw_ok, bw_ex, fz_f, fz_n, fz_ex, bl_ok, bl_ex, on_ok, on_ex, next_nx, next_rt, next_ex, res_nx, res_rt, res_ex, out_f, out_n, out_b, okB_some, okI_some, okO_some, ok1_eq, okn_eq, okL_some, add_int, sub_int, mul_int, fdiv_int, mod_int, lt_int, le_int, gt_int, ge_int, eq_int, ne_int, eq_str, ne_str, is_non, isn_non, abs_int, int_int, int_bl, divmod_ok, pfHot, store, isS, noS, setE, isN, Tg.bind, Tg.binds, Tg.is, evIt, forF, isTn, line, b_law_0, m2, mx, hw, e1, f1, e2, f2, hm]
theorem law_holds (xs : List Int) : call P.pr (n + 7) none n_law [.scr (xs.map .int)] M = .ok ⟨.f, .bl true⟩ M := by
  obtain ⟨m0, ⟨b0, c0⟩, h0⟩ := r_mix (n := n + 4) (hot := none) (M := M) xs 0 (by decide) (by decide)
  obtain ⟨m1, ⟨b1, c1⟩, h1⟩ := r_mix (n := n + 4) (hot := none) (M := M) xs 1 (by decide) (by decide)
  obtain ⟨m2, ⟨b2, c2⟩, h2⟩ := r_mix (n := n + 4) (hot := none) (M := M) xs 2 (by decide) (by decide)
  obtain ⟨m7, ⟨b7, c7⟩, h7⟩ := r_mix (n := n + 4) (hot := none) (M := M) xs 7 (by decide) (by decide)
  obtain ⟨a, ha⟩ := r_amount (n := n + 5) (hot := none) (M := M) b0 c0
  obtain ⟨b, hb⟩ := r_amount (n := n + 5) (hot := none) (M := M) b1 c1
  obtain ⟨p, hp, hp'⟩ := r_parts (n := n + 5) (hot := none) (M := M) b2 c2
  have hm : mulOk b p = true := small_mul_r (small_in (by omega) (by omega))
  obtain ⟨σ, e, ⟨x, y, _, rfl⟩⟩ := forL_keep (M := M) (c := still .non (upTo (fun k => 0 + (k : Int)) 4)) (f := forF (.n 6) (ex tab (call P.pr (n + 6)) none b_law_0)) (xs := upTo (fun k => 0 + (k : Int)) 4)
    (P := fun σ => ∃ a6 a7, (isS (some a6) = false ∧ isS (some a7) = false) ∧ σ = [.v (.scr (xs.map .int)), .v (.int a), .v (.int b), .v (.int p), .v (.int m7), .v (.lst ways), a6, a7]) rfl
    (fun x hx σ ⟨a6, a7, ⟨i6, i7⟩, e⟩ => by
      obtain ⟨k, hk, rfl⟩ : ∃ k : Int, (0 ≤ k ∧ k < 4) ∧ x = .int k := by
        unfold upTo at hx
        obtain ⟨j, hj, rfl⟩ := List.mem_map.mp hx
        have := List.mem_range.mp hj
        exact ⟨0 + (j : Int), ⟨by omega, by omega⟩, rfl⟩
      subst e
      obtain ⟨w, hw⟩ := law_body (n := n + 2) (M := M) (sc := .scr (xs.map .int)) (a := a) (b := b) (p := p) (tn := m7) (x := k) (s7 := a7) hp ⟨b7, c7⟩ hk i7
      refine ⟨_, ?_, ⟨.v (.int k), .v w, ⟨rfl, rfl⟩, rfl⟩⟩
      cases a6 with
      | s d => cases i6
      | _ => simp [ex, ev, evs, evb, VM.start, bind_ok, bind_ex, bw_ok, bw_ex, fz_f, fz_n, fz_ex, bl_ok, bl_ex, on_ok, on_ex, next_nx, next_rt, next_ex, res_nx, res_rt, res_ex, out_f, out_n, out_b, okB_some, okI_some, okO_some, ok1_eq, okn_eq, okL_some, add_int, sub_int, mul_int, fdiv_int, mod_int, lt_int, le_int, gt_int, ge_int, eq_int, ne_int, eq_str, ne_str, is_non, isn_non, abs_int, int_int, int_bl, divmod_ok, pfHot, store, isS, noS, setE, isN, Tg.bind, Tg.binds, Tg.is, evIt, forF, isTn, line, hw]) (σ := [.v (.scr (xs.map .int)), .v (.int a), .v (.int b), .v (.int p), .v (.int m7), .v (.lst ways), .u, .u]) ⟨.u, .u, ⟨rfl, rfl⟩, rfl⟩
  have nd : ∀ i : Int, call P.pr (n + 6) none 3 [.int i] M = .ok ⟨.f, .non⟩ M := fun i => r_needi (n := n + 4)
  have rf := r_refused (n := n) (M := M) xs
  have wy : D.lst [.str [100, 111, 119, 110], .str [117, 112], .str [110, 101, 97, 114], .str [101, 118, 101, 110]] = .lst ways := rfl
  have up : rng1 (.int 4) = some (upTo (fun k => 0 + (k : Int)) 4) := rfl
  simp only [ways, Int.zero_add] at e up
  simp [ex, ev, evs, evb, VM.start, bind_ok, bind_ex, bw_ok, bw_ex, fz_f, fz_n, fz_ex, bl_ok, bl_ex, on_ok, on_ex, next_nx, next_rt, next_ex, res_nx, res_rt, res_ex, out_f, out_n, out_b, okB_some, okI_some, okO_some, ok1_eq, okn_eq, okL_some, add_int, sub_int, mul_int, fdiv_int, mod_int, lt_int, le_int, gt_int, ge_int, eq_int, ne_int, eq_str, ne_str, is_non, isn_non, abs_int, int_int, int_bl, divmod_ok, pfHot, store, isS, noS, setE, isN, Tg.bind, Tg.binds, Tg.is, evIt, forF, isTn, line, n_law, go_law, c_law, h0, h1, h2, h7, ha, hb, hp', hm, up, e, nd, rf]
end VM.K01
namespace VM.K01
open PySem PySem.W
abbrev R : OpenRow := OpenLaw.row PySem.Challenge.rw_coinroll_k01_shares_rounded
def fns : List He.DefD := P.fs.map fun f => defD f.1
def kc (K : Frag) : Bool := skC P K
abbrev hk : Hook := He.hookX 4 [] fns [] [] kc
def ob (s : SharedT) : He.AlX := He.obsX 4 [] fns [] [] kc (HandSHeadRun.getT s)
theorem ob_eq (s : SharedT) : ob s = hk.obs s.abs := He.obsX_eq (HandSHeadRun.getT_eq s)
theorem run (w : World) : HandSHeadRun.RunEq R (view R.prog [place]) hk ob 6000 loose w := by
  intro os
  kernel_rfl
theorem law_true : ∀ ns : List Int, ns.length ≤ 63 → ∃ kd M, call P.pr 40 none n_law [.scr (ns.map .int)] [] = .ok ⟨kd, .bl true⟩ M := fun ns _ => ⟨_, _, law_holds (n := 33) ns⟩
end VM.K01
open PySem PySem.W PySem.Calls PyProof.Rows
theorem PySem.Challenge.cw_coinroll_k01_shares_rounded_holds : PySem.Challenge.rw_coinroll_k01_shares_rounded.Holds := by
  w_on; o_law
  refine HandSHeadRun.head_any (r := VM.K01.R) (q := view VM.K01.R.prog [VM.K01.place]) (H := VM.K01.hk) (ob := VM.K01.ob) (M := 6000) (loose := VM.K01.loose) (d := HandSHeadRun.topDef VM.K01.R.prog VM.K01.place) (kwd := []) VM.K01.ob_eq
    (by kernel_rfl) (fun s => by kernel_rfl) VM.K01.run (by kernel_rfl) (by kernel_rfl) (by kernel_rfl) (by rfl) (by first | assumption | decide +kernel) (by decide +kernel) ⟨rfl, rfl, rfl, rfl, rfl, by decide +kernel⟩ ?hw ?hc
  case hw => w_witness2
  case hc => exact VM.law_end (P := VM.K01.P) (l := PySem.Challenge.rw_coinroll_k01_shares_rounded) (x := "_law_script") (m := 63) (k := 40) (f := VM.K01.n_law) rfl (by decide) (by decide) (by kernel_rfl) ⟨rfl, by decide, by decide⟩ VM.K01.ok (hy := rfl) (by kernel_rfl) (by rfl) VM.K01.law_true
