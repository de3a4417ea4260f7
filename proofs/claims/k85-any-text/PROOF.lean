import PyProof.Rows.All
import HandS.ForMost
import HandS.Exc
import HandS.TryMany
import HandS.ExcInit
import HandS.Lambda
import HandS.Wide
import HandS.Flow
import KE.KDictKeyed
import HandS.TupAny
import HandS.TupMul
import HandS.Style
import HandS.IsInst
import KE.IntTextLaws
import HandS.RaiseMore
import PyProof.ReprRoads
import PyProof.ReprText
import PyProof.ListStr
import HandS.Zip
import HandS.Iter
import KE.GoesMore
import HandS.ExcField
import KE.KExcSuper
import HandS.Nested
import PyProof.InstStoreFacts
import HandS.EndTab
import HandS.HeadHook4
import HandS.HeadWalk
import HandS.Head0
import HandS.Head1
import HandS.Head2
import KE.KStateDown
import PySem.Challenge.RW_worksward_k85_any_text_as_a_thing
section
/-! EvA: a small deterministic evaluator for the fragment of Python that the program and its laws use. Plain Lean, no model in sight. -/
set_option autoImplicit false
namespace Ev

/-- data: what never changes -/
inductive D where
  | non
  | bl (b : Bool)
  | int (i : Int)
  | str (s : List Nat)
  | tup (xs : List D)
  | lst (xs : List D)
  | dct (ks vs : List D)
  deriving Inhabited

/-- what a name may hold: data; a cell (a list or dict that may change); the thunk that was handed over -/
inductive PV where
  | d (x : D)
  | ref (n : Nat)
  | thk
  deriving Inhabited

inductive Cell where
  | lst (xs : List D)
  | dct (ks vs : List D)
  | rws (ns : List Nat)                 -- a list of cells
  | dead
  deriving Inhabited

abbrev Heap := List Cell

inductive Res (α : Type) where
  | ok (a : α) (h : Heap)
  | exc (c : Nat) (pl : List D) (h : Heap)
  | bad

def Res.bind {α β : Type} (r : Res α) (f : α → Heap → Res β) : Res β :=
  match r with
  | .ok a h => f a h
  | .exc c pl h => .exc c pl h
  | .bad => .bad

@[simp] theorem Res.bind_ok {α β : Type} (a : α) (h : Heap) (f : α → Heap → Res β) : Res.bind (.ok a h) f = f a h := rfl
@[simp] theorem Res.bind_exc {α β : Type} (c : Nat) (pl : List D) (h : Heap) (f : α → Heap → Res β) : Res.bind (.exc c pl h) f = .exc c pl h := rfl
@[simp] theorem Res.bind_bad {α β : Type} (f : α → Heap → Res β) : Res.bind .bad f = .bad := rfl

/-- no exception may leave (a comprehension's block) -/
def Res.nox {α : Type} (r : Res α) : Res α :=
  match r with
  | .exc _ _ _ => .bad
  | r => r
@[simp] theorem Res.nox_ok {α : Type} (a : α) (h : Heap) : Res.nox (.ok a h) = .ok a h := rfl

/-! ### data -/
namespace D
mutual
/-- Python's == of data without dicts -/
def eq : D → D → Bool
  | .non, .non => true
  | .bl a, .bl b => a == b
  | .bl a, .int j => (if a then 1 else 0) == j
  | .int i, .bl b => i == (if b then 1 else 0)
  | .int i, .int j => i == j
  | .str s, .str t => s == t
  | .tup xs, .tup ys => eqs xs ys
  | .lst xs, .lst ys => eqs xs ys
  | _, _ => false
def eqs : List D → List D → Bool
  | [], [] => true
  | x :: xs, y :: ys => eq x y && eqs xs ys
  | _, _ => false
end
mutual
def depth : D → Nat
  | .tup xs => depths xs + 1
  | .lst xs => depths xs + 1
  | .dct ks vs => max (depths ks) (depths vs) + 1
  | _ => 0
def depths : List D → Nat
  | [] => 0
  | x :: xs => max (depth x) (depths xs)
end
mutual
/-- no dict in it -/
def lay : D → Bool
  | .str s => s.all fun c => decide (c < 1114112)
  | .tup xs => lays xs
  | .lst xs => lays xs
  | .dct _ _ => false
  | _ => true
def lays : List D → Bool
  | [] => true
  | x :: xs => lay x && lays xs
end
mutual
/-- a dict in it -/
def hasD : D → Bool
  | .tup xs => hasDs xs
  | .lst xs => hasDs xs
  | .dct _ _ => true
  | _ => false
def hasDs : List D → Bool
  | [] => false
  | x :: xs => hasD x || hasDs xs
end
mutual
/-- a list in it -/
def hasL : D → Bool
  | .tup xs => hasLs xs
  | .lst _ => true
  | .dct ks vs => hasLs ks || hasLs vs
  | _ => false
def hasLs : List D → Bool
  | [] => false
  | x :: xs => hasL x || hasLs xs
end
/-- the kinds that isinstance asks for -/
inductive Ty where | int | bool | str | tuple | list | dict
  deriving DecidableEq
def isa : D → Ty → Bool
  | .bl _, .bool => true
  | .bl _, .int => true
  | .int _, .int => true
  | .str _, .str => true
  | .tup _, .tuple => true
  | .lst _, .list => true
  | .dct _ _, .dict => true
  | _, _ => false
/-- truth -/
def tru : D → Bool
  | .non => false
  | .bl b => b
  | .int i => i != 0
  | .str s => !s.isEmpty
  | .tup xs => !xs.isEmpty
  | .lst xs => !xs.isEmpty
  | .dct ks _ => !ks.isEmpty
end D

/-- the greatest number of items -/
def line : Nat := 16777216

def fits {α : Type} (xs : List α) : Bool := decide (xs.length ≤ line)

/-! ### values -/
def view (v : PV) (h : Heap) : Option D :=
  match v with
  | .d x => some x
  | .ref n => match h[n]? with
    | some (.lst xs) => some (.lst xs)
    | some (.dct ks vs) => some (.dct ks vs)
    | _ => none
  | .thk => none
@[simp] theorem view_d (x : D) (h : Heap) : view (.d x) h = some x := rfl

/-- a value as data that is seen at once, and not kept -/
def look {α : Type} (v : PV) (h : Heap) (k : D → Res α) : Res α :=
  match view v h with
  | some x => k x
  | none => .bad
@[simp] theorem look_d {α : Type} (x : D) (h : Heap) (k : D → Res α) : look (.d x) h k = k x := rfl
/-- truth, but of dicts -/
def truD : D → Option Bool
  | .dct _ _ => none
  | x => some x.tru
/-- a value as a test -/
def test {α : Type} (v : PV) (h : Heap) (k : Bool → Res α) : Res α :=
  match view v h with
  | some x => match truD x with
    | some b => k b
    | none => .bad
  | none => .bad
/-- a value that is kept must be data -/
def keep {α : Type} (v : PV) (k : D → Res α) : Res α :=
  match v with
  | .d x => k x
  | _ => .bad
@[simp] theorem keep_d {α : Type} (x : D) (k : D → Res α) : keep (.d x) k = k x := rfl
def keeps : List PV → Option (List D)
  | [] => some []
  | .d x :: r => match keeps r with
    | some xs => some (x :: xs)
    | none => none
  | _ :: _ => none

/-- what is there -/
def opt {α β : Type} (o : Option β) (f : β → Res α) : Res α :=
  match o with
  | some x => f x
  | none => .bad
@[simp] theorem opt_some {α β : Type} (x : β) (f : β → Res α) : opt (some x) f = f x := rfl
@[simp] theorem opt_none {α β : Type} (f : β → Res α) : opt (none : Option β) f = .bad := rfl
def intD : D → Option Int
  | .int i => some i
  | _ => none
def lstD : D → Option (List D)
  | .lst xs => some xs
  | _ => none
def tupD : D → Option (List D)
  | .tup xs => some xs
  | _ => none
@[simp] theorem intD_int (i : Int) : intD (.int i) = some i := rfl
@[simp] theorem lstD_lst (i : List D) : lstD (.lst i) = some i := rfl
@[simp] theorem tupD_tup (i : List D) : tupD (.tup i) = some i := rfl
def refP : PV → Option Nat
  | .ref n => some n
  | _ => none
@[simp] theorem refP_ref (n : Nat) : refP (.ref n) = some n := rfl
def rwsOf (v : PV) (h : Heap) : Option (List Nat) :=
  match v with
  | .ref n => match h[n]? with | some (.rws ns) => some ns | _ => none
  | _ => none
@[simp] theorem rwsOf_d (x : D) (h : Heap) : rwsOf (.d x) h = none := rfl
def lstOf (n : Nat) (h : Heap) : Option (List D) := match h[n]? with | some (.lst xs) => some xs | _ => none
def dctOf (n : Nat) (h : Heap) : Option (List D × List D) := match h[n]? with | some (.dct ks vs) => some (ks, vs) | _ => none
/-- a bound that must hold -/
def need {α : Type} (c : Bool) (r : Res α) : Res α := if c then r else .bad
@[simp] theorem need_true {α : Type} (r : Res α) : need true r = r := rfl

/-! ### operations on data -/
inductive BOp where | add | sub | mul | fdiv | mod | pow
inductive COp where | eq | ne | lt | le | gt | ge | is | isNot | isin | notin

def small64 (i : Int) : Bool := decide (-(2 ^ 64) < i) && decide (i < 2 ^ 64)
def rep {α : Type} (n : Nat) (xs : List α) : List α := (List.replicate n xs).flatten

def addD : D → D → Option D
  | .int i, .int j => some (.int (i + j))
  | .str s, .str t => if s.length + t.length ≤ line then some (.str (s ++ t)) else none
  | .tup xs, .tup ys => if xs.length + ys.length ≤ line then some (.tup (xs ++ ys)) else none
  | .lst xs, .lst ys => if xs.length + ys.length ≤ line then some (.lst (xs ++ ys)) else none
  | _, _ => none
def subD : D → D → Option D
  | .int i, .int j => some (.int (i - j))
  | _, _ => none
def mulD : D → D → Option D
  | .int i, .int j => if small64 i || small64 j then some (.int (i * j)) else none
  | .tup xs, .int j => if decide (2 ≤ j) && decide (j ≤ 10000) && decide (xs.length ≤ 1000) && !xs.isEmpty then some (.tup (rep j.toNat xs)) else none
  | .str xs, .int j => if decide (2 ≤ j) && decide (j ≤ 10000) && decide (xs.length ≤ 1000) && !xs.isEmpty then some (.str (rep j.toNat xs)) else none
  | _, _ => none
def fdivD : D → D → Option D
  | .int i, .int j => if decide (0 < j) && decide (j.natAbs.log2 < 9000) then some (.int (i / j)) else none
  | _, _ => none
def modD : D → D → Option D
  | .int i, .int j => if 0 < j then some (.int (i % j)) else none
  | _, _ => none
def powD : D → D → Option D
  | .int i, .int j => if decide (0 ≤ j) && decide (j ≤ 1000000) && decide (i.natAbs < 2 ^ 64) then some (.int (i ^ j.toNat)) else none
  | _, _ => none
def binD (o : BOp) : D → D → Option D :=
  match o with
  | .add => addD
  | .sub => subD
  | .mul => mulD
  | .fdiv => fdivD
  | .mod => modD
  | .pow => powD

/-- lists of unlike length are never looked into -/
def apart : D → D → Bool
  | .lst xs, .lst ys => xs.length != ys.length
  | _, _ => false
def isStr : D → Bool
  | .str _ => true
  | _ => false
def flat : D → Bool
  | .non => true
  | .bl _ => true
  | .int _ => true
  | .str _ => true
  | _ => false
def eqD (a b : D) : Option Bool :=
  if isStr a && isStr b then some (D.eq a b) else if apart a b then some false else if a.lay && b.lay && decide (min a.depth b.depth ≤ 64) then some (D.eq a b) else none
/-- x in items -/
def inD (a : D) (ys : List D) : Option Bool :=
  if flat a && ys.all flat then some (ys.any fun y => D.eq y a)
  else if D.lays ys && a.lay && decide (min (D.depths ys) a.depth ≤ 64) then some (ys.any fun y => D.eq y a) else none
/-- keys are told apart by == -/
def keyEq (a b : D) : Option Bool := if flat a && flat b then some (D.eq a b) else none
def findKey (k : D) : List D → Option (Option Nat)
  | [] => some none
  | y :: r => match keyEq k y with
    | some true => some (some 0)
    | some false => match findKey k r with
      | some (some i) => some (some (i + 1))
      | some none => some none
      | none => none
    | none => none
/-- one sign in a text (no more is served) -/
def inS (s t : List Nat) : Option Bool :=
  match s with
  | [c] => some (t.contains c)
  | _ => none
def ltD : D → D → Option Bool
  | .int i, .int j => some (decide (i < j))
  | _, _ => none
def leD : D → D → Option Bool
  | .int i, .int j => some (decide (i ≤ j))
  | _, _ => none
def gtD : D → D → Option Bool
  | .int i, .int j => some (decide (j < i))
  | _, _ => none
def geD : D → D → Option Bool
  | .int i, .int j => some (decide (j ≤ i))
  | _, _ => none
def isinD (a : D) : D → Option Bool
  | .tup ys => inD a ys
  | .lst ys => inD a ys
  | .str t => match a with | .str s => inS s t | _ => none
  | _ => none
def isNon : D → Bool
  | .non => true
  | _ => false
def isD (a : D) : D → Option Bool
  | .non => some (isNon a)
  | .bl c => match a with | .bl b => some (b == c) | _ => none
  | _ => none
def cmpD (o : COp) (a b : D) : Option Bool :=
  match o with
  | .eq => eqD a b
  | .ne => (eqD a b).map (!·)
  | .lt => ltD a b
  | .le => leD a b
  | .gt => gtD a b
  | .ge => geD a b
  | .isin => isinD a b
  | .notin => (isinD a b).map (!·)
  | .is => isD a b
  | .isNot => (isD a b).map (!·)

/-- a place in a row of n -/
def spot (n : Nat) (i : Int) : Option Nat :=
  if 0 ≤ i then (if i < n then some i.toNat else none) else (if 0 ≤ i + n then some (i + n).toNat else none)
def sign (s : List Nat) (i : Nat) : Option D := match s[i]? with | some c => some (.str [c]) | none => none
def seqAt (xs : List D) (i : Int) : Option D := match spot xs.length i with | some k => xs[k]? | none => none
def strAt (s : List Nat) (i : Int) : Option D := match spot s.length i with | some k => sign s k | none => none
def dctAt (ks vs : List D) (k : D) : Option D := match findKey k ks with | some (some j) => vs[j]? | _ => none
def idxD (a i : D) : Option D :=
  match a with
  | .tup xs => match i with | .int i => seqAt xs i | _ => none
  | .lst xs => match i with | .int i => seqAt xs i | _ => none
  | .str s => match i with | .int i => strAt s i | _ => none
  | .dct ks vs => dctAt ks vs i
  | _ => none
/-- a bound of a slice -/
def ixL (n d : Nat) : Option Int → Nat
  | none => d
  | some v => if v < 0 then (v + (n : Int)).toNat else min v.toNat n
def sliceL {α : Type} (xs : List α) (lo hi : Option Int) : List α := (xs.drop (ixL xs.length 0 lo)).take (ixL xs.length xs.length hi - ixL xs.length 0 lo)
def sliceD (a : D) (lo hi : Option Int) : Option D :=
  match a with
  | .tup xs => some (.tup (sliceL xs lo hi))
  | .lst xs => some (.lst (sliceL xs lo hi))
  | .str xs => some (.str (sliceL xs lo hi))
  | _ => none
def revD (a : D) : Option D :=
  match a with
  | .tup xs => some (.tup xs.reverse)
  | .lst xs => some (.lst xs.reverse)
  | _ => none
def lenD (a : D) : Option Nat :=
  match a with
  | .str s => some s.length
  | .tup xs => some xs.length
  | .lst xs => some xs.length
  | _ => none
/-- what a for walks -/
def itemsD (a : D) : Option (List D) :=
  match a with
  | .tup xs => some xs
  | .lst xs => some xs
  | .str s => some (s.map fun c => .str [c])
  | _ => none
/-- all, any of a list of truths -/
def bools : List D → Option (List Bool)
  | [] => some []
  | .bl b :: r => match bools r with | some bs => some (b :: bs) | none => none
  | _ :: _ => none
def intsD : List D → Option (List Int)
  | [] => some []
  | .int b :: r => match intsD r with | some bs => some (b :: bs) | none => none
  | _ :: _ => none

/-! numbers as texts -/
def digits (n : Nat) : List Nat := (Nat.toDigits 10 n).map Char.toNat
def intText (i : Int) : List Nat := if i < 0 then 45 :: digits i.natAbs else digits i.natAbs
def valOf (s : List Nat) : Nat := s.foldl (fun a c => a * 10 + (c - 48)) 0
/-- the number that 1 to 600 figures write, perhaps behind one - -/
def readInt (s : List Nat) : Option Int :=
  let f := match s with | 45 :: r => r | _ => s
  if decide (1 ≤ f.length) && decide (f.length ≤ 600) && f.all (fun c => decide (48 ≤ c) && decide (c ≤ 57)) then
    some (match s with | 45 :: _ => -(valOf f : Int) | _ => (valOf f : Int))
  else none
def joinT (sep : List Nat) : List (List Nat) → List Nat
  | [] => []
  | [x] => x
  | x :: y :: r => x ++ sep ++ joinT sep (y :: r)
def texts : List D → Option (List (List Nat))
  | [] => some []
  | .str b :: r => match texts r with | some bs => some (b :: bs) | none => none
  | _ :: _ => none

/-! repr -/
def plainSign (c : Nat) : Bool := decide (32 ≤ c) && decide (c ≤ 126) && decide (c ≠ 39) && decide (c ≠ 92)
/-- a sign as repr tells it -/
def escS (c : Nat) : List Nat := if c = 10 then [92, 110] else [c]
def signOk (c : Nat) : Bool := plainSign c || decide (c = 10)
def escT (s : List Nat) : List Nat := s.flatMap escS
def sepT : List (List Nat) → List Nat := joinT [44, 32]
mutual
def shown : D → Option (List Nat)
  | .non => some [78, 111, 110, 101]
  | .bl true => some [84, 114, 117, 101]
  | .bl false => some [70, 97, 108, 115, 101]
  | .int i => if i.natAbs.log2 < 1920 then some (intText i) else none
  | .str s => if s.all signOk then some (39 :: (escT s ++ [39])) else none
  | .lst xs => match showns xs with
    | some ts => some (91 :: (sepT ts ++ [93]))
    | none => none
  | .tup xs => match showns xs with
    | some [t] => some (40 :: (t ++ [44, 41]))
    | some ts => some (40 :: (sepT ts ++ [41]))
    | none => none
  | .dct ks vs => match showns ks, showns vs with
    | some ts, some us => if ks.length = vs.length then some (123 :: (sepT (List.zipWith (fun t u => t ++ [58, 32] ++ u) ts us) ++ [125])) else none
    | _, _ => none
def showns : List D → Option (List (List Nat))
  | [] => some []
  | x :: xs => match shown x, showns xs with
    | some t, some ts => some (t :: ts)
    | _, _ => none
end
def reprD (x : D) : Option (List Nat) :=
  match shown x with
  | some s => if decide (s.length ≤ line) && decide (x.depth ≤ 64) && (!x.hasD || !x.hasL) then some s else none
  | none => none

end Ev
end
section
/-! EvB: the evaluator itself: expressions, statements, calls by levels. -/
set_option autoImplicit false
namespace Ev

inductive Fn where
  | len | all | any | abs | str | int | repr | tuple | list | min2 | max2 | maxL | minL
inductive Mt where
  | append | extend | pop | join

/-- what is walked: a value, range(n), range(m, n), enumerate(a), zip(a, b) -/
inductive IK where
  | val | rng | rng2 | enum | zip
inductive E where
  | slot (i : Nat)
  | lit (x : D)
  | glob (g : Nat)
  | tup (es : List E)
  | lst (mu : Bool) (es : List E)
  | rws (e : E)                          -- [[..]]: a list of one list that may change
  | dct (mu : Bool) (kvs : List E)        -- key, value, key, value ..
  | bin (o : BOp) (a b : E)
  | catM (a b : E)                      -- a + b: a list that may change
  | neg (a : E)
  | not (a : E)
  | cmp (o : COp) (a b : E)
  | chain (o1 o2 : COp) (a b c : E)
  | and (a b : E)
  | or (a b : E)
  | ite (c a b : E)
  | idx (a i : E)
  | sliL (a lo : E)
  | sliH (a hi : E)
  | sliB (a lo hi : E)
  | rev (a : E)
  | isi (a : E) (t : D.Ty)
  | call (f : Nat) (as : List E)
  | bi (f : Fn) (as : List E)
  | mt (m : Mt) (o : E) (as : List E)
  | comp (mu : Bool) (elt : E) (own : List Nat) (tg : List Nat) (ik : IK) (it : List E) (ifs : List E)
  | comp2 (mu : Bool) (elt : E) (own : List Nat) (t1 : List Nat) (k1 : IK) (i1 : List E) (c1 : List E) (t2 : List Nat) (k2 : IK) (i2 : List E) (c2 : List E)
  | lam (f : Nat) (body : E)
  | act (i : Nat)
  | frz (a : E)
  | exf (i : Nat)

inductive S where
  | asg (i : Nat) (e : E)
  | asgT (is : List Nat) (e : E)
  | par (i j : Nat) (a b : E)
  | par3 (i j k : Nat) (a b c : E)
  | sets (o i e : E)
  | expr (e : E)
  | ret (e : E)
  | ite (c : E) (a b : List S)
  | for (tg : List Nat) (ik : IK) (it : List E) (body : List S)
  | while (c : E) (body : List S)
  | raise (c : Nat) (as : List E)
  | tri (s : S) (cs : List (Nat × Option Nat)) (suites : List (List S))

/-- a name's value: what it holds, or an exception's field -/
inductive NV where
  | v (x : PV)
  | exn (pl : List D)
abbrev Env := List (Option NV)

inductive Fl where
  | next (env : Env)
  | ret (v : PV)

structure G where
  call : Nat → List PV → Heap → Res PV
  lam : Nat → (Heap → Res PV) → Heap → Res PV
  act : Heap → Res PV
  glob : Nat → Option D
  fuel : Nat
  base : Nat

def slotOf (env : Env) (i : Nat) : Option PV := match env[i]? with | some (some (.v v)) => some v | _ => none
/-- an exception's name is forgotten -/
def noExn : Option NV → Option NV
  | some (.v x) => some (.v x)
  | _ => none
/-- data alone are known where a lambda runs -/
def dataN : Option NV → Option NV
  | some (.v (.d x)) => some (.v (.d x))
  | _ => none
def dataE (env : Env) : Env := env.map dataN
def excOf (env : Env) (i : Nat) : Option D := match env[i]? with | some (some (.exn [x])) => some x | _ => none
def setEnv (env : Env) (i : Nat) (v : PV) : Env := env.set i (some (.v v))
def wipeE (env : Env) : List Nat → Env
  | [] => env
  | i :: is => (wipeE env is).set i none
def setEnvs : Env → List Nat → List D → Option Env
  | env, [], [] => some env
  | env, i :: is, x :: xs => setEnvs (setEnv env i (.d x)) is xs
  | _, _, _ => none
/-- the target of a walk: one name, or several for a tuple -/
def setTg (env : Env) (tg : List Nat) (x : D) : Option Env :=
  match tg with
  | [i] => some (setEnv env i (.d x))
  | is => match x with
    | .tup xs => setEnvs env is xs
    | _ => none

def okD (x : Option D) (h : Heap) : Res PV := match x with | some y => .ok (.d y) h | none => .bad
def okB (x : Option Bool) (h : Heap) : Res PV := match x with | some y => .ok (.d (.bl y)) h | none => .bad
def okI (x : Option Int) (h : Heap) : Res PV := match x with | some y => .ok (.d (.int y)) h | none => .bad
def okS (x : Option (List Nat)) (h : Heap) : Res PV := match x with | some y => .ok (.d (.str y)) h | none => .bad
@[simp] theorem okD_some (x : D) (h : Heap) : okD (some x) h = .ok (.d x) h := rfl
@[simp] theorem okB_some (x : Bool) (h : Heap) : okB (some x) h = .ok (.d (.bl x)) h := rfl
@[simp] theorem okI_some (x : Int) (h : Heap) : okI (some x) h = .ok (.d (.int x)) h := rfl
@[simp] theorem okS_some (x : List Nat) (h : Heap) : okS (some x) h = .ok (.d (.str x)) h := rfl

/-- the walk of a comprehension -/
def compGo (f : D → Heap → Res (Option D)) : List D → Heap → Res (List D)
  | [], h => .ok [] h
  | x :: xs, h => (f x h).bind fun y h1 => (compGo f xs h1).bind fun ys h2 =>
    match y with
    | some y => .ok (y :: ys) h2
    | none => .ok ys h2
def comp2Go (f : D → Heap → Res (List D)) : List D → Heap → Res (List D)
  | [], h => .ok [] h
  | x :: xs, h => (f x h).bind fun y h1 => (comp2Go f xs h1).bind fun ys h2 => .ok (y ++ ys) h2
def forGo (f : D → Env → Heap → Res Fl) : List D → Env → Heap → Res Fl
  | [], env, h => .ok (.next env) h
  | x :: xs, env, h => (f x env h).bind fun r h1 =>
    match r with
    | .next env' => forGo f xs env' h1
    | .ret v => .ok (.ret v) h1
def whileGo (c : Env → Heap → Res PV) (f : Env → Heap → Res Fl) : Nat → Env → Heap → Res Fl
  | 0, _, _ => .bad
  | n + 1, env, h => (c env h).bind fun v h1 => test v h1 fun b =>
    if b then (f env h1).bind fun r h2 =>
      match r with
      | .next env' => whileGo c f n env' h2
      | .ret v => .ok (.ret v) h2
    else .ok (.next env) h1

/-- built-in functions by data -/
def fnD (f : Fn) (xs : List D) : Option D :=
  match f, xs with
  | .len, [x] => (lenD x).map fun n => .int n
  | .all, [.lst xs] => (bools xs).map fun bs => .bl (bs.all id)
  | .any, [.lst xs] => (bools xs).map fun bs => .bl (bs.any id)
  | .abs, [.int i] => some (.int (if i < 0 then -i else i))
  | .str, [.int i] => if i.natAbs.log2 < 1920 then some (.str (intText i)) else none
  | .str, [.str s] => some (.str s)
  | .int, [.int i] => some (.int i)
  | .int, [.str s] => (readInt s).map .int
  | .repr, [x] => (reprD x).map .str
  | .tuple, [.lst xs] => some (.tup xs)
  | .tuple, [.tup xs] => some (.tup xs)
  | .list, [.str s] => some (.lst (s.map fun c => .str [c]))
  | .min2, [.int i, .int j] => some (.int (if j < i then j else i))
  | .max2, [.int i, .int j] => some (.int (if j > i then j else i))
  | .maxL, [.lst xs] => match intsD xs with
    | some (y :: ys) => some (.int (ys.foldl (fun a b => if b > a then b else a) y))
    | _ => none
  | .minL, [.lst xs] => match intsD xs with
    | some (y :: ys) => some (.int (ys.foldl (fun a b => if b < a then b else a) y))
    | _ => none
  | _, _ => none

def looks {α : Type} (h : Heap) : List PV → (List D → Res α) → Res α
  | [], k => k []
  | v :: r, k => look v h fun x => looks h r fun xs => k (x :: xs)

/-- methods: of a list that may change; of a text -/
def appGo (base n : Nat) (v : PV) (h : Heap) : Res PV :=
  match rwsOf (.ref n) h with
  | some ns => opt (refP v) fun m => need (decide (base ≤ n) && decide (base ≤ m) && decide (ns.length < line)) (.ok (.d .non) (h.set n (.rws (ns ++ [m]))))
  | none => opt (lstOf n h) fun xs => keep v fun x => need (decide (xs.length < line)) (.ok (.d .non) (h.set n (.lst (xs ++ [x]))))
def extGo (n : Nat) (v : PV) (h : Heap) : Res PV :=
  opt (lstOf n h) fun xs => keep v fun x => opt (lstD x) fun ys => need (decide (xs.length + ys.length ≤ line)) (.ok (.d .non) (h.set n (.lst (xs ++ ys))))
def popGo (base n : Nat) (h : Heap) : Res PV :=
  match rwsOf (.ref n) h with
  | some ns => need (decide (base ≤ n)) (opt ns[ns.length - 1]? fun m => .ok (.ref m) (h.set n (.rws ns.dropLast)))
  | none => opt (lstOf n h) fun xs => opt xs[xs.length - 1]? fun x => .ok (.d x) (h.set n (.lst xs.dropLast))
def joinD (o x : D) : Option D :=
  match o, x with
  | .str sep, .lst xs => match texts xs with
    | some ts => if (ts.map List.length).sum + ts.length * sep.length ≤ line then some (.str (joinT sep ts)) else none
    | none => none
  | _, _ => none
def mtGo (base : Nat) (m : Mt) (o : PV) (as : List PV) (h : Heap) : Res PV :=
  match m, as with
  | .append, [v] => opt (refP o) fun n => appGo base n v h
  | .extend, [v] => opt (refP o) fun n => extGo n v h
  | .pop, [] => opt (refP o) fun n => popGo base n h
  | .join, [v] => keep o fun x => look v h fun y => okD (joinD x y) h
  | _, _ => .bad

/-- what falls behind: a cell as data from now on -/
def frzGo (v : PV) (h : Heap) : Res PV :=
  match v with
  | .d x => .ok (.d x) h
  | .ref n => match h[n]? with
    | some (.lst xs) => .ok (.d (.lst xs)) (h.set n .dead)
    | _ => .bad
  | _ => .bad

def idxGo (a : PV) (i : D) (h : Heap) : Res PV :=
  match rwsOf a h with
  | some ns => opt (intD i) fun k => opt (spot ns.length k) fun j => opt ns[j]? fun m => .ok (.ref m) h
  | none => look a h fun x => okD (idxD x i) h

def putKey (k v : D) (ks vs : List D) : Option (List D × List D) :=
  if flat k then
    match findKey k ks with
    | some (some j) => some (ks, vs.set j v)
    | some none => some (ks ++ [k], vs ++ [v])
    | none => none
  else none
/-- a display: keys that are ints or texts, no two alike -/
def keyOk : D → Bool
  | .int _ => true
  | .str _ => true
  | _ => false
def dispD : List D → Option (List D × List D)
  | [] => some ([], [])
  | k :: v :: r => match dispD r with
    | some kv => if keyOk k && kv.1.all (fun y => !D.eq k y) then some (k :: kv.1, v :: kv.2) else none
    | none => none
  | _ => none
/-- what a method wants of its object -/
def strK (v : PV) : Bool :=
  match v with
  | .d (.str _) => true
  | _ => false
def lstK (v : PV) (h : Heap) : Bool :=
  match v with
  | .ref n => match h[n]? with
    | some (.lst _) => true
    | some (.rws _) => true
    | _ => false
  | _ => false
def mtK (m : Mt) (v : PV) (h : Heap) : Bool :=
  match m with
  | .join => strK v
  | _ => lstK v h

def setsGo (o : PV) (i v : D) (h : Heap) : Res Unit :=
  opt (refP o) fun n => match dctOf n h with
    | some kv => opt (putKey i v kv.1 kv.2) fun kv' => need (decide (kv'.1.length ≤ line)) (.ok () (h.set n (.dct kv'.1 kv'.2)))
    | none => opt (lstOf n h) fun xs => opt (intD i) fun k => opt (spot xs.length k) fun j => .ok () (h.set n (.lst (xs.set j v)))

def enumD : Nat → List D → List D
  | _, [] => []
  | n, x :: xs => .tup [.int n, x] :: enumD (n + 1) xs

def catD (x y : D) : Option (List D) :=
  match x, y with
  | .lst xs, .lst ys => if xs.length + ys.length ≤ line then some (xs ++ ys) else none
  | _, _ => none
/-- len of a list of cells -/
def rwsLen (f : Fn) (vs : List PV) (h : Heap) : Option Nat :=
  match f, vs with
  | .len, [.ref n] => match h[n]? with | some (.rws ns) => some ns.length | _ => none
  | _, _ => none
def biEl (f : Fn) (vs : List PV) (h : Heap) : Res PV :=
  match rwsLen f vs h with
  | some n => .ok (.d (.int n)) h
  | none => looks h vs fun xs => okD (fnD f xs) h
def biGo (f : Fn) (vs : List PV) (h : Heap) : Res PV :=
  match f with
  | .repr => opt (keeps vs) fun xs => okD (fnD f xs) h
  | _ => biEl f vs h
/-- what is walked: its items -/
def rngD (a b : Int) : Option (List D) :=
  if decide (b - a ≤ (line : Nat)) && decide (-(2 ^ 60) ≤ a) && decide (a ≤ 2 ^ 60) && decide (-(2 ^ 60) ≤ b) && decide (b ≤ 2 ^ 60) then some ((List.range (b - a).toNat).map fun k : Nat => D.int (a + (k : Int))) else none
def zipD (x y : D) : Option (List D) :=
  match x, y with
  | .tup xs, .tup ys => some (List.zipWith (fun x y => .tup [x, y]) xs ys)
  | .lst xs, .lst ys => some (List.zipWith (fun x y => .tup [x, y]) xs ys)
  | _, _ => none
def enumOf (x : D) : Option (List D) :=
  match x with
  | .lst xs => some (enumD 0 xs)
  | .tup xs => some (enumD 0 xs)
  | _ => none
def walkGo (k : IK) (vs : List PV) (h : Heap) : Res (List D) :=
  match k, vs with
  | .val, [v] => keep v fun x => opt (itemsD x) fun xs => .ok xs h
  | .rng, [v] => keep v fun x => opt (intD x) fun i => opt (rngD 0 i) fun xs => .ok xs h
  | .rng2, [v, u] => keep v fun x => keep u fun y => opt (intD x) fun i => opt (intD y) fun j => opt (rngD i j) fun xs => .ok xs h
  | .enum, [v] => keep v fun x => opt (enumOf x) fun xs => .ok xs h
  | .zip, [v, u] => keep v fun x => keep u fun y => opt (zipD x y) fun xs => .ok xs h
  | _, _ => .bad

mutual
def evalE (g : G) : E → Env → Heap → Res PV
  | .slot i, env, h => opt (slotOf env i) fun v => .ok v h
  | .lit x, _, h => .ok (.d x) h
  | .glob k, _, h => okD (g.glob k) h
  | .tup es, env, h => (evalEs g es env h).bind fun vs h1 => opt (keeps vs) fun xs => need (fits xs) (.ok (.d (.tup xs)) h1)
  | .lst mu es, env, h => (evalEs g es env h).bind fun vs h1 => opt (keeps vs) fun xs => need (fits xs) (if mu then .ok (.ref h1.length) (h1 ++ [.lst xs]) else .ok (.d (.lst xs)) h1)
  | .rws e, env, h => (evalE g e env h).bind fun v h1 => opt (refP v) fun n => need (decide (g.base ≤ n)) (.ok (.ref h1.length) (h1 ++ [.rws [n]]))
  | .dct mu kvs, env, h => (evalEs g kvs env h).bind fun vs h1 => opt (keeps vs) fun xs => opt (dispD xs) fun kv => need (decide (kv.1.length ≤ 15))
    (if mu then .ok (.ref h1.length) (h1 ++ [.dct kv.1 kv.2]) else .ok (.d (.dct kv.1 kv.2)) h1)
  | .bin o a b, env, h => (evalE g a env h).bind fun v h1 => (evalE g b env h1).bind fun u h2 => look v h2 fun x => look u h2 fun y => okD (binD o x y) h2
  | .catM a b, env, h => (evalE g a env h).bind fun v h1 => (evalE g b env h1).bind fun u h2 => look v h2 fun x => look u h2 fun y => opt (catD x y) fun zs => .ok (.ref h2.length) (h2 ++ [.lst zs])
  | .neg a, env, h => (evalE g a env h).bind fun v h1 => look v h1 fun x => opt (intD x) fun i => .ok (.d (.int (-i))) h1
  | .not a, env, h => (evalE g a env h).bind fun v h1 => test v h1 fun b => .ok (.d (.bl (!b))) h1
  | .cmp o a b, env, h => (evalE g a env h).bind fun v h1 => (evalE g b env h1).bind fun u h2 => look v h2 fun x => look u h2 fun y => okB (cmpD o x y) h2
  | .chain o1 o2 a b c, env, h => (evalE g a env h).bind fun v h1 => (evalE g b env h1).bind fun u h2 => look v h2 fun x => look u h2 fun y =>
    match cmpD o1 x y with
    | some true => (evalE g c env h2).bind fun w h3 => look u h3 fun y => look w h3 fun z => okB (cmpD o2 y z) h3
    | some false => .ok (.d (.bl false)) h2
    | none => .bad
  | .and a b, env, h => (evalE g a env h).bind fun v h1 => test v h1 fun t => if t then evalE g b env h1 else .ok v h1
  | .or a b, env, h => (evalE g a env h).bind fun v h1 => test v h1 fun t => if t then .ok v h1 else evalE g b env h1
  | .ite c a b, env, h => (evalE g c env h).bind fun v h1 => test v h1 fun t => if t then evalE g a env h1 else evalE g b env h1
  | .idx a i, env, h => (evalE g a env h).bind fun v h1 => (evalE g i env h1).bind fun u h2 => look u h2 fun y => idxGo v y h2
  | .sliL a lo, env, h => (evalE g a env h).bind fun v h1 => (evalE g lo env h1).bind fun u h2 => look v h2 fun x => look u h2 fun y => opt (intD y) fun i => okD (sliceD x (some i) none) h2
  | .sliH a hi, env, h => (evalE g a env h).bind fun v h1 => (evalE g hi env h1).bind fun u h2 => look v h2 fun x => look u h2 fun y => opt (intD y) fun i => okD (sliceD x none (some i)) h2
  | .sliB a lo hi, env, h => (evalE g a env h).bind fun v h1 => (evalE g lo env h1).bind fun u h2 => look u h2 fun y => opt (intD y) fun i =>
    (evalE g hi env h2).bind fun w h3 => look v h3 fun x => look w h3 fun z => opt (intD z) fun j => okD (sliceD x (some i) (some j)) h3
  | .rev a, env, h => (evalE g a env h).bind fun v h1 => look v h1 fun x => okD (revD x) h1
  | .isi a t, env, h => (evalE g a env h).bind fun v h1 => look v h1 fun x => .ok (.d (.bl (x.isa t))) h1
  | .call f as, env, h => (evalEs g as env h).bind fun vs h1 => g.call f vs h1
  | .bi f as, env, h => (evalEs g as env h).bind fun vs h1 => biGo f vs h1
  | .mt m o as, env, h => (evalE g o env h).bind fun v h1 => need (mtK m v h1) <| (evalEs g as env h1).bind fun vs h2 => mtGo g.base m v vs h2
  | .comp mu elt own tg ik it ifs, env, h => (evalEs g it env h).bind fun ws h0 => (walkGo ik ws h0).bind fun xs h1 =>
    (compGo (fun x h => opt (setTg (wipeE env own) tg x) fun env' =>
      (evalT g ifs env' h).bind fun b h' => if b then (evalE g elt env' h').bind fun v h'' => keep v fun y => .ok (some y) h'' else .ok none h') xs h1).nox.bind fun ys h2 => need (fits ys) (if mu then .ok (.ref h2.length) (h2 ++ [.lst ys]) else .ok (.d (.lst ys)) h2)
  | .comp2 mu elt own t1 k1 i1 c1 t2 k2 i2 c2, env, h => (evalEs g i1 env h).bind fun ws h0 => (walkGo k1 ws h0).bind fun xs h1 =>
    (comp2Go (fun x h => opt (setTg (wipeE env own) t1 x) fun env1 => (evalT g c1 env1 h).bind fun b h' => if b then
        (evalEs g i2 env1 h').bind fun us h3 => (walkGo k2 us h3).bind fun ys h'' => compGo (fun y h => opt (setTg (wipeE env1 t2) t2 y) fun env2 =>
          (evalT g c2 env2 h).bind fun b h' => if b then (evalE g elt env2 h').bind fun v h'' => keep v fun z => .ok (some z) h'' else .ok none h') ys h''
      else .ok [] h') xs h1).nox.bind fun ys h2 => need (fits ys) (if mu then .ok (.ref h2.length) (h2 ++ [.lst ys]) else .ok (.d (.lst ys)) h2)
  | .lam f body, env, h => g.lam f (fun h' => evalE g body (dataE env) h') h
  | .act i, env, h => match slotOf env i with | some .thk => g.act h | _ => .bad
  | .frz a, env, h => (evalE g a env h).bind fun v h1 => frzGo v h1
  | .exf i, env, h => opt (excOf env i) fun x => .ok (.d x) h
def evalEs (g : G) : List E → Env → Heap → Res (List PV)
  | [], _, h => .ok [] h
  | e :: es, env, h => (evalE g e env h).bind fun v h1 => (evalEs g es env h1).bind fun vs h2 => .ok (v :: vs) h2
/-- tests, all of them -/
def evalT (g : G) : List E → Env → Heap → Res Bool
  | [], _, h => .ok true h
  | e :: es, env, h => (evalE g e env h).bind fun v h1 => test v h1 fun t => if t then evalT g es env h1 else .ok false h1
end

mutual
def evalS (g : G) : S → Env → Heap → Res Fl
  | .asg i e, env, h => (evalE g e env h).bind fun v h1 => .ok (.next (setEnv env i v)) h1
  | .asgT is e, env, h => (evalE g e env h).bind fun v h1 => keep v fun x => opt (tupD x) fun xs => opt (setEnvs env is xs) fun env' => .ok (.next env') h1
  | .par i j a b, env, h => (evalE g a env h).bind fun v h1 => (evalE g b env h1).bind fun u h2 => .ok (.next (setEnv (setEnv env i v) j u)) h2
  | .par3 i j k a b c, env, h => (evalE g a env h).bind fun v h1 => (evalE g b env h1).bind fun u h2 => (evalE g c env h2).bind fun w h3 => .ok (.next (setEnv (setEnv (setEnv env k w) j u) i v)) h3
  | .sets o i e, env, h => (evalE g e env h).bind fun v h1 => (evalE g o env h1).bind fun ov h2 => (evalE g i env h2).bind fun iv h3 => keep v fun x => keep iv fun y => (setsGo ov y x h3).bind fun _ h4 => .ok (.next env) h4
  | .expr e, env, h => (evalE g e env h).bind fun _ h1 => .ok (.next env) h1
  | .ret e, env, h => (evalE g e env h).bind fun v h1 => .ok (.ret v) h1
  | .ite c a b, env, h => (evalE g c env h).bind fun v h1 => test v h1 fun t => if t then evalSs g a env h1 else evalSs g b env h1
  | .for tg ik it body, env, h => (evalEs g it env h).bind fun ws h0 => (walkGo ik ws h0).bind fun xs h1 => forGo (fun x env h => opt (setTg env tg x) fun env' => evalSs g body env' h) xs env h1
  | .while c body, env, h => whileGo (fun env h => evalE g c env h) (fun env h => evalSs g body env h) g.fuel env h
  | .raise c as, env, h => (evalEs g as env h).bind fun vs h1 => opt (keeps vs) fun xs => .exc c xs h1
  | .tri s cs suites, env, h => match evalS g s env h with
    | .exc c pl h1 => evalH g c pl (env.map fun _ => none) h1 cs suites      -- behind an exception no name is known
    | r => r
def evalSs (g : G) : List S → Env → Heap → Res Fl
  | [], env, h => .ok (.next env) h
  | s :: ss, env, h => (evalS g s env h).bind fun r h1 => match r with
    | .next env' => evalSs g ss env' h1
    | .ret v => .ok (.ret v) h1
/-- an exception before the clauses -/
def evalH (g : G) (c : Nat) (pl : List D) (env : Env) (h : Heap) : List (Nat × Option Nat) → List (List S) → Res Fl
  | (k, n) :: cs, s :: ss => if k = c then
      (match n with
        | none => (evalSs g s env h).nox.bind fun r h1 => match r with | .next env' => .ok (.next (env'.map noExn)) h1 | .ret v => .ok (.ret v) h1
        | some i => (evalSs g s (env.set i (some (.exn pl))) h).nox.bind fun r h1 => match r with | .next env' => .ok (.next ((env'.map noExn).set i none)) h1 | .ret v => .ok (.ret v) h1)
    else evalH g c pl env h cs ss
  | _, _ => .exc c pl h
end

/-- a def: how many parameters and names, its body -/
structure Def where
  ps : Nat
  ns : Nat
  body : List S

def fin (r : Res Fl) : Res PV := r.bind fun f h => match f with | .next _ => .ok (.d .non) h | .ret v => .ok v h
/-- a cell that points into the first n alone -/
def fineC (n : Nat) (c : Cell) : Bool :=
  match c with
  | .rws ns => ns.all fun m => decide (m < n)
  | _ => true
/-- what is left behind a call -/
def leaveV (n : Nat) (v : PV) (h : Heap) : Res PV :=
  match v with
  | .d x => .ok (.d x) (h.take n)
  | .ref m => if m < n then .ok (.ref m) (h.take n) else match h[m]? with
    | some c => need (fineC n c) (.ok (.ref n) (h.take n ++ [c]))
    | none => .bad
  | .thk => .bad
def leave (n : Nat) (r : Res PV) : Res PV :=
  match r with
  | .ok v h => need ((h.take n).all (fineC n)) (leaveV n v h)
  | .exc c pl h => need ((h.take n).all (fineC n)) (.exc c pl (h.take n))
  | .bad => .bad

/-- the program: its defs and constants -/
structure Prog where
  defs : Nat → Option Def
  glob : Nat → Option D
  fuel : Nat

def startEnv (d : Def) (vs : List PV) : Env := vs.map (fun v => some (.v v)) ++ List.replicate (d.ns - d.ps) none

mutual
def callN (p : Prog) : Nat → Nat → List PV → Heap → Res PV
  | 0, _, _, _ => .bad
  | n + 1, f, vs, h => match p.defs f with
    | some d => if vs.length = d.ps then leave h.length (fin (evalSs ⟨callN p n, lamN p n, fun _ => .bad, p.glob, p.fuel, h.length⟩ d.body (startEnv d vs) h)) else .bad
    | none => .bad
def lamN (p : Prog) : Nat → Nat → (Heap → Res PV) → Heap → Res PV
  | 0, _, _, _ => .bad
  | n + 1, f, th, h => match p.defs f with
    | some d => if d.ps = 1 then leave h.length (fin (evalSs ⟨callN p n, lamN p n, th, p.glob, p.fuel, h.length⟩ d.body (startEnv d [.thk]) h)) else .bad
    | none => .bad
end
/-- what stands around a body at level n -/
def gAt (p : Prog) (n : Nat) (th : Heap → Res PV) (b : Nat) : G := ⟨callN p n, lamN p n, th, p.glob, p.fuel, b⟩

end Ev
end
section
/-! EvC: how the evaluator's data lie in the model's heap; the judgement. -/
set_option autoImplicit false
set_option linter.all false
set_option maxRecDepth 100000
set_option Elab.async false
namespace Ev
open PySem PySem.Spec L2

abbrev Frag := PySem.W.Frag
abbrev Hp := L2.Hp

def T (s : List Nat) : Str := ⟨s.toArray⟩

/-- a list that never changes any more -/
def SqZ (K : Frag) (H : Hp) (a : Addr) (us : List V) : Prop :=
  (∃ o, H a = some (.frz o (.lst us))) ∨
    ∃ (its : Array Value) (n : Nat), K.lookup a = some { cls := .type "list", data := .seq its n } ∧ its.size ≤ sizeLine ∧ Vals us its.toList
theorem SqZ.l {K : Frag} {H : Hp} {a : Addr} {us : List V} (h : SqZ K H a us) : SqL K H a us := by
  rcases h with ⟨o, h⟩ | h
  · exact .inl (.inr ⟨o, h⟩)
  · obtain ⟨its, n, h1, h2, h3⟩ := h
    exact .inr ⟨_, its, n, h1, rfl, rfl, rfl, h2, h3⟩

/-- tuples and what is known stay -/
structure TF (H H' : Hp) : Prop where
  tup : ∀ b xs, H b = some (.tup xs) → H' b = some (.tup xs)
  frz : ∀ b o u, H b = some (.frz o u) → H' b = some (.frz o u)
theorem TF.refl (H : Hp) : TF H H := ⟨fun _ _ h => h, fun _ _ _ h => h⟩
theorem TF.trans {H H1 H2 : Hp} (a : TF H H1) (b : TF H1 H2) : TF H H2 := ⟨fun c xs h => b.tup c xs (a.tup c xs h), fun c o u h => b.frz c o u (a.frz c o u h)⟩
/-- something else is laid or written -/
theorem TF.upd {H : Hp} {a : Addr} {o : HO} (h : ∀ xs, H a ≠ some (.tup xs)) (h' : ∀ o u, H a ≠ some (.frz o u)) : TF H (upd H a o) :=
  ⟨fun b xs e => by
    have n : b ≠ a := by rintro rfl; exact h _ e
    rw [upd_ne n]; exact e, fun b o' u e => by
    have n : b ≠ a := by rintro rfl; exact h' _ _ e
    rw [upd_ne n]; exact e⟩
theorem TF.new {H : Hp} {a : Addr} {o : HO} (h : H a = none) : TF H (L2.upd H a o) := TF.upd (fun xs e => by rw [h] at e; cases e) (fun o u e => by rw [h] at e; cases e)
theorem TF.lst {H : Hp} {a : Addr} {o : HO} {us : List V} (h : H a = some (.lst us)) : TF H (L2.upd H a o) := TF.upd (fun xs e => by rw [h] at e; cases e) (fun o u e => by rw [h] at e; cases e)
theorem SqT.tf {K : Frag} {H H' : Hp} {a : Addr} {us : List V} (t : TF H H') (h : SqT K H a us) : SqT K H' a us := by
  rcases h with (h | ⟨o, h⟩) | h
  · exact .inl (.inl (t.tup _ _ h))
  · exact .inl (.inr ⟨o, t.frz _ _ _ h⟩)
  · exact .inr h
theorem SqZ.tf {K : Frag} {H H' : Hp} {a : Addr} {us : List V} (t : TF H H') (h : SqZ K H a us) : SqZ K H' a us := by
  rcases h with ⟨o, h⟩ | h
  · exact .inl ⟨o, t.frz _ _ _ h⟩
  · exact .inr h

/-- a dict's object: its keys' and values' words, by single keys -/
def DcO (P : Program) (w : World) (o : Obj) (us ws : List V) : Prop :=
  ∃ (es : Array DictEntry) (ep : Nat) (kvs : List (Leaf × Value)), o.ExactDict ∧ o.data = .dict es ep ∧ KeysOf (leafKind P w) es ∧ Pairs (leafKind P w) es.toList kvs ∧ (kvs.map (·.1)).Nodup ∧
    Vals us (es.toList.map (·.key)) ∧ Vals ws (es.toList.map (·.val)) ∧ es.size ≤ sizeLine
/-- a key by value -/
def leafOf : D → Option Leaf
  | .non => some .none
  | .bl b => some (.num (if b then 1 else 0))
  | .int i => some (.num i)
  | .str s => some (.text (T s))
  | _ => none
/-- a dict's object, its keys up to == -/
def DcM (P : Program) (w : World) (o : Obj) (ks : List D) (ws : List V) : Prop :=
  ∃ (es : Array DictEntry) (ep : Nat) (kvs : List (Leaf × Value)), o.ExactDict ∧ o.data = .dict es ep ∧ KeysOf (leafKind P w) es ∧ Pairs (leafKind P w) es.toList kvs ∧ (kvs.map (·.1)).Nodup ∧
    ks.map leafOf = kvs.map (fun p => some p.1) ∧ Vals ws (kvs.map (·.2)) ∧ kvs.length ≤ sizeLine
def DcZ (P : Program) (w : World) (K : Frag) (H : Hp) (a : Addr) (us ws : List V) : Prop :=
  (a == sysModules) = false ∧ ∃ o, (H a = some (.frz o (.ext fun _ => True)) ∨ K.lookup a = some o) ∧ DcO P w o us ws

mutual
inductive Den (P : Program) (w : World) (K : Frag) (H : Hp) : D → V → Prop
  | non : Den P w K H .non .non
  | bl (b : Bool) : Den P w K H (.bl b) (.bl b)
  | int (i : Int) : Den P w K H (.int i) (.int i)
  | str {s : List Nat} : s.length ≤ sizeLine → Den P w K H (.str s) (.str (T s))
  | tup {a : Addr} {us : List V} {xs : List D} : SqT K H a us → Dens P w K H xs us → Den P w K H (.tup xs) (.ref a)
  | lst {a : Addr} {us : List V} {xs : List D} : SqZ K H a us → Dens P w K H xs us → Den P w K H (.lst xs) (.ref a)
  | dct {a : Addr} {us ws : List V} {ks vs : List D} : DcZ P w K H a us ws → Dens P w K H ks us → Dens P w K H vs ws → Den P w K H (.dct ks vs) (.ref a)
inductive Dens (P : Program) (w : World) (K : Frag) (H : Hp) : List D → List V → Prop
  | nil : Dens P w K H [] []
  | cons {x : D} {u : V} {xs : List D} {us : List V} : Den P w K H x u → Dens P w K H xs us → Dens P w K H (x :: xs) (u :: us)
end
theorem DcZ.tf {P : Program} {w : World} {K : Frag} {H H' : Hp} {a : Addr} {us ws : List V} (t : TF H H') (h : DcZ P w K H a us ws) : DcZ P w K H' a us ws := by
  obtain ⟨h0, o, h, d⟩ := h
  rcases h with h | h
  · exact ⟨h0, o, .inl (t.frz _ _ _ h), d⟩
  · exact ⟨h0, o, .inr h, d⟩
section
variable {P : Program} {w : World} {K : Frag} {H H' : Hp}
mutual
theorem Den.tf (t : TF H H') : ∀ {x : D} {v : V}, Den P w K H x v → Den P w K H' x v
  | _, _, .non => .non
  | _, _, .bl b => .bl b
  | _, _, .int i => .int i
  | _, _, .str s => .str s
  | _, _, .tup h d => .tup (SqT.tf t h) (Dens.tf t d)
  | _, _, .lst h d => .lst (SqZ.tf t h) (Dens.tf t d)
  | _, _, .dct h d e => .dct (DcZ.tf t h) (Dens.tf t d) (Dens.tf t e)
theorem Dens.tf (t : TF H H') : ∀ {x : List D} {v : List V}, Dens P w K H x v → Dens P w K H' x v
  | _, _, .nil => .nil
  | _, _, .cons h d => .cons (Den.tf t h) (Dens.tf t d)
end
theorem Dens.length : ∀ {xs : List D} {us : List V}, Dens P w K H xs us → xs.length = us.length
  | _, _, .nil => rfl
  | _, _, .cons _ d => by simp [Dens.length d]
theorem Dens.append : ∀ {xs ys : List D} {us ws : List V}, Dens P w K H xs us → Dens P w K H ys ws → Dens P w K H (xs ++ ys) (us ++ ws)
  | _, _, _, _, .nil, s => s
  | _, _, _, _, .cons r t, s => .cons r (Dens.append t s)
theorem Dens.take : ∀ {xs : List D} {us : List V} (n : Nat), Dens P w K H xs us → Dens P w K H (xs.take n) (us.take n)
  | _, _, 0, _ => .nil
  | _, _, _ + 1, .nil => .nil
  | _, _, n + 1, .cons r t => .cons r (Dens.take n t)
theorem Dens.drop : ∀ {xs : List D} {us : List V} (n : Nat), Dens P w K H xs us → Dens P w K H (xs.drop n) (us.drop n)
  | _, _, 0, r => r
  | _, _, _ + 1, .nil => .nil
  | _, _, n + 1, .cons _ t => Dens.drop n t
theorem Dens.get : ∀ {xs : List D} {us : List V} {i : Nat} {x : D}, Dens P w K H xs us → xs[i]? = some x → ∃ u, us[i]? = some u ∧ Den P w K H x u
  | _, _, _, _, .nil, e => by simp at e
  | _, _, 0, _, .cons r _, e => by simp at e; subst e; exact ⟨_, rfl, r⟩
  | _, _, i + 1, x, .cons _ t, e => by
    obtain ⟨u, h1, h2⟩ := Dens.get (i := i) (x := x) t (by simpa using e)
    exact ⟨u, by simpa using h1, h2⟩
theorem Dens.getV : ∀ {xs : List D} {us : List V} {i : Nat} {u : V}, Dens P w K H xs us → us[i]? = some u → ∃ x, xs[i]? = some x ∧ Den P w K H x u
  | _, _, _, _, .nil, e => by simp at e
  | _, _, 0, _, .cons r _, e => by simp at e; subst e; exact ⟨_, rfl, r⟩
  | _, _, i + 1, x, .cons _ t, e => by
    obtain ⟨u, h1, h2⟩ := Dens.getV (i := i) (u := x) t (by simpa using e)
    exact ⟨u, by simpa using h1, h2⟩
theorem Dens.set {x : D} {u : V} (r : Den P w K H x u) : ∀ {xs : List D} {us : List V} (i : Nat), Dens P w K H xs us → Dens P w K H (xs.set i x) (us.set i u)
  | _, _, _, .nil => .nil
  | _, _, 0, .cons _ t => .cons r t
  | _, _, i + 1, .cons q t => .cons q (Dens.set r i t)
theorem Dens.snoc {xs : List D} {us : List V} {x : D} {u : V} (a : Dens P w K H xs us) (b : Den P w K H x u) : Dens P w K H (xs ++ [x]) (us ++ [u]) := a.append (.cons b .nil)
theorem Dens.reverse : ∀ {xs : List D} {us : List V}, Dens P w K H xs us → Dens P w K H xs.reverse us.reverse
  | _, _, .nil => .nil
  | _, _, .cons r t => by rw [List.reverse_cons, List.reverse_cons]; exact (Dens.reverse t).snoc r
end

/-- data at once: what is seen, though it may change later -/
inductive Sees (P : Program) (w : World) (K : Frag) (H : Hp) : D → V → Prop
  | den {x : D} {v : V} : Den P w K H x v → Sees P w K H x v
  | lst {a : Addr} {us : List V} {xs : List D} : H a = some (.lst us) → Dens P w K H xs us → Sees P w K H (.lst xs) (.ref a)
  | dct {a : Addr} {ws : List V} {ks vs : List D} {o : Obj} : (a == sysModules) = false → H a = some (.ext fun h => h.get? a = some o) → DcM P w o ks ws → Dens P w K H vs ws → Sees P w K H (.dct ks vs) (.ref a)

/-- what a cell is in the heap -/
def CellOk (P : Program) (w : World) (K : Frag) (ρ : List Addr) (H : Hp) (a : Addr) : Cell → Prop
  | .lst xs => ∃ us, H a = some (.lst us) ∧ Dens P w K H xs us
  | .dct ks vs => (a == sysModules) = false ∧ ∃ o ws, H a = some (.ext fun h => h.get? a = some o) ∧ DcM P w o ks ws ∧ Dens P w K H vs ws
  | .rws ns => ∃ as : List Addr, H a = some (.lst (as.map V.ref)) ∧ as.length = ns.length ∧ ∀ (i m : Nat), ns[i]? = some m → ∃ b, as[i]? = some b ∧ ρ[m]? = some b
  | .dead => ∃ o u, H a = some (.frz o u)
structure HeapOk (P : Program) (w : World) (K : Frag) (tb : List (Addr × Str)) (ρ : List Addr) (h : Heap) (H : Hp) : Prop where
  tabs : LamX.Tabs tb H
  nd : ρ.Nodup
  len : ρ.length = h.length
  at_ : ∀ (n : Nat) (c : Cell) (a : Addr), h[n]? = some c → ρ[n]? = some a → CellOk P w K ρ H a c

/-- a value's word -/
inductive DenP (P : Program) (w : World) (K : Frag) (tv : V) (ρ : List Addr) (H : Hp) : PV → V → Prop
  | d {x : D} {v : V} : Den P w K H x v → DenP P w K tv ρ H (.d x) v
  | ref {n : Nat} {a : Addr} : ρ[n]? = some a → DenP P w K tv ρ H (.ref n) (.ref a)
  | thk : DenP P w K tv ρ H .thk tv

/-- everything tracked stays -/
def New (H H' : Hp) : Prop := ∀ b o, H b = some o → H' b = some o
theorem New.refl (H : Hp) : New H H := fun _ _ h => h
theorem New.tf {H H' : Hp} (n : New H H') : TF H H' := ⟨fun b xs h => n b _ h, fun b o u h => n b _ h⟩
theorem New.upd {H : Hp} {p : Addr} (o : HO) (h : H p = none) : New H (L2.upd H p o) := fun b o' e => by
  rw [upd_ne (ne_of_none e h)]; exact e
theorem New.upd2 {H : Hp} {p : Addr} (o o' : HO) (h : H p = none) : New H (L2.upd (L2.upd H p o) p o') := by rw [upd_upd]; exact New.upd o' h

/-- more cells; the heap's fixed part, and what is no cell, stay -/
structure Ext (ρ ρ' : List Addr) (H H' : Hp) : Prop where
  pre : ρ <+: ρ'
  tf : TF H H'
  out : ∀ b o, b ∉ ρ → H b = some o → ∃ o', H' b = some o' ∧ ((∀ ps, o ≠ .tbl ps) → o' = o)
  new : ∀ a, a ∈ ρ' → a ∉ ρ → H a = none
theorem Ext.refl (ρ : List Addr) (H : Hp) : Ext ρ ρ H H := ⟨List.prefix_refl _, TF.refl _, fun _ o _ h => ⟨o, h, fun _ => rfl⟩, fun _ h n => absurd h n⟩
theorem Ext.trans {ρ ρ1 ρ2 : List Addr} {H H1 H2 : Hp} (a : Ext ρ ρ1 H H1) (b : Ext ρ1 ρ2 H1 H2) : Ext ρ ρ2 H H2 := by
  have k : ∀ c o, c ∉ ρ → H c = some o → c ∉ ρ1 := fun c o n h m => by
    have := a.new c m n
    rw [h] at this; cases this
  refine ⟨a.pre.trans b.pre, a.tf.trans b.tf, fun c o n h => ?_, fun c m n => ?_⟩
  · obtain ⟨o1, h1, q1⟩ := a.out c o n h
    obtain ⟨o2, h2, q2⟩ := b.out c o1 (k c o n h) h1
    refine ⟨o2, h2, fun nt => ?_⟩
    have e1 := q1 nt
    subst e1
    exact q2 nt
  · by_cases h1 : c ∈ ρ1
    · exact a.new c h1 n
    · have h2 := b.new c m h1
      cases h3 : H c with
      | none => rfl
      | some o =>
        obtain ⟨o1, h4, _⟩ := a.out c o n h3
        rw [h4] at h2; cases h2
theorem Ext.nw {ρ : List Addr} {H H' : Hp} (n : New H H') : Ext ρ ρ H H' := ⟨List.prefix_refl _, n.tf, fun b o _ h => ⟨o, n b o h, fun _ => rfl⟩, fun _ h n => absurd h n⟩
theorem Ext.wr {ρ : List Addr} {H : Hp} {i : Nat} {a : Addr} {o : HO} (ha : ρ[i]? = some a) (t : TF H (upd H a o)) : Ext ρ ρ H (upd H a o) :=
  ⟨List.prefix_refl _, t, fun b o' n h => ⟨o', by
    rw [upd_ne (fun z => n (by rw [z]; exact List.mem_of_getElem? ha))]; exact h, fun _ => rfl⟩, fun _ h n => absurd h n⟩
theorem Ext.cell {ρ : List Addr} {H : Hp} {p : Addr} {o : HO} (h : H p = none) : Ext ρ (ρ ++ [p]) H (upd H p o) :=
  ⟨List.prefix_append _ _, (New.upd o h).tf, fun b o' _ e => ⟨o', New.upd o h b o' e, fun _ => rfl⟩, fun a m n => by
    rcases List.mem_append.mp m with m | m
    · exact absurd m n
    · simp at m; rw [m]; exact h⟩
theorem Ext.lst {ρ ρ' : List Addr} {H H' : Hp} {D : Addr} {us : List V} (x : Ext ρ ρ' H H') (n : D ∉ ρ) (e : H D = some (.lst us)) : H' D = some (.lst us) := by
  obtain ⟨o, h, q⟩ := x.out D _ n e
  rw [h, q fun ps z => nomatch z]
/-- no table, no code object -/
def NotTab (H : Hp) (a : Addr) : Prop := (∀ ps, H a ≠ some (.tbl ps)) ∧ ∀ q, H a ≠ some (LamX.CodeO a q)
theorem NotTab.lst {H : Hp} {a : Addr} {us : List V} (h : H a = some (.lst us)) : NotTab H a := by
  refine ⟨fun ps e => ?_, fun q e => ?_⟩
  · rw [h] at e
    cases e
  · rw [h] at e
    unfold LamX.CodeO at e
    cases e
theorem tabs_upd {tb : List (Addr × Str)} {H : Hp} {a : Addr} {o : HO} (n : NotTab H a) (t : LamX.Tabs tb H) : LamX.Tabs tb (upd H a o) := fun p hp => by
  obtain ⟨ps, h1, h2, h3⟩ := t p hp
  have np : p.1 ≠ a := fun z => n.1 ps (by rw [← z]; exact h1)
  refine ⟨ps, by rw [upd_ne np]; exact h1, h2, fun pos cv hc => ?_⟩
  obtain ⟨c, e1, e2⟩ := h3 pos cv hc
  have nc : c ≠ a := fun z => n.2 p.2 (by rw [← z]; exact e2)
  exact ⟨c, e1, by rw [upd_ne nc]; exact e2⟩
theorem pre_get {α : Type} {l l' : List α} (h : l <+: l') {n : Nat} {a : α} (e : l[n]? = some a) : l'[n]? = some a := by
  obtain ⟨r, rfl⟩ := h
  have hn : n < l.length := (List.getElem?_eq_some_iff.mp e).1
  rw [List.getElem?_append_left hn]; exact e
section
variable {P : Program} {w : World} {K : Frag} {tb : List (Addr × Str)} {tv : V} {ρ ρ' : List Addr} {H H' : Hp}
theorem DenP.ext (x : Ext ρ ρ' H H') {v : PV} {u : V} (h : DenP P w K tv ρ H v u) : DenP P w K tv ρ' H' v u := by
  cases h with
  | d h => exact .d (h.tf x.tf)
  | ref h => exact .ref (pre_get x.pre h)
  | thk => exact .thk
theorem HeapOk.sees {v : PV} {u : V} {h : Heap} {x : D} (hh : HeapOk P w K tb ρ h H) (hv : DenP P w K tv ρ H v u) (e : view v h = some x) : Sees P w K H x u := by
  cases hv with
  | d hd =>
    simp only [view_d, Option.some.injEq] at e
    subst e
    exact .den hd
  | thk => simp [view] at e
  | @ref n a ha =>
    unfold view at e
    simp only at e
    cases hc : h[n]? with
    | none => rw [hc] at e; simp at e
    | some c =>
      rw [hc] at e
      have q := hh.at_ n c _ hc ha
      cases c with
      | lst xs =>
        simp only [Option.some.injEq] at e
        subst e
        obtain ⟨us, h1, h2⟩ := q
        exact .lst h1 h2
      | dct ks vs =>
        simp only [Option.some.injEq] at e
        subst e
        obtain ⟨h0, o, ws, h1, h2, h3⟩ := q
        exact .dct h0 h1 h2 h3
      | rws ns => simp at e
      | dead => simp at e
/-- every cell's place is tracked -/
theorem HeapOk.tracked {h : Heap} (y : HeapOk P w K tb ρ h H) {a : Addr} (ha : a ∈ ρ) : ∃ o, H a = some o := by
  obtain ⟨n, hn⟩ := List.getElem?_of_mem ha
  have l : n < h.length := by rw [← y.len]; exact (List.getElem?_eq_some_iff.mp hn).1
  have q := y.at_ n _ a (List.getElem?_eq_getElem l) hn
  cases e : h[n] with
  | lst xs => rw [e] at q; obtain ⟨us, h1, _⟩ := q; exact ⟨_, h1⟩
  | dct ks vs => rw [e] at q; obtain ⟨_, o, ws, h1, _⟩ := q; exact ⟨_, h1⟩
  | rws ns => rw [e] at q; obtain ⟨as, h1, _⟩ := q; exact ⟨_, h1⟩
  | dead => rw [e] at q; obtain ⟨o, u, h1⟩ := q; exact ⟨_, h1⟩
theorem HeapOk.ne {h : Heap} (y : HeapOk P w K tb ρ h H) {a p : Addr} (ha : a ∈ ρ) (hp : H p = none) : a ≠ p := by
  obtain ⟨o, e⟩ := y.tracked ha
  exact ne_of_none e hp
end
end Ev
end
section
/-! EvD: the judgement and its composition. -/
set_option autoImplicit false
set_option linter.all false
set_option maxRecDepth 100000
set_option Elab.async false
namespace Ev
open PySem PySem.Spec L2

/-- what an except clause's name stands for -/
structure XP where
  tb : List (Addr × Str)
  p : List D → V → Hp → Prop
  mono : ∀ {H H' : Hp} {pl : List D} {v : V}, TF H H' → p pl v H → p pl v H'
def XP.no (tb : List (Addr × Str)) : XP := ⟨tb, fun _ _ _ => False, fun _ h => h⟩

/-- the fixed things of a body: what the thunk is, what an except clause's name is -/
structure Fx where
  P : Program
  w : World
  K : Frag
  tv : V
  xp : XP
section
variable {F : Fx}
abbrev Fx.den (F : Fx) (H : Hp) (x : D) (v : V) : Prop := Den F.P F.w F.K H x v
abbrev Fx.dens (F : Fx) (H : Hp) (x : List D) (v : List V) : Prop := Dens F.P F.w F.K H x v
abbrev Fx.denP (F : Fx) (ρ : List Addr) (H : Hp) (x : PV) (v : V) : Prop := DenP F.P F.w F.K F.tv ρ H x v
abbrev Fx.sees (F : Fx) (H : Hp) (x : D) (v : V) : Prop := Sees F.P F.w F.K H x v
abbrev Fx.heap (F : Fx) (ρ : List Addr) (h : Heap) (H : Hp) : Prop := HeapOk F.P F.w F.K F.xp.tb ρ h H
def Fx.nv (F : Fx) (ρ : List Addr) (H : Hp) : NV → V → Prop
  | .v x, u => F.denP ρ H x u
  | .exn pl, u => F.xp.p pl u H
theorem Fx.nv_ext {ρ ρ' : List Addr} {H H' : Hp} (x : Ext ρ ρ' H H') {n : NV} {u : V} (h : F.nv ρ H n u) : F.nv ρ' H' n u := by
  cases n with
  | v y => exact DenP.ext x h
  | exn pl => exact F.xp.mono x.tf h
def Fx.env (F : Fx) (ρ : List Addr) (H : Hp) (env : Env) (σ : L2.St) : Prop := env.length = σ.length ∧ ∀ (i : Nat) (n : NV), env[i]? = some (some n) → ∃ u, σ[i]? = some (some u) ∧ F.nv ρ H n u
theorem Fx.env_ext {ρ ρ' : List Addr} {H H' : Hp} (x : Ext ρ ρ' H H') {env : Env} {σ : L2.St} (h : F.env ρ H env σ) : F.env ρ' H' env σ :=
  ⟨h.1, fun i n e => let ⟨u, h1, h2⟩ := h.2 i n e; ⟨u, h1, F.nv_ext x h2⟩⟩
inductive Paired2 (R : PV → V → Prop) : List PV → List V → Prop
  | nil : Paired2 R [] []
  | cons {x : PV} {u : V} {xs : List PV} {us : List V} : R x u → Paired2 R xs us → Paired2 R (x :: xs) (u :: us)
abbrev Fx.denPs (F : Fx) (ρ : List Addr) (H : Hp) (x : List PV) (v : List V) : Prop := Paired2 (F.denP ρ H) x v
theorem Fx.denPs_ext {ρ ρ' : List Addr} {H H' : Hp} (x : Ext ρ ρ' H H') {xs : List PV} {us : List V} (h : F.denPs ρ H xs us) : F.denPs ρ' H' xs us := by
  induction h with
  | nil => exact .nil
  | cons a _ ih => exact .cons (DenP.ext x a) ih

end
/-- what an exception is: its class by number -/
structure Exs where
  d : Nat → List D → Value → Option Addr → Hp → Prop

/-- where the evaluator ends, seen from the model: k at a value, W at an exception -/
def Fin (F : Fx) (Xs : Exs) (W : Value → Option Addr → Hp → Prop) (ρ : List Addr) (H : Hp) {α : Type} (r : Res α) (k : α → List Addr → Heap → Hp → Prop) : Prop :=
  match r with
  | .ok a h' => ∀ ρ' H', Ext ρ ρ' H H' → F.heap ρ' h' H' → k a ρ' h' H'
  | .exc c pl h' => ∀ ρ' H' cls d, Ext ρ ρ' H H' → F.heap ρ' h' H' → Xs.d c pl cls d H' → W cls d H'
  | .bad => False
theorem Fin.mono {F : Fx} {Xs : Exs} {W : Value → Option Addr → Hp → Prop} {ρ : List Addr} {H : Hp} {α : Type} {r : Res α} {k k' : α → List Addr → Heap → Hp → Prop} (h : Fin F Xs W ρ H r k)
    (q : ∀ a ρ' h' H', Ext ρ ρ' H H' → F.heap ρ' h' H' → k a ρ' h' H' → k' a ρ' h' H') : Fin F Xs W ρ H r k' := by
  cases r with
  | ok a h' => exact fun ρ' H' x y => q a ρ' h' H' x y (h ρ' H' x y)
  | exc c pl h' => exact h
  | bad => exact h
theorem Fin.ext {F : Fx} {Xs : Exs} {W : Value → Option Addr → Hp → Prop} {ρ ρ1 : List Addr} {H H1 : Hp} {α : Type} {r : Res α} {k : α → List Addr → Heap → Hp → Prop} (x : Ext ρ ρ1 H H1) (h : Fin F Xs W ρ H r k) : Fin F Xs W ρ1 H1 r k := by
  cases r with
  | ok a h' => exact fun ρ' H' y z => h ρ' H' (x.trans y) z
  | exc c pl h' => exact fun ρ' H' cls d y z => h ρ' H' cls d (x.trans y) z
  | bad => exact h
theorem Fin.bind {F : Fx} {Xs : Exs} {W : Value → Option Addr → Hp → Prop} {ρ : List Addr} {H : Hp} {α β : Type} {r : Res α} {f : α → Heap → Res β} {k : β → List Addr → Heap → Hp → Prop} (h : Fin F Xs W ρ H (r.bind f) k) :
    Fin F Xs W ρ H r (fun a ρ' h' H' => Fin F Xs W ρ' H' (f a h') k) := by
  cases r with
  | ok a h' => exact fun ρ' H' x _ => Fin.ext x h
  | exc c pl h' => exact h
  | bad => exact h
/-- at an end that is there -/
theorem Fin.here {F : Fx} {Xs : Exs} {W : Value → Option Addr → Hp → Prop} {ρ : List Addr} {H : Hp} {α : Type} {a : α} {hp : Heap} {k : α → List Addr → Heap → Hp → Prop} (h : Fin F Xs W ρ H (.ok a hp) k) (y : F.heap ρ hp H) : k a ρ hp H :=
  h ρ H (Ext.refl _ _) y

/-- a body's surroundings: the model's context, the evaluator's, the fixed things, the exceptions, the wish -/
structure Jx where
  X : Cx
  g : G
  tv : V
  xp : XP
  Xs : Exs
  W : Value → Option Addr → Hp → Prop
abbrev fx (X : Cx) (tv : V) (xp : XP) : Fx := ⟨X.prog, X.w, X.K, tv, xp⟩
abbrev Jx.F (J : Jx) : Fx := fx J.X J.tv J.xp

/-- the reading of an expression -/
def tE (J : Jx) (e : E) : TE := fun σ H Q => ∃ env hp ρ, J.F.env ρ H env σ ∧ J.F.heap ρ hp H ∧
  Fin J.F J.Xs J.W ρ H (evalE J.g e env hp) (fun v ρ' _ H' => ∀ u, J.F.denP ρ' H' v u → Q u H')
def tEs (J : Jx) (es : List E) : TA := fun σ H Q => ∃ env hp ρ, J.F.env ρ H env σ ∧ J.F.heap ρ hp H ∧
  Fin J.F J.Xs J.W ρ H (evalEs J.g es env hp) (fun v ρ' _ H' => ∀ us, J.F.denPs ρ' H' v us → Q us H')
/-- the truth of an expression -/
def evalB (g : G) (e : E) (env : Env) (h : Heap) : Res Bool := (evalE g e env h).bind fun v h1 => test v h1 fun b => .ok b h1
def tT (J : Jx) (e : E) : TT := fun σ H Q => ∃ env hp ρ, J.F.env ρ H env σ ∧ J.F.heap ρ hp H ∧
  Fin J.F J.Xs J.W ρ H (evalB J.g e env hp) (fun b _ _ H' => Q b H')
def tTs (J : Jx) (es : List E) : TT := fun σ H Q => ∃ env hp ρ, J.F.env ρ H env σ ∧ J.F.heap ρ hp H ∧
  Fin J.F J.Xs J.W ρ H (evalT J.g es env hp) (fun b _ _ H' => Q b H')
def tS1 (J : Jx) (r : Env → Heap → Res Fl) : TS := fun D σ H => ∃ env hp ρ, J.F.env ρ H env σ ∧ J.F.heap ρ hp H ∧
  Fin J.F J.Xs J.W ρ H (r env hp) (fun f ρ' _ H' => match f with
    | .next env' => ∀ σ', J.F.env ρ' H' env' σ' → D.nx σ' H'
    | .ret v => ∀ u, J.F.denP ρ' H' v u → D.rt u H')
abbrev JE (J : Jx) (a : Expr) (e : E) : Prop := PE J.X a (tE J e)
abbrev JT (J : Jx) (a : Expr) (e : E) : Prop := PT J.X a (tT J e)
abbrev JW (J : Jx) (a : Expr) (e : E) : Prop := PW J.X a (tT J e)
abbrev JA (J : Jx) (as : List Expr) (es : List E) : Prop := PA J.X as (tEs J es)
abbrev JS (J : Jx) (a : Stmt) (s : S) : Prop := PS J.X a (tS1 J (evalS J.g s))
abbrev JSs (J : Jx) (a : List Stmt) (s : List S) : Prop := PSs J.X a (tS1 J (evalSs J.g s))

/-- what every body has -/
structure Jx.Ok (J : Jx) : Prop where
  po : PassesOwn (model J.X.prog J.X.w) J.X.A J.X.env J.X.xe
  nd : J.X.N.Nodup
  guards : J.X.A.guards = some []
  units : J.X.A.units + 200 < cLine
  tk : Takes J.X (fun cls d _ H => J.W cls d H)

/-! ### weaker readings -/
theorem _root_.L2.PE.imp {X : Cx} {e : Expr} {t t' : TE} (h : PE X e t) (q : ∀ σ H Q, t' σ H Q → t σ H Q) : PE X e t' := ⟨fun pins s σ H Q I z => h.run pins s σ H Q I (q σ H Q z)⟩
theorem _root_.L2.PT.imp {X : Cx} {e : Expr} {t t' : TT} (h : PT X e t) (q : ∀ σ H Q, t' σ H Q → t σ H Q) : PT X e t' := ⟨fun pins s σ H Q I z => h.run pins s σ H Q I (q σ H Q z)⟩
theorem _root_.L2.PW.imp {X : Cx} {e : Expr} {t t' : TT} (h : PW X e t) (q : ∀ σ H Q, t' σ H Q → t σ H Q) : PW X e t' := ⟨fun wh pins s σ H Q I z => h.run wh pins s σ H Q I (q σ H Q z)⟩
theorem _root_.L2.PA.imp {X : Cx} {e : List Expr} {t t' : TA} (h : PA X e t) (q : ∀ σ H Q, t' σ H Q → t σ H Q) : PA X e t' := ⟨fun pos pins s σ H Q I z => h.run pos pins s σ H Q I (q σ H Q z)⟩
theorem _root_.L2.PS.imp {X : Cx} {e : Stmt} {t t' : TS} (h : PS X e t) (q : ∀ D σ H, t' D σ H → t D σ H) : PS X e t' := ⟨fun pins s σ H D I z => h.run pins s σ H D I (q D σ H z)⟩
theorem _root_.L2.PSs.imp {X : Cx} {e : List Stmt} {t t' : TS} (h : PSs X e t) (q : ∀ D σ H, t' D σ H → t D σ H) : PSs X e t' := ⟨fun pins s σ H D I z => h.run pins s σ H D I (q D σ H z)⟩

/-! ### what is tracked as a list becomes known -/
theorem _root_.L2.Inv.known {X : Cx} {pins : List (Addr × Obj)} {σ : L2.St} {H : Hp} {s : Shared} {a : Addr} {us : List V} (I : Inv X pins σ H s) (h : H a = some (.lst us)) :
    ∃ o, Inv X pins σ (upd H a (.frz o (.lst us))) s := by
  obtain ⟨z, its, n, r, e⟩ := I.hok a _ h
  refine ⟨{ cls := .type "list", data := .seq its.toArray n }, ?_⟩
  have hne : ∀ b, H b = none → b ≠ a := fun b n z => by rw [z, h] at n; cases n
  have hnt : ∀ b xs, H b = some (.tup xs) → b ≠ a := fun b xs n z => by rw [z, h] at n; cases n
  have hno : ∀ b c, H b = some (.own c) → b ≠ a := fun b xs n z => by rw [z, h] at n; cases n
  have hnf : ∀ b o xs, H b = some (.frz o xs) → b ≠ a := fun b o xs n z => by rw [z, h] at n; cases n
  have hnb : ∀ b ps, H b = some (.tbl ps) → b ≠ a := fun b xs n z => by rw [z, h] at n; cases n
  have := I.un (h' := s.heap) (t' := s.toks) (H' := upd H a (.frz { cls := .type "list", data := .seq its.toArray n } (.lst us))) ⟨fun b o q _ _ _ => q, fun b o q _ _ _ => ⟨o.slots, q⟩, fun b o q nn _ => by rw [upd_ne (hne b nn)]; exact nn, fun b o q _ => ⟨o, q⟩,
    fun b xs q => by rw [upd_ne (hnt b xs q)]; exact q, fun b o xs q => by rw [upd_ne (hnf b o xs q)]; exact q, fun b ps q => ⟨#[], by rw [upd_ne (hnb b ps q), q]; simp⟩⟩ (fun b o q => by
      by_cases hb : b = a
      · subst hb
        rw [upd_same] at q
        cases q
        exact ⟨e, z, its, n, r, e⟩
      · rw [upd_ne hb] at q
        exact (I.hok b o q).stay (fun _ _ _ q => q) (fun c q => by rw [upd_ne (hno c b q)]; exact q) fun c xs q => by rw [upd_ne (hnt c xs q)]; exact q)
  exact this
/-- a value that is a tracked list becomes known -/
def KQ (Q : VK) : VK := fun v H => ∃ a us, v = .ref a ∧ H a = some (.lst us) ∧ ∀ o, Q (.ref a) (upd H a (.frz o (.lst us)))
theorem EP.known {X : Cx} {pins : List (Addr × Obj)} {σ : L2.St} {Q : VK} {u : Value} {s' : Shared} (h : EP X pins σ (KQ Q) u s') : EP X pins σ Q u s' := by
  obtain ⟨v, H', I, r, a, us, rfl, e, q⟩ := h
  obtain ⟨o, I'⟩ := I.known e
  exact ⟨.ref a, _, I', r, q o⟩
theorem _root_.L2.PE.known {X : Cx} {e : Expr} {t : TE} (h : PE X e t) : PE X e (fun σ H Q => t σ H (KQ Q)) :=
  ⟨fun pins s σ H Q I z => L2.thn (h.run pins s σ H (KQ Q) I z) fun u s' q => EP.known q⟩
/-- .. or is not a list that is laid anew -/
def KQ' (Q : VK) : VK := fun v H => Q v H ∨ KQ Q v H
theorem EP.known' {X : Cx} {pins : List (Addr × Obj)} {σ : L2.St} {Q : VK} {u : Value} {s' : Shared} (h : EP X pins σ (KQ' Q) u s') : EP X pins σ Q u s' := by
  obtain ⟨v, H', I, r, q⟩ := h
  rcases q with q | q
  · exact ⟨v, H', I, r, q⟩
  · exact EP.known ⟨v, H', I, r, q⟩
theorem _root_.L2.PE.known' {X : Cx} {e : Expr} {t : TE} (h : PE X e t) : PE X e (fun σ H Q => t σ H (KQ' Q)) :=
  ⟨fun pins s σ H Q I z => L2.thn (h.run pins s σ H (KQ' Q) I z) fun u s' q => EP.known' q⟩

/-! ### composition -/
section
variable {J : Jx}
/-- one part, then the rest -/
theorem tE_then {e : E} {σ : L2.St} {H : Hp} {R : VK} {env : Env} {hp : Heap} {ρ : List Addr} {α : Type} {f : PV → Heap → Res α} {k : α → List Addr → Heap → Hp → Prop}
    (he : J.F.env ρ H env σ) (hh : J.F.heap ρ hp H) (h : Fin J.F J.Xs J.W ρ H ((evalE J.g e env hp).bind f) k)
    (q : ∀ v ρ' h' H' u, Ext ρ ρ' H H' → J.F.heap ρ' h' H' → J.F.denP ρ' H' v u → Fin J.F J.Xs J.W ρ' H' (f v h') k → R u H') : tE J e σ H R :=
  ⟨env, hp, ρ, he, hh, (Fin.bind h).mono fun v ρ' h' H' x y z u d => q v ρ' h' H' u x y d z⟩
theorem tE_then2 {a b : E} {σ : L2.St} {H : Hp} {R : V → V → Hp → Prop} {env : Env} {hp : Heap} {ρ : List Addr} {α : Type} {f : PV → PV → Heap → Res α} {k : α → List Addr → Heap → Hp → Prop}
    (he : J.F.env ρ H env σ) (hh : J.F.heap ρ hp H) (h : Fin J.F J.Xs J.W ρ H ((evalE J.g a env hp).bind fun v h1 => (evalE J.g b env h1).bind fun u h2 => f v u h2) k)
    (q : ∀ v u ρ' h' H' x y, Ext ρ ρ' H H' → J.F.heap ρ' h' H' → J.F.denP ρ' H' v x → J.F.denP ρ' H' u y → Fin J.F J.Xs J.W ρ' H' (f v u h') k → R x y H') :
    tE J a σ H fun x H1 => tE J b σ H1 fun y H2 => R x y H2 :=
  tE_then he hh h fun v ρ1 h1 H1 x e1 y1 d1 z1 => tE_then (J.F.env_ext e1 he) y1 z1 fun u ρ2 h2 H2 y e2 y2 d2 z2 => q v u ρ2 h2 H2 x y (e1.trans e2) y2 (d1.ext e2) d2 z2
/-- a value seen as data -/
theorem Fin.look {F : Fx} {Xs : Exs} {W : Value → Option Addr → Hp → Prop} {ρ : List Addr} {H : Hp} {α : Type} {v : PV} {u : V} {hp : Heap} {f : D → Res α} {k : α → List Addr → Heap → Hp → Prop} (y : F.heap ρ hp H) (d : F.denP ρ H v u)
    (h : Fin F Xs W ρ H (Ev.look v hp f) k) : ∃ x, F.sees H x u ∧ view v hp = some x ∧ Fin F Xs W ρ H (f x) k := by
  unfold Ev.look at h
  cases e : view v hp with
  | none => rw [e] at h; exact h.elim
  | some x => rw [e] at h; exact ⟨x, y.sees d e, rfl, h⟩
theorem Fin.keep {F : Fx} {Xs : Exs} {W : Value → Option Addr → Hp → Prop} {ρ : List Addr} {H : Hp} {α : Type} {v : PV} {u : V} {f : D → Res α} {k : α → List Addr → Heap → Hp → Prop} (d : F.denP ρ H v u)
    (h : Fin F Xs W ρ H (Ev.keep v f) k) : ∃ x, v = .d x ∧ F.den H x u ∧ Fin F Xs W ρ H (f x) k := by
  cases v with
  | d x => cases d with | d d => exact ⟨x, rfl, d, h⟩
  | ref n => exact h.elim
  | thk => exact h.elim
theorem Fin.okD {F : Fx} {Xs : Exs} {W : Value → Option Addr → Hp → Prop} {ρ : List Addr} {H : Hp} {x : Option D} {hp : Heap} {k : PV → List Addr → Heap → Hp → Prop}
    (h : Fin F Xs W ρ H (Ev.okD x hp) k) : ∃ y, x = some y ∧ Fin F Xs W ρ H (.ok (.d y) hp) k := by
  cases x with
  | none => exact h.elim
  | some y => exact ⟨y, rfl, h⟩
theorem Fin.okB {F : Fx} {Xs : Exs} {W : Value → Option Addr → Hp → Prop} {ρ : List Addr} {H : Hp} {x : Option Bool} {hp : Heap} {k : PV → List Addr → Heap → Hp → Prop}
    (h : Fin F Xs W ρ H (Ev.okB x hp) k) : ∃ y, x = some y ∧ Fin F Xs W ρ H (.ok (.d (.bl y)) hp) k := by
  cases x with
  | none => exact h.elim
  | some y => exact ⟨y, rfl, h⟩
end
end Ev
end
section
/-! EvE: the operations on data, by values. -/
set_option autoImplicit false
set_option linter.all false
set_option maxRecDepth 100000
set_option maxHeartbeats 1000000
set_option Elab.async false
namespace Ev
open PySem PySem.Spec L2

theorem line_eq : line = sizeLine := by rw [PySem.sizeLine_eq]; rfl
theorem T_len (s : List Nat) : (T s).length = s.length := rfl
theorem T_app (s t : List Nat) : T s ++ T t = T (s ++ t) := by
  show (⟨s.toArray ++ t.toArray⟩ : Str) = ⟨(s ++ t).toArray⟩
  rw [List.append_toArray]
theorem T_inj {s t : List Nat} (h : T s = T t) : s = t := by
  have := congrArg (fun x : Str => x.cps.toList) h
  simpa [T] using this
theorem T_dec (s t : List Nat) : decide (T s = T t) = (s == t) := by
  by_cases h : s = t
  · subst h; simp
  · rw [decide_eq_false (fun e => h (T_inj e))]
    exact (beq_eq_false_iff_ne.mpr h).symm

section
variable {P : Program} {w : World} {K : Frag} {H : Hp}
theorem Sees.int {i : Int} {v : V} (h : Sees P w K H (.int i) v) : v = .int i := by cases h with | den h => cases h; rfl
theorem Sees.bl {i : Bool} {v : V} (h : Sees P w K H (.bl i) v) : v = .bl i := by cases h with | den h => cases h; rfl
theorem Sees.non {v : V} (h : Sees P w K H .non v) : v = .non := by cases h with | den h => cases h; rfl
theorem Sees.str {s : List Nat} {v : V} (h : Sees P w K H (.str s) v) : v = .str (T s) ∧ s.length ≤ sizeLine := by cases h with | den h => cases h; exact ⟨rfl, by assumption⟩
theorem Sees.tup {xs : List D} {v : V} (h : Sees P w K H (.tup xs) v) : ∃ a us, v = .ref a ∧ SqT K H a us ∧ Dens P w K H xs us := by
  cases h with | den h => cases h with | tup h d => exact ⟨_, _, rfl, h, d⟩
/-- a list with its whole object -/
def SqE (K : Frag) (H : Hp) (a : Addr) (us : List V) : Prop := H a = some (.lst us) ∨ SqZ K H a us
theorem SqE.l {a : Addr} {us : List V} (h : SqE K H a us) : SqL K H a us := by
  rcases h with h | h
  · exact .of h
  · exact h.l
theorem Sees.lst' {xs : List D} {v : V} (h : Sees P w K H (.lst xs) v) : ∃ a us, v = .ref a ∧ SqE K H a us ∧ Dens P w K H xs us := by
  cases h with
  | den h => cases h with | lst h d => exact ⟨_, _, rfl, .inr h, d⟩
  | lst h d => exact ⟨_, _, rfl, .inl h, d⟩
end
section
variable {X : Cx} {pins : List (Addr × Obj)} {σ : L2.St} {H : Hp} {s : Shared}
theorem _root_.L2.Inv.lstE (I : Inv X pins σ H s) {a : Addr} {us : List V} (h : SqE X.K H a us) :
    us.length ≤ sizeLine ∧ ∃ (its : List Value) (n : Nat), Vals us its ∧ us.length = its.length ∧ s.heap.get? a = some { cls := .type "list", data := .seq its.toArray n } := by
  rcases h with h | ⟨o, h⟩ | ⟨its, n, h1, h2, h3⟩
  · exact I.lstM h
  · obtain ⟨_, z, its, n, r, e⟩ := I.hok a _ h
    exact ⟨z, its, n, r, r.length, e⟩
  · have e := I.kIn a _ h1
    have l : us.length = its.size := h3.length.trans Array.length_toList
    exact ⟨by rw [l]; exact h2, its.toList, n, h3, h3.length, by simpa using e⟩
end

theorem CellOk.new {P : Program} {w : World} {K : Frag} {ρ : List Addr} {H H' : Hp} {a : Addr} {c : Cell} (n : New H H') (h : CellOk P w K ρ H a c) : CellOk P w K ρ H' a c := by
  cases c with
  | lst xs => obtain ⟨us, h1, h2⟩ := h; exact ⟨us, n _ _ h1, h2.tf n.tf⟩
  | dct ks vs => obtain ⟨h0, o, ws, h1, h2, h3⟩ := h; exact ⟨h0, o, ws, n _ _ h1, h2, h3.tf n.tf⟩
  | rws ns => obtain ⟨as, h1, h2, h3⟩ := h; exact ⟨as, n _ _ h1, h2, h3⟩
  | dead => obtain ⟨o, u, h1⟩ := h; exact ⟨o, u, n _ _ h1⟩
theorem HeapOk.new {P : Program} {w : World} {K : Frag} {tb : List (Addr × Str)} {ρ : List Addr} {h : Heap} {H H' : Hp} (n : New H H') (y : HeapOk P w K tb ρ h H) : HeapOk P w K tb ρ h H' :=
  ⟨y.tabs.ext n, y.nd, y.len, fun i c a h1 h2 => (y.at_ i c a h1 h2).new n⟩

/-- an operation by values that gives data -/
def rD (F : Fx) (op : D → D → Option D) : R2 := fun x y H Q => ∃ a b d, F.sees H a x ∧ F.sees H b y ∧ op a b = some d ∧ ∀ u H', New H H' → F.den H' d u → Q u H'
def rB (F : Fx) (op : D → D → Option Bool) : R2 := fun x y H Q => ∃ a b d, F.sees H a x ∧ F.sees H b y ∧ op a b = some d ∧ Q (.bl d) H
def rD1 (F : Fx) (op : D → Option D) : V → Hp → VK → Prop := fun x H Q => ∃ a d, F.sees H a x ∧ op a = some d ∧ ∀ u H', New H H' → F.den H' d u → Q u H'

section
variable {X : Cx} {tv : V} {xp : XP}
theorem rep_eq {α : Type} (n : Nat) (xs : List α) : rep n xs = (List.replicate n xs).flatten := rfl
theorem Dens.rep {P : Program} {w : World} {K : Frag} {H : Hp} {xs : List D} {us : List V} (h : Dens P w K H xs us) : ∀ n, Dens P w K H (Ev.rep n xs) (Ev.rep n us)
  | 0 => .nil
  | n + 1 => by
    rw [rep_eq, rep_eq, List.replicate_succ, List.replicate_succ, List.flatten_cons, List.flatten_cons]
    exact h.append (Dens.rep h n)

theorem o_add : OpR X (binaryOp .Add) (rD (fx X tv xp) addD) := by
  intro pins s σ H x y v u Q I rx ry h
  obtain ⟨a, b, d, sa, sb, e, q⟩ := h
  cases a <;> cases b <;> (first | (exfalso; simp only [addD] at e; cases e; done) | skip)
  · obtain rfl := sa.int
    obtain rfl := sb.int
    simp only [addD, Option.some.injEq] at e
    subst e
    exact op_add pins s σ H _ _ v u Q I rx ry ⟨_, _, rfl, rfl, q _ H (New.refl H) (.int _)⟩
  · obtain ⟨rfl, ha⟩ := sa.str
    obtain ⟨rfl, hb⟩ := sb.str
    simp only [addD] at e
    split at e <;> cases e
    rename_i hl
    rw [line_eq] at hl
    refine op_add_str pins s σ H _ _ v u Q I rx ry ⟨_, _, rfl, rfl, hl, ?_⟩
    rw [T_app]
    exact q _ H (New.refl H) (.str (by rw [List.length_append]; exact hl))
  · obtain ⟨a, us, rfl, ha, da⟩ := sa.tup
    obtain ⟨b, ws, rfl, hb, db⟩ := sb.tup
    simp only [addD] at e
    split at e <;> cases e
    rename_i hl
    rw [line_eq, da.length, db.length] at hl
    refine op_catA pins s σ H _ _ v u Q I rx ry ⟨a, b, us, ws, rfl, rfl, ha, hb, hl, fun z => ?_, fun _ z => ?_, fun _ _ p hp => ?_⟩
    · subst z
      cases da
      exact q _ H (New.refl H) (.tup hb db)
    · subst z
      cases db
      rw [List.append_nil] at q
      exact q _ H (New.refl H) (.tup ha da)
    · exact q _ _ (New.upd _ hp) (.tup (.of upd_same) ((da.append db).tf (New.upd _ hp).tf))
  · obtain ⟨a, us, rfl, ha, da⟩ := sa.lst'
    obtain ⟨b, ws, rfl, hb, db⟩ := sb.lst'
    simp only [addD] at e
    split at e <;> cases e
    rename_i hl
    rw [line_eq, da.length, db.length] at hl
    cases rx
    cases ry
    obtain ⟨z, its, n, r, hl1, e1⟩ := I.lstE ha
    obtain ⟨z2, its2, n2, r2, hl2, e2⟩ := I.lstE hb
    refine PySem.P.add_list e1 e2 ?_ (by rw [List.size_toArray, List.size_toArray]; omega)
    have ea : its.toArray ++ its2.toArray = (its ++ its2).toArray := by simp
    rw [ea]
    have n1 := New.upd (.lst (us ++ ws)) I.fresh
    refine EP.known ⟨.ref _, _, I.lnew (t' := s.toks) (r.append r2) (by rw [List.length_append]; omega), rfl, _, _, rfl, upd_same, fun o => ?_⟩
    have n2 := New.upd2 (.lst (us ++ ws)) (.frz o (.lst (us ++ ws))) I.fresh
    exact q _ _ n2 (.lst (.inl ⟨o, upd_same⟩) ((da.append db).tf n2.tf))
/-- two lists as a new one that may change -/
def rM (F : Fx) : R2 := fun x y H Q => ∃ a b zs, F.sees H a x ∧ F.sees H b y ∧ catD a b = some zs ∧ ∀ p us, H p = none → F.dens (upd H p (.lst us)) zs us → Q (.ref p) (upd H p (.lst us))
theorem o_catM : OpR X (binaryOp .Add) (rM (fx X tv xp)) := by
  intro pins s σ H x y v u Q I rx ry h
  obtain ⟨a, b, zs, sa, sb, e, q⟩ := h
  cases a <;> cases b <;> (first | (exfalso; simp only [catD] at e; cases e; done) | skip)
  obtain ⟨a, us, rfl, ha, da⟩ := sa.lst'
  obtain ⟨b, ws, rfl, hb, db⟩ := sb.lst'
  simp only [catD] at e
  split at e <;> cases e
  rename_i hl
  rw [line_eq, da.length, db.length] at hl
  cases rx
  cases ry
  obtain ⟨z, its, n, r, hl1, e1⟩ := I.lstE ha
  obtain ⟨z2, its2, n2, r2, hl2, e2⟩ := I.lstE hb
  refine PySem.P.add_list e1 e2 ?_ (by rw [List.size_toArray, List.size_toArray]; omega)
  have ea : its.toArray ++ its2.toArray = (its ++ its2).toArray := by simp
  rw [ea]
  have n1 := New.upd (.lst (us ++ ws)) I.fresh
  exact ⟨.ref _, _, I.lnew (t' := s.toks) (r.append r2) (by rw [List.length_append]; omega), rfl, q _ _ I.fresh ((da.append db).tf n1.tf)⟩
theorem o_int {f : Value → Value → Sem Value} {op : D → D → Option D} {C : Int → Int → Prop} {g : Int → Int → V} (ho : OpR X f (rI C g))
    (hop : ∀ a b d, op a b = some d → ∃ i j k, a = .int i ∧ b = .int j ∧ d = .int k ∧ C i j ∧ g i j = .int k) : OpR X f (rD (fx X tv xp) op) := by
  intro pins s σ H x y v u Q I rx ry h
  obtain ⟨a, b, d, sa, sb, e, q⟩ := h
  obtain ⟨i, j, k, rfl, rfl, rfl, hc, hk⟩ := hop a b d e
  obtain rfl := sa.int
  obtain rfl := sb.int
  refine ho pins s σ H _ _ v u Q I rx ry ⟨i, j, rfl, rfl, hc, ?_⟩
  rw [hk]
  exact q _ H (New.refl H) (.int k)
theorem o_sub : OpR X (binaryOp .Sub) (rD (fx X tv xp) subD) := by
  refine o_int (C := fun _ _ => True) (g := fun i j => .int (i - j)) (fun pins s σ H x y v u Q I rx ry ⟨i, j, e1, e2, _, q⟩ => op_sub pins s σ H x y v u Q I rx ry ⟨i, j, e1, e2, q⟩) fun a b d e => ?_
  cases a <;> cases b <;> simp only [subD] at e <;> cases e
  exact ⟨_, _, _, rfl, rfl, rfl, trivial, rfl⟩
theorem o_fdiv : OpR X (binaryOp .FloorDiv) (rD (fx X tv xp) fdivD) := by
  refine o_int op_fdivW fun a b d e => ?_
  cases a <;> cases b <;> simp only [fdivD] at e <;> (first | (cases e; done) | skip)
  split at e <;> cases e
  rename_i h
  simp only [Bool.and_eq_true, decide_eq_true_eq] at h
  exact ⟨_, _, _, rfl, rfl, rfl, h, rfl⟩
theorem o_mod : OpR X (binaryOp .Mod) (rD (fx X tv xp) modD) := by
  refine o_int op_mod fun a b d e => ?_
  cases a <;> cases b <;> simp only [modD] at e <;> (first | (cases e; done) | skip)
  split at e <;> cases e
  exact ⟨_, _, _, rfl, rfl, rfl, by assumption, rfl⟩
theorem o_pow : OpR X (binaryOp .Pow) (rD (fx X tv xp) powD) := by
  refine o_int op_pow fun a b d e => ?_
  cases a <;> cases b <;> simp only [powD] at e <;> (first | (cases e; done) | skip)
  split at e <;> cases e
  rename_i h
  simp only [Bool.and_eq_true, decide_eq_true_eq] at h
  exact ⟨_, _, _, rfl, rfl, rfl, ⟨h.1.1, h.1.2, h.2⟩, rfl⟩
theorem rep_len {α : Type} (n : Nat) (xs : List α) : (rep n xs).length = n * xs.length := by
  rw [rep_eq, PyProof.Rows.lm_len_rep_flat]
theorem rep_fold (its : List Value) (m : Nat) : List.foldl (fun a b => a ++ b) #[] (List.replicate m its.toArray) = (rep m its).toArray := by
  have z := foldl_rep its m []
  rw [List.nil_append] at z
  exact z
theorem rep_foldN (x : List Nat) : ∀ (m : Nat) (acc : List Nat), (List.replicate m x.toArray).foldl (· ++ ·) acc.toArray = (acc ++ rep m x).toArray
  | 0, acc => by simp [rep]
  | m + 1, acc => by
    have e : acc.toArray ++ x.toArray = (acc ++ x).toArray := by simp
    rw [List.replicate_succ, List.foldl_cons, e, rep_foldN x m, rep_eq, rep_eq, List.replicate_succ, List.flatten_cons, List.append_assoc]
theorem mulT_run {pins : List (Addr × Obj)} {s : Shared} {σ : L2.St} {H : Hp} {l : Addr} {xs : List V} {k : Int} {t : Tok} {Q : VK} (I : Inv X pins σ H s) (hT : SqT X.K H l xs) (hne : xs ≠ []) (h1 : 2 ≤ k) (h2 : k ≤ 10000) (hz : xs.length ≤ 1000)
    (q : ∀ p, H p = none → Q (.ref p) (upd H p (.tup (rep k.toNat xs)))) : wpAny (model X.prog X.w) X.A (binaryOp .Mult (.ref l) (.int k t)) (EP X pins σ Q) X.xe s := by
  obtain ⟨its, rv, ⟨⟨cls, dd, data, sl⟩, ho, hc, n, hd⟩, hs⟩ := I.tuple hT
  simp only at hc hd
  subst hc hd
  have len : its.length = xs.length := rv.length.symm
  have full : its.toArray.isEmpty = false := by
    cases its with
    | nil => exact absurd (List.eq_nil_of_length_eq_zero len.symm) hne
    | cons _ _ => rfl
  have sz : its.toArray.size = xs.length := List.size_toArray.trans len
  have prod : ((its.toArray.size : Nat) : Int) * k ≤ 10000000 := by
    rw [sz]
    have a1 : ((xs.length : Nat) : Int) * k ≤ 1000 * k := Int.mul_le_mul_of_nonneg_right (by omega) (by omega)
    omega
  have prodN : k.toNat * xs.length ≤ 10000 * 1000 := Nat.mul_le_mul (by omega) hz
  have flen : (rep k.toNat its).length ≤ sizeLine := by
    rw [rep_len, len, sizeLine_eq]
    omega
  have b0 : (decide (k < -(2 ^ 63)) || decide (k ≥ 2 ^ 63)) = false := by
    rw [decide_eq_false (by omega), decide_eq_false (by omega), Bool.or_false]
  have b1 : (its.toArray.isEmpty || k == 1) = false := by
    rw [full, Bool.false_or]; exact beq_eq_false_iff_ne.mpr (by omega)
  have b2 : (decide (k ≤ 0) || its.toArray.isEmpty) = false := by
    rw [full, Bool.or_false]; exact decide_eq_false (by omega)
  have b4 : Builtin.Tuple.tupleTooMany (((its.toArray.size : Nat) : Int) * k) = false := by
    unfold Builtin.Tuple.tupleTooMany
    exact decide_eq_false (by rw [sizeLine_eq]; omega)
  have fin := tuple_mulW l its.toArray n dd sl k t b0 b1 b2 (by omega) b4 (by rw [rep_fold, List.size_toArray]; exact flen)
  refine wpAny_binaryOp_repeat_ref (T := "tuple") (U := "int") (by decide) ⟨_, ho, rfl⟩ (fun s' => typeIs_int s' k t) noFill_tuple_mul PySem.F.fills_int_mul PySem.F.slot_int_rmul repeat_tuple PySem.F.slot_int_index.lookup ?_
  refine call_meets PySem.F.slot_int_rmul (typeIs_int s k t) PySem.F.entry_int_rmul (PySem.F.args_int_rmul_2 _ _) (int_rmul_tuple k t l its.toArray n dd sl) ⟨ho, rfl, ⟨_, ho, rfl⟩, ?_⟩
  refine call_meets PySem.F.slot_tuple_mul ⟨_, ho, rfl⟩ PySem.F.entry_tuple_mul (PySem.F.args_tuple_mul_2 _ _) fin ⟨ho, ?_⟩
  rw [rep_fold]
  have vr : Vals (rep k.toNat xs) (rep k.toNat its) := Vals.rep rv k.toNat
  refine ⟨.ref _, _, I.laid (o := .tup (rep k.toNat xs)) (t' := s.toks) (fun _ _ q => Heap.get?_push_of_some _ q) (Nat.le_refl _) ⟨?_, rep k.toNat its, vr, ⟨_, Heap.get?_push_size _ rfl, rfl, _, rfl⟩⟩, rfl, q _ I.fresh⟩
  rw [vr.length]; exact flen
theorem o_mul : OpR X (binaryOp .Mult) (rD (fx X tv xp) mulD) := by
  intro pins s σ H x y v u Q I rx ry h
  obtain ⟨a, b, d, sa, sb, e, q⟩ := h
  cases a <;> cases b <;> (first | (exfalso; simp only [mulD] at e; cases e; done) | skip)
  · obtain rfl := sa.int
    obtain rfl := sb.int
    simp only [mulD] at e
    split at e <;> cases e
    rename_i hc
    refine op_mul pins s σ H _ _ v u Q I rx ry ⟨_, _, rfl, rfl, ?_, q _ H (New.refl H) (.int _)⟩
    simp only [small64, Bool.or_eq_true, Bool.and_eq_true, decide_eq_true_eq] at hc
    exact hc
  · obtain ⟨rfl, ha⟩ := sa.str
    obtain rfl := sb.int
    simp only [mulD] at e
    split at e <;> cases e
    rename_i k hc
    simp only [Bool.and_eq_true, decide_eq_true_eq, Bool.not_eq_true'] at hc
    obtain ⟨⟨⟨h1, h2⟩, h3⟩, h4⟩ := hc
    obtain ⟨t, rfl⟩ := rx
    obtain ⟨t', rfl⟩ := ry
    rename_i ss
    have hn : ss.length ≠ 0 := fun z => by
      have := List.eq_nil_of_length_eq_zero z
      rw [this] at h4; cases h4
    have hk : k.toNat * ss.length ≤ 10000 * 1000 := Nat.mul_le_mul (by omega) h3
    have c : (k == 1 || (T ss).length == 0) = false := by
      rw [T_len, beq_eq_false_iff_ne.mpr (show k ≠ 1 by omega), beq_eq_false_iff_ne.mpr hn]
      rfl
    refine PySem.P.mul_str ?_ (fun _ _ => ?_) (fun _ _ => ?_) ?_
    · rw [decide_eq_false (by omega), decide_eq_false (by omega), Bool.or_false]
    · rw [T_len]
      have h5 : (1000 : Int) ≤ (2 ^ 63 - 1) / k := (Int.le_ediv_iff_mul_le (by omega)).mpr (by omega)
      omega
    · unfold Builtin.Str.tooLong
      rw [T_len, sizeLine_eq]
      exact decide_eq_false (by rw [Nat.mul_comm]; omega)
    · rw [if_neg (by omega), if_neg (by rw [c]; exact Bool.false_ne_true)]
      have e3 : (⟨(List.replicate k.toNat (T ss).cps).foldl (· ++ ·) #[]⟩ : Str) = T (rep k.toNat ss) := by
        have z := rep_foldN ss k.toNat []
        rw [List.nil_append] at z
        exact congrArg Str.mk z
      rw [e3]
      have l3 : (rep k.toNat ss).length ≤ sizeLine := by rw [rep_len, sizeLine_eq]; omega
      exact ⟨l3, .str _, H, I.tok _, ⟨_, rfl⟩, q _ H (New.refl H) (.str l3)⟩
  · obtain ⟨a, us, rfl, ha, da⟩ := sa.tup
    obtain rfl := sb.int
    simp only [mulD] at e
    split at e <;> cases e
    rename_i k hc
    simp only [Bool.and_eq_true, decide_eq_true_eq, Bool.not_eq_true'] at hc
    obtain ⟨⟨⟨h1, h2⟩, h3⟩, h4⟩ := hc
    cases rx
    obtain ⟨t', rfl⟩ := ry
    refine mulT_run I ha (fun z => ?_) h1 h2 (by rw [← da.length]; exact h3) fun p hp => ?_
    · subst z; cases da; cases h4
    · exact q _ _ (New.upd _ hp) (.tup (.of upd_same) ((da.rep k.toNat).tf (New.upd _ hp).tf))
def opOf : BOp → Operator
  | .add => .Add
  | .sub => .Sub
  | .mul => .Mult
  | .fdiv => .FloorDiv
  | .mod => .Mod
  | .pow => .Pow
theorem o_bin : ∀ o : BOp, OpR X (binaryOp (opOf o)) (rD (fx X tv xp) (binD o))
  | .add => o_add
  | .sub => o_sub
  | .mul => o_mul
  | .fdiv => o_fdiv
  | .mod => o_mod
  | .pow => o_pow
end

/-! ### data as the library tells it -/
mutual
def D.data : D → PyData
  | .non => .none
  | .bl b => .bool b
  | .int i => .int i
  | .str s => .str (T s)
  | .tup xs => .tuple (D.datas xs)
  | .lst xs => .list (D.datas xs)
  | .dct ks vs => .dict (List.zip (D.datas ks) (D.datas vs))
def D.datas : List D → List PyData
  | [] => []
  | x :: xs => D.data x :: D.datas xs
end
theorem T_beq (s t : List Nat) : (T s == T t) = (s == t) := by
  rw [← T_dec s t, Bool.beq_eq_decide_eq]
mutual
theorem eqv_data : ∀ a b : D, a.lay = true → b.lay = true → PyData.eqv a.data b.data = D.eq a b
  | .non, b, _, hb => by cases b <;> simp [D.data, D.eq, PyData.eqv]
  | .bl x, b, _, hb => by cases b <;> simp [D.data, D.eq, PyData.eqv]
  | .int x, b, _, hb => by cases b <;> simp [D.data, D.eq, PyData.eqv]
  | .str x, b, _, hb => by cases b <;> simp [D.data, D.eq, PyData.eqv, T_beq]
  | .tup xs, b, ha, hb => by
    cases b with
    | tup ys => simp only [D.data, D.eq, PyData.eqv]; exact eqv_datas xs ys (by simpa [D.lay] using ha) (by simpa [D.lay] using hb)
    | _ => simp [D.data, D.eq, PyData.eqv]
  | .lst xs, b, ha, hb => by
    cases b with
    | lst ys => simp only [D.data, D.eq, PyData.eqv]; exact eqv_datas xs ys (by simpa [D.lay] using ha) (by simpa [D.lay] using hb)
    | _ => simp [D.data, D.eq, PyData.eqv]
  | .dct _ _, _, ha, _ => by simp [D.lay] at ha
theorem eqv_datas : ∀ a b : List D, D.lays a = true → D.lays b = true → PyData.eqvAll (D.datas a) (D.datas b) = D.eqs a b
  | [], [], _, _ => by simp [D.datas, D.eqs, PyData.eqvAll]
  | [], _ :: _, _, _ => by simp [D.datas, D.eqs, PyData.eqvAll]
  | _ :: _, [], _, _ => by simp [D.datas, D.eqs, PyData.eqvAll]
  | x :: xs, y :: ys, ha, hb => by
    simp only [D.lays, Bool.and_eq_true] at ha hb
    simp only [D.datas, D.eqs, PyData.eqvAll, eqv_data x y ha.1 hb.1, eqv_datas xs ys ha.2 hb.2]
end
mutual
theorem depth_data : ∀ a : D, a.lay = true → a.data.depth = a.depth
  | .non, _ => by simp [D.data, D.depth, PyData.depth]
  | .bl _, _ => by simp [D.data, D.depth, PyData.depth]
  | .int _, _ => by simp [D.data, D.depth, PyData.depth]
  | .str _, _ => by simp [D.data, D.depth, PyData.depth]
  | .tup xs, h => by simp only [D.data, D.depth, PyData.depth, depth_datas xs (by simpa [D.lay] using h)]
  | .lst xs, h => by simp only [D.data, D.depth, PyData.depth, depth_datas xs (by simpa [D.lay] using h)]
  | .dct _ _, h => by simp [D.lay] at h
theorem depth_datas : ∀ a : List D, D.lays a = true → PyData.depthAll (D.datas a) = D.depths a
  | [], _ => by simp [D.datas, D.depths, PyData.depthAll]
  | x :: xs, h => by
    simp only [D.lays, Bool.and_eq_true] at h
    simp only [D.datas, D.depths, PyData.depthAll, depth_data x h.1, depth_datas xs h.2]
end
mutual
theorem lay_data : ∀ a : D, a.lay = true → a.data.canLay0 = true
  | .non, _ => by simp [D.data, PyData.canLay0]
  | .bl _, _ => by simp [D.data, PyData.canLay0]
  | .int _, _ => by simp [D.data, PyData.canLay0]
  | .str s, h => by
    simp only [D.data, PyData.canLay0, PyData.strOk, T]
    simpa [D.lay] using h
  | .tup xs, h => by simp only [D.data, PyData.canLay0]; exact lay_datas xs (by simpa [D.lay] using h)
  | .lst xs, h => by simp only [D.data, PyData.canLay0]; exact lay_datas xs (by simpa [D.lay] using h)
  | .dct _ _, h => by simp [D.lay] at h
theorem lay_datas : ∀ a : List D, D.lays a = true → PyData.canLayAll0 (D.datas a) = true
  | [], _ => by simp [D.datas, PyData.canLayAll0]
  | x :: xs, h => by
    simp only [D.lays, Bool.and_eq_true] at h
    simp only [D.datas, PyData.canLayAll0, lay_data x h.1, lay_datas xs h.2, Bool.and_self]
end
section
variable {P : Program} {w : World} {K : Frag} {H : Hp}
mutual
theorem Den.dp : ∀ {a : D} {v : V}, Den P w K H a v → a.lay = true → Dp K H v a.data
  | .non, _, .non, _ => .non
  | .bl b, _, .bl _, _ => .bl b
  | .int i, _, .int _, _ => .int i
  | .str s, _, .str _, _ => .str _
  | .tup xs, _, .tup h d, e => by rw [D.data]; exact .tup h (Dens.dp d (by simpa [D.lay] using e))
  | .lst xs, _, .lst h d, e => by rw [D.data]; exact .lst h.l (Dens.dp d (by simpa [D.lay] using e))
  | .dct _ _, _, .dct _ _ _, e => by simp [D.lay] at e
theorem Dens.dp : ∀ {a : List D} {v : List V}, Dens P w K H a v → D.lays a = true → DpAll K H v (D.datas a)
  | [], _, .nil, _ => by rw [D.datas]; exact .nil
  | x :: xs, _, .cons h d, e => by
    simp only [D.lays, Bool.and_eq_true] at e
    rw [D.datas]
    exact .cons (Den.dp h e.1) (Dens.dp d e.2)
end
theorem Sees.dp {a : D} {v : V} (h : Sees P w K H a v) (e : a.lay = true) : Dp K H v a.data := by
  cases h with
  | den h => exact h.dp e
  | lst h d => rw [D.data]; exact .lst (.of h) (d.dp (by simpa [D.lay] using e))
  | dct _ _ _ _ => simp [D.lay] at e
end
section
variable {X : Cx} {tv : V} {xp : XP}
theorem o_eqne (hu : X.A.units + 200 < cLine) (neg : Bool) : OpR X (compareOp (if neg then .NotEq else .Eq)) (rB (fx X tv xp) fun a b => (eqD a b).map fun c => if neg then !c else c) := by
  intro pins s σ H x y v u Q I rx ry h
  obtain ⟨a, b, d, sa, sb, e0, q⟩ := h
  obtain ⟨c, e, e1⟩ := Option.map_eq_some_iff.mp e0
  subst e1
  unfold eqD at e
  split at e
  · rename_i hs
    simp only [Bool.and_eq_true] at hs
    cases a <;> simp only [isStr] at hs <;> cases b <;> simp only [isStr, Bool.false_eq_true, and_false, false_and, and_true] at hs
    obtain ⟨rfl, _⟩ := sa.str
    obtain ⟨rfl, _⟩ := sb.str
    cases e
    cases neg
    · refine op_eq pins s σ H _ _ v u Q I rx ry ⟨rfl, ?_⟩
      rw [dec_str, T_beq]; exact q
    · refine op_ne pins s σ H _ _ v u Q I rx ry ⟨rfl, ?_⟩
      rw [dec_str, T_beq]; exact q
  · split at e
    · rename_i hp
      cases a <;> simp only [apart, Bool.false_eq_true] at hp
      cases b <;> simp only [Bool.false_eq_true] at hp
      obtain ⟨a, us, rfl, ha, da⟩ := sa.lst'
      obtain ⟨b, ws, rfl, hb, db⟩ := sb.lst'
      cases rx
      cases ry
      obtain ⟨z, its, n, r, hl1, e1⟩ := I.lstE ha
      obtain ⟨z2, its2, n2, r2, hl2, e2⟩ := I.lstE hb
      have ne : (its.toArray.size != its2.toArray.size) = true := by
        rw [List.size_toArray, List.size_toArray, ← hl1, ← hl2, ← da.length, ← db.length]; exact hp
      cases e
      cases neg
      · exact SeqAt.RcAt.lists_lengths (A := X.A) ⟨_, e1, rfl, _, rfl⟩ ⟨_, e2, rfl, _, rfl⟩ ne (by omega) _ _ _ _ ⟨.bl _, H, I, rfl, q⟩
      · exact SeqAt.RcNeAt.lists_lengths (A := X.A) ⟨_, e1, rfl, _, rfl⟩ ⟨_, e2, rfl, _, rfl⟩ ne (by omega) _ _ _ _ ⟨.bl _, H, I, rfl, q⟩
    · split at e
      · rename_i hl
        simp only [Bool.and_eq_true, decide_eq_true_eq] at hl
        obtain ⟨⟨la, lb⟩, ld⟩ := hl
        obtain ⟨as, r1⟩ := Dp.reads I a.data x v (sa.dp la) rx
        obtain ⟨bs, r2⟩ := Dp.reads I b.data y u (sb.dp lb) ry
        cases e
        have hd : X.A.units + min a.data.depth b.data.depth < cLine := by rw [depth_data a la, depth_data b lb]; omega
        cases neg
        · exact SeqAt.compareEq_reads r1 r2 (lay_data a la) (lay_data b lb) hd ⟨.bl _, H, I, by rw [eqv_data a b la lb]; rfl, q⟩
        · exact SeqAt.compareNe_reads r1 r2 (lay_data a la) (lay_data b lb) hd ⟨.bl _, H, I, by rw [eqv_data a b la lb]; rfl, q⟩
      · cases e
theorem o_intB {f : Value → Value → Sem Value} {op : D → D → Option Bool} {g : Int → Int → Bool} (ho : OpR X f (rI0 fun i j => .bl (g i j)))
    (hop : ∀ a b d, op a b = some d → ∃ i j, a = .int i ∧ b = .int j ∧ d = g i j) : OpR X f (rB (fx X tv xp) op) := by
  intro pins s σ H x y v u Q I rx ry h
  obtain ⟨a, b, d, sa, sb, e, q⟩ := h
  obtain ⟨i, j, rfl, rfl, rfl⟩ := hop a b d e
  obtain rfl := sa.int
  obtain rfl := sb.int
  exact ho pins s σ H _ _ v u Q I rx ry ⟨i, j, rfl, rfl, q⟩
theorem o_lt : OpR X (compareOp .Lt) (rB (fx X tv xp) ltD) := o_intB (g := fun i j => decide (i < j)) op_lt fun a b d e => by
  cases a <;> cases b <;> simp only [ltD] at e <;> cases e
  exact ⟨_, _, rfl, rfl, rfl⟩
theorem o_le : OpR X (compareOp .LtE) (rB (fx X tv xp) leD) := o_intB (g := fun i j => decide (i ≤ j)) op_le fun a b d e => by
  cases a <;> cases b <;> simp only [leD] at e <;> cases e
  exact ⟨_, _, rfl, rfl, rfl⟩
theorem o_gt : OpR X (compareOp .Gt) (rB (fx X tv xp) gtD) := o_intB (g := fun i j => decide (j < i)) op_gt fun a b d e => by
  cases a <;> cases b <;> simp only [gtD] at e <;> cases e
  exact ⟨_, _, rfl, rfl, rfl⟩
theorem o_ge : OpR X (compareOp .GtE) (rB (fx X tv xp) geD) := o_intB (g := fun i j => decide (j ≤ i)) op_ge fun a b d e => by
  cases a <;> cases b <;> simp only [geD] at e <;> cases e
  exact ⟨_, _, rfl, rfl, rfl⟩
theorem Sees.non_dec {P : Program} {w : World} {K : Frag} {H : Hp} {a : D} {v : V} (h : Sees P w K H a v) : decide (v = .non) = isNon a := by
  cases h with
  | den h => cases h <;> simp [isNon]
  | lst _ _ => simp [isNon]
  | dct _ _ _ _ => simp [isNon]
theorem o_is (neg : Bool) : OpR X (compareOp (if neg then .IsNot else .Is)) (rB (fx X tv xp) fun a b => (isD a b).map fun c => if neg then !c else c) := by
  intro pins s σ H x y v u Q I rx ry h
  obtain ⟨a, b, d, sa, sb, e0, q⟩ := h
  obtain ⟨c, e, e1⟩ := Option.map_eq_some_iff.mp e0
  subst e1
  cases b <;> simp only [isD] at e <;> (first | (cases e; done) | skip)
  · obtain rfl := sb.non
    cases e
    cases neg
    · exact op_isN pins s σ H _ _ v u Q I rx ry ⟨rfl, by rw [sa.non_dec]; exact q⟩
    · exact op_notN pins s σ H _ _ v u Q I rx ry ⟨rfl, by rw [sa.non_dec]; exact q⟩
  · cases a <;> simp only at e <;> (first | (cases e; done) | skip)
    obtain rfl := sa.bl
    obtain rfl := sb.bl
    cases e
    rw [Bool.beq_eq_decide_eq] at q
    cases neg
    · exact op_isBl pins s σ H _ _ v u Q I rx ry ⟨_, _, rfl, rfl, q⟩
    · exact op_notBl pins s σ H _ _ v u Q I rx ry ⟨_, _, rfl, rfl, q⟩
theorem Sees.flat {P : Program} {w : World} {K : Frag} {H : Hp} {a : D} {v : V} (h : Sees P w K H a v) (f : Ev.flat a = true) : Den P w K H a v := by
  cases h with
  | den h => exact h
  | lst _ _ => simp [Ev.flat] at f
  | dct _ _ _ _ => simp [Ev.flat] at f
theorem Den.flatV {P : Program} {w : World} {K : Frag} {H : Hp} {a : D} {v : V} (h : Den P w K H a v) (f : Ev.flat a = true) : L2.flatV v = true := by
  cases h <;> first | rfl | (simp [Ev.flat] at f)
theorem Den.eqV {P : Program} {w : World} {K : Frag} {H : Hp} {a b : D} {x y : V} (ha : Den P w K H a x) (hb : Den P w K H b y) (fa : Ev.flat a = true) (fb : Ev.flat b = true) : L2.eqV x y = D.eq a b := by
  cases ha <;> first | (simp [Ev.flat] at fa; done) | skip
  all_goals (cases hb <;> first | (simp [Ev.flat] at fb; done) | (simp [L2.eqV, D.eq]; done) | (simp [L2.eqV, D.eq, T_beq]; done))
theorem Dens.flatV {P : Program} {w : World} {K : Frag} {H : Hp} : ∀ {xs : List D} {us : List V}, Dens P w K H xs us → xs.all Ev.flat = true → us.all L2.flatV = true
  | _, _, .nil, _ => rfl
  | _, _, .cons h d, f => by
    rw [List.all_cons, Bool.and_eq_true] at f
    rw [List.all_cons, h.flatV f.1, Dens.flatV d f.2]; rfl
theorem Dens.inV {P : Program} {w : World} {K : Frag} {H : Hp} {a : D} {x : V} (ha : Den P w K H a x) (fa : Ev.flat a = true) : ∀ {xs : List D} {us : List V}, Dens P w K H xs us → xs.all Ev.flat = true → L2.inV x us = xs.any fun y => D.eq y a
  | _, _, .nil, _ => rfl
  | y :: ys, u :: us, .cons h d, f => by
    rw [List.all_cons, Bool.and_eq_true] at f
    unfold L2.inV
    rw [List.any_cons, List.any_cons, h.eqV ha f.1 fa]
    have := Dens.inV ha fa d f.2
    unfold L2.inV at this
    rw [this]
theorem any_data (a : D) (ha : a.lay = true) : ∀ ys : List D, D.lays ys = true → ((D.datas ys).any fun y => PyData.eqv y a.data) = ys.any fun y => D.eq y a
  | [], _ => by simp [D.datas]
  | y :: ys, h => by
    simp only [D.lays, Bool.and_eq_true] at h
    simp only [D.datas, List.any_cons, eqv_data y a h.1 ha, any_data a ha ys h.2]
/-- x in a row that reads as ys -/
theorem in_run (hu : X.A.units + 200 < cLine) (neg : Bool) {pins : List (Addr × Obj)} {s : Shared} {σ : L2.St} {H : Hp} {x y : V} {v u : Value} {Q : VK} {a : D} {ys : List D} {c : Bool} (I : Inv X pins σ H s) (rx : RelV x v) (ry : RelV y u) (sa : Sees X.prog X.w X.K H a x)
    (sb : (∃ p us, y = .ref p ∧ SqL X.K H p us ∧ Dens X.prog X.w X.K H ys us) ∨ (∃ p us, y = .ref p ∧ SqT X.K H p us ∧ Dens X.prog X.w X.K H ys us))
    (e : inD a ys = some c) (q : Q (.bl (if neg then !c else c)) H) : wpAny (model X.prog X.w) X.A (compareOp (if neg then .NotIn else .In) v u) (EP X pins σ Q) X.xe s := by
  unfold inD at e
  split at e
  · rename_i hf
    simp only [Bool.and_eq_true] at hf
    obtain ⟨fa, fy⟩ := hf
    cases e
    have da := sa.flat fa
    have key : ∀ p us, y = .ref p → (SqL X.K H p us ∨ SqT X.K H p us) → Dens X.prog X.w X.K H ys us → wpAny (model X.prog X.w) X.A (compareOp (if neg then .NotIn else .In) v u) (EP X pins σ Q) X.xe s := by
      intro p us e1 hs ds
      subst e1
      have e2 := Dens.inV da fa ds fy
      cases neg
      · exact op_in_seq pins s σ H x (.ref p) v u Q I rx ry ⟨p, us, rfl, hs, da.flatV fa, ds.flatV fy, by rw [e2]; exact q⟩
      · exact op_notIn_seq pins s σ H x (.ref p) v u Q I rx ry ⟨p, us, rfl, hs, da.flatV fa, ds.flatV fy, by rw [e2]; exact q⟩
    rcases sb with ⟨p, us, e1, hs, ds⟩ | ⟨p, us, e1, hs, ds⟩
    · exact key p us e1 (.inl hs) ds
    · exact key p us e1 (.inr hs) ds
  · split at e
    · rename_i hl
      simp only [Bool.and_eq_true, decide_eq_true_eq] at hl
      obtain ⟨⟨ly, la⟩, ld⟩ := hl
      cases e
      obtain ⟨as, r1⟩ := Dp.reads I a.data x v (sa.dp la) rx
      have hd : X.A.units + 1 + min (PyData.depthAll (D.datas ys)) a.data.depth < cLine := by rw [depth_data a la, depth_datas ys ly]; omega
      have ea := any_data a la ys ly
      rcases sb with ⟨p, us, rfl, hs, ds⟩ | ⟨p, us, rfl, hs, ds⟩
      · obtain ⟨bs, r2⟩ := Dp.reads I (.list (D.datas ys)) _ u (.lst hs (ds.dp ly)) ry
        cases neg
        · exact SeqAt.in_list_reads r2 r1 (lay_datas ys ly) (lay_data a la) hd ⟨.bl _, H, I, by rw [ea]; rfl, q⟩
        · exact SeqAt.notIn_list_reads r2 r1 (lay_datas ys ly) (lay_data a la) hd ⟨.bl _, H, I, by rw [ea]; rfl, q⟩
      · obtain ⟨bs, r2⟩ := Dp.reads I (.tuple (D.datas ys)) _ u (.tup hs (ds.dp ly)) ry
        cases neg
        · exact SeqAt.in_tuple_reads r2 r1 (lay_datas ys ly) (lay_data a la) hd ⟨.bl _, H, I, by rw [ea]; rfl, q⟩
        · exact SeqAt.notIn_tuple_reads r2 r1 (lay_datas ys ly) (lay_data a la) hd ⟨.bl _, H, I, by rw [ea]; rfl, q⟩
    · cases e
theorem o_in (hu : X.A.units + 200 < cLine) (neg : Bool) : OpR X (compareOp (if neg then .NotIn else .In)) (rB (fx X tv xp) fun a b => (isinD a b).map fun c => if neg then !c else c) := by
  intro pins s σ H x y v u Q I rx ry h
  obtain ⟨a, b, d, sa, sb, e0, q⟩ := h
  obtain ⟨c, e, e1⟩ := Option.map_eq_some_iff.mp e0
  subst e1
  cases b <;> simp only [isinD] at e <;> (first | (cases e; done) | skip)
  · rename_i t
    cases a <;> simp only at e <;> (first | (cases e; done) | skip)
    rename_i t2
    obtain ⟨rfl, _⟩ := sa.str
    obtain ⟨rfl, _⟩ := sb.str
    unfold inS at e
    split at e <;> cases e
    rename_i k _
    have em : (decide (k ∈ (T t).cps.toList)) = t.contains k := by
      rw [Bool.eq_iff_iff]
      simp [T]
      exact decide_eq_true_iff
    cases neg
    · exact op_in_sign pins s σ H _ _ v u Q I rx ry ⟨k, T t, rfl, rfl, by rw [em]; exact q⟩
    · exact op_notIn_sign pins s σ H _ _ v u Q I rx ry ⟨k, T t, rfl, rfl, by rw [em]; exact q⟩
  · obtain ⟨p, us, e1, hs, ds⟩ := sb.tup
    exact in_run hu neg I rx ry sa (.inr ⟨p, us, e1, hs, ds⟩) e q
  · obtain ⟨p, us, e1, hs, ds⟩ := sb.lst'
    exact in_run hu neg I rx ry sa (.inl ⟨p, us, e1, hs.l, ds⟩) e q
def cmpOf : COp → CmpOp
  | .eq => .Eq
  | .ne => .NotEq
  | .lt => .Lt
  | .le => .LtE
  | .gt => .Gt
  | .ge => .GtE
  | .is => .Is
  | .isNot => .IsNot
  | .isin => .In
  | .notin => .NotIn
theorem rB_map {f : Value → Value → Sem Value} {g g' : D → D → Option Bool} (h : OpR X f (rB (fx X tv xp) g)) (e : g = g') : OpR X f (rB (fx X tv xp) g') := e ▸ h
theorem o_cmp (hu : X.A.units + 200 < cLine) : ∀ o : COp, OpR X (compareOp (cmpOf o)) (rB (fx X tv xp) (cmpD o))
  | .eq => rB_map (o_eqne hu false) (by funext a b; simp [cmpD])
  | .ne => rB_map (o_eqne hu true) (by funext a b; simp [cmpD])
  | .lt => o_lt
  | .le => o_le
  | .gt => o_gt
  | .ge => o_ge
  | .is => rB_map (o_is false) (by funext a b; simp [cmpD])
  | .isNot => rB_map (o_is true) (by funext a b; simp [cmpD])
  | .isin => rB_map (o_in hu false) (by funext a b; simp [cmpD])
  | .notin => rB_map (o_in hu true) (by funext a b; simp [cmpD])
end
end Ev
end
section
/-! EvF: the rules of expressions. -/
set_option autoImplicit false
set_option linter.all false
set_option maxRecDepth 100000
set_option maxHeartbeats 1000000
set_option Elab.async false
namespace Ev
open PySem PySem.Spec L2

section
variable {J : Jx}
/-- where an evaluation ends in data: any heap in which all tracked stays will do -/
theorem Fin.newD {F : Fx} {Xs : Exs} {W : Value → Option Addr → Hp → Prop} {ρ : List Addr} {H : Hp} {d : D} {hp : Heap} {Q : VK} (y : F.heap ρ hp H)
    (h : Fin F Xs W ρ H (.ok (.d d) hp) (fun v ρ' _ H' => ∀ u, F.denP ρ' H' v u → Q u H')) : ∀ u H', New H H' → F.den H' d u → Q u H' :=
  fun u H' n dd => h ρ H' (Ext.nw n) (HeapOk.new n y) u (.d dd)
theorem Fin.hereD {F : Fx} {Xs : Exs} {W : Value → Option Addr → Hp → Prop} {ρ : List Addr} {H : Hp} {d : D} {hp : Heap} {Q : VK} (y : F.heap ρ hp H)
    (h : Fin F Xs W ρ H (.ok (.d d) hp) (fun v ρ' _ H' => ∀ u, F.denP ρ' H' v u → Q u H')) {u : V} (dd : F.den H d u) : Q u H := Fin.newD y h u H (New.refl H) dd

theorem Fin.opt {F : Fx} {Xs : Exs} {W : Value → Option Addr → Hp → Prop} {ρ : List Addr} {H : Hp} {α β : Type} {o : Option β} {r : β → Res α} {k : α → List Addr → Heap → Hp → Prop}
    (h : Fin F Xs W ρ H (Ev.opt o r) k) : ∃ x, o = some x ∧ Fin F Xs W ρ H (r x) k := by
  cases o with
  | none => exact h.elim
  | some x => exact ⟨x, rfl, h⟩
theorem Fin.need {F : Fx} {Xs : Exs} {W : Value → Option Addr → Hp → Prop} {ρ : List Addr} {H : Hp} {α : Type} {c : Bool} {r : Res α} {k : α → List Addr → Heap → Hp → Prop}
    (h : Fin F Xs W ρ H (Ev.need c r) k) : c = true ∧ Fin F Xs W ρ H r k := by
  cases c with
  | false => exact h.elim
  | true => exact ⟨rfl, h⟩
theorem refP_some {v : PV} {n : Nat} (h : refP v = some n) : v = .ref n := by
  cases v <;> cases h
  rfl
theorem intD_some {v : D} {n : Int} (h : intD v = some n) : v = .int n := by
  cases v <;> cases h
  rfl
theorem lstD_some {v : D} {n : List D} (h : lstD v = some n) : v = .lst n := by
  cases v <;> cases h
  rfl
theorem tupD_some {v : D} {n : List D} (h : tupD v = some n) : v = .tup n := by
  cases v <;> cases h
  rfl
theorem slotOf_some {env : Env} {i : Nat} {v : PV} (h : slotOf env i = some v) : env[i]? = some (some (.v v)) := by
  unfold slotOf at h
  split at h
  · rename_i w e; cases h; exact e
  · cases h
theorem lstOf_some {n : Nat} {h : Heap} {xs : List D} (e : lstOf n h = some xs) : h[n]? = some (.lst xs) := by
  unfold lstOf at e
  split at e
  · rename_i w e'; cases e; exact e'
  · cases e
theorem rwsOf_some {v : PV} {h : Heap} {ns : List Nat} (e : rwsOf v h = some ns) : ∃ n, v = .ref n ∧ h[n]? = some (.rws ns) := by
  unfold rwsOf at e
  split at e
  · rename_i n
    split at e
    · rename_i w e'; cases e; exact ⟨n, rfl, e'⟩
    · cases e
  · cases e
/-! ### names and constants -/
theorem je_slot {i : Nat} {x : Str} {pos : Pos} (hN : J.X.N[i]? = some x) (hv : Vis J.X.env.scope x) (hd : (x == ("__debug__" : Str)) = false) (hcd : (x == ("__classdict__" : Str)) = false) : JE J (.Name x pos) (.slot i) := by
  refine (pe_var hN hv hd hcd).imp fun σ H Q h => ?_
  obtain ⟨env, hp, ρ, he, hh, f⟩ := h
  unfold evalE at f
  obtain ⟨v, e, f1⟩ := Fin.opt f
  obtain ⟨u, h1, h2⟩ := he.2 i _ (slotOf_some e)
  exact ⟨u, h1, f1.here hh u h2⟩
theorem tE_lit {x : D} {σ : L2.St} {H : Hp} {Q : VK} (h : tE J (.lit x) σ H Q) {u : V} (d : J.F.den H x u) : Q u H := by
  obtain ⟨env, hp, ρ, he, hh, f⟩ := h
  unfold evalE at f
  exact f.here hh u (.d d)
theorem je_none {k : Nat} {pos : Pos} : JE J (.Constant .none k pos) (.lit .non) := pe_non.imp fun σ H Q h => tE_lit h .non
theorem je_bool {b : Bool} {k : Nat} {pos : Pos} : JE J (.Constant (.bool b) k pos) (.lit (.bl b)) := pe_bl.imp fun σ H Q h => tE_lit h (.bl b)
theorem je_int {i : Int} {k : Nat} {pos : Pos} : JE J (.Constant (.int i) k pos) (.lit (.int i)) := pe_int.imp fun σ H Q h => tE_lit h (.int i)
theorem je_str {s : List Nat} {x : Str} {k : Nat} {pos : Pos} (e : x = T s) (hl : s.length ≤ sizeLine) : JE J (.Constant (.str x) k pos) (.lit (.str s)) := by
  subst e
  exact pe_str.imp fun σ H Q h => tE_lit h (.str hl)
/-- a constant of the module -/
def GlobOk (J : Jx) (k : Nat) (x : Str) : Prop := ∃ d v u, J.g.glob k = some d ∧ J.X.mg x = some u ∧ RelV v u ∧ ∀ H, J.F.den H d v
theorem je_glob {k : Nat} {x : Str} {pos : Pos} (hg : Gl J.X x) (h : GlobOk J k x) (hd : (x == ("__debug__" : Str)) = false) : JE J (.Name x pos) (.glob k) := by
  obtain ⟨d, v, u, e1, e2, r, dd⟩ := h
  refine (pe_glob hg e2 r hd).imp fun σ H Q h => ?_
  obtain ⟨env, hp, ρ, he, hh, f⟩ := h
  unfold evalE at f
  rw [e1] at f
  exact Fin.hereD hh f (dd H)

/-! ### lists of expressions -/
theorem ja_nil : JA J [] [] := by
  refine pa_nil.imp fun σ H Q h => ?_
  obtain ⟨env, hp, ρ, he, hh, f⟩ := h
  unfold evalEs at f
  exact f.here hh [] .nil
theorem ja_cons {a : Expr} {as : List Expr} {e : E} {es : List E} (h1 : JE J a e) (h2 : JA J as es) (hs : starEach (a :: as) J.X.env = (false, eval a J.X.env) :: starEach as J.X.env) : JA J (a :: as) (e :: es) := by
  refine (pa_cons h1 h2 hs).imp fun σ H Q h => ?_
  obtain ⟨env, hp, ρ, he, hh, f⟩ := h
  unfold evalEs at f
  refine tE_then he hh f fun v ρ1 h1 H1 u x1 y1 d1 f1 => ?_
  exact ⟨env, h1, ρ1, J.F.env_ext x1 he, y1, (Fin.bind f1).mono fun vs ρ2 h2 H2 x2 y2 z us ds => Fin.here z y2 (u :: us) (.cons (d1.ext x2) ds)⟩

/-! ### displays -/
theorem keeps_dens {F : Fx} {ρ : List Addr} {H : Hp} : ∀ {vs : List PV} {us : List V} {xs : List D}, F.denPs ρ H vs us → keeps vs = some xs → F.dens H xs us
  | [], _, _, .nil, e => by cases e; exact .nil
  | v :: vs, _, _, .cons h t, e => by
    cases v with
    | ref n => simp [keeps] at e
    | thk => simp [keeps] at e
    | d x =>
      unfold keeps at e
      split at e
      · rename_i xs e1
        cases e
        cases h with | d h => exact .cons h (keeps_dens t e1)
      · cases e
theorem fits_le {α : Type} {xs : List α} (h : fits xs = true) : xs.length ≤ sizeLine := by
  unfold fits at h
  rw [line_eq] at h
  exact of_decide_eq_true h
theorem je_tup {as : List Expr} {es : List E} {k : Nat} {pos : Pos} (h : JA J as es) : JE J (.Tuple as k pos) (.tup es) := by
  refine (pe_tup h).imp fun σ H Q z => ?_
  obtain ⟨env, hp, ρ, he, hh, f⟩ := z
  unfold evalE at f
  refine ⟨env, hp, ρ, he, hh, (Fin.bind f).mono fun vs ρ1 h1 H1 x1 y1 f1 us ds => ?_⟩
  obtain ⟨xs, e, f1'⟩ := Fin.opt f1
  obtain ⟨c, f2⟩ := Fin.need f1'
  have dd := keeps_dens ds e
  refine ⟨by rw [← dd.length]; exact fits_le c, fun p hp' => ?_⟩
  exact Fin.newD y1 f2 _ _ (New.upd _ hp') (.tup (.of upd_same) (dd.tf (New.upd _ hp').tf))
/-- a new cell, at p -/
theorem HeapOk.cell {P : Program} {w : World} {K : Frag} {tb : List (Addr × Str)} {ρ : List Addr} {h : Heap} {H : Hp} {p : Addr} {o : HO} {c : Cell} (y : HeapOk P w K tb ρ h H) (hp : H p = none) (hc : CellOk P w K (ρ ++ [p]) (upd H p o) p c) :
    HeapOk P w K tb (ρ ++ [p]) (h ++ [c]) (upd H p o) := by
  refine ⟨y.tabs.ext (New.upd o hp), List.nodup_append.mpr ⟨y.nd, by simp, fun a ha b hb => by simp at hb; subst hb; exact y.ne ha hp⟩, by simp [y.len], fun n c' a h1 h2 => ?_⟩
  by_cases hn : n < h.length
  · rw [List.getElem?_append_left hn] at h1
    rw [List.getElem?_append_left (by rw [y.len]; exact hn)] at h2
    have q := (y.at_ n c' a h1 h2).new (New.upd o hp)
    cases c' with
    | rws ns =>
      obtain ⟨as, q1, q2, q3⟩ := q
      exact ⟨as, q1, q2, fun i m e => let ⟨b, e1, e2⟩ := q3 i m e; ⟨b, e1, pre_get (List.prefix_append _ _) e2⟩⟩
    | lst _ => exact q
    | dct _ _ => exact q
    | dead => exact q
  · have en : n = h.length := by
      have := (List.getElem?_eq_some_iff.mp h1).1
      simp at this
      omega
    subst en
    rw [List.getElem?_append_right (Nat.le_refl _)] at h1
    rw [← y.len, List.getElem?_append_right (Nat.le_refl _)] at h2
    simp at h1 h2
    subst h1 h2
    exact hc
theorem je_lst {as : List Expr} {es : List E} {pos : Pos} (h : JA J as es) : JE J (.List as pos) (.lst false es) := by
  refine (PE.known (pe_lst h)).imp fun σ H Q z => ?_
  obtain ⟨env, hp, ρ, he, hh, f⟩ := z
  unfold evalE at f
  refine ⟨env, hp, ρ, he, hh, (Fin.bind f).mono fun vs ρ1 h1 H1 x1 y1 f1 us ds => ?_⟩
  obtain ⟨xs, e, f1'⟩ := Fin.opt f1
  obtain ⟨c, f2⟩ := Fin.need f1'
  have dd := keeps_dens ds e
  refine ⟨by rw [← dd.length]; exact fits_le c, fun p hp' => ⟨_, _, rfl, upd_same, fun o => ?_⟩⟩
  have n2 := New.upd2 (.lst us) (.frz o (.lst us)) hp'
  exact Fin.newD y1 f2 _ _ n2 (.lst (.inl ⟨o, upd_same⟩) (dd.tf n2.tf))
theorem je_lstM {as : List Expr} {es : List E} {pos : Pos} (h : JA J as es) : JE J (.List as pos) (.lst true es) := by
  refine (pe_lst h).imp fun σ H Q z => ?_
  obtain ⟨env, hp, ρ, he, hh, f⟩ := z
  unfold evalE at f
  refine ⟨env, hp, ρ, he, hh, (Fin.bind f).mono fun vs ρ1 h1 H1 x1 y1 f1 us ds => ?_⟩
  obtain ⟨xs, e, f1'⟩ := Fin.opt f1
  obtain ⟨c, f2⟩ := Fin.need f1'
  have dd := keeps_dens ds e
  refine ⟨by rw [← dd.length]; exact fits_le c, fun p hp' => ?_⟩
  have n1 := New.upd (.lst us) hp'
  refine f2 (ρ1 ++ [p]) _ (Ext.cell hp') (y1.cell hp' ⟨us, upd_same, dd.tf n1.tf⟩) _ (.ref ?_)
  rw [← y1.len]
  exact List.getElem?_concat_length
theorem je_rws {a : Expr} {e : E} {pos : Pos} (h : JE J a e) (hs : starEach [a] J.X.env = [(false, eval a J.X.env)]) : JE J (.List [a] pos) (.rws e) := by
  have hs' : starEach (a :: []) J.X.env = (false, eval a J.X.env) :: starEach [] J.X.env := by
    rw [hs]
    first | rfl | simp [starEach]
  refine (pe_lst (pa_cons h pa_nil hs')).imp fun σ H Q z => ?_
  obtain ⟨env, hp, ρ, he, hh, f⟩ := z
  unfold evalE at f
  refine tE_then he hh f fun v ρ1 h1 H1 u x1 y1 d1 f1 => ?_
  obtain ⟨n, en, f1'⟩ := Fin.opt f1
  obtain rfl := refP_some en
  obtain ⟨c, f2⟩ := Fin.need f1'
  cases d1 with
  | @ref _ a hn =>
    refine ⟨by show 1 ≤ sizeLine; rw [sizeLine_eq]; decide, fun p hp' => ?_⟩
    have n1 := New.upd (.lst [V.ref a]) hp'
    refine f2 (ρ1 ++ [p]) _ (Ext.cell hp') (y1.cell hp' ⟨[a], upd_same, rfl, fun i m em => ?_⟩) _ (.ref ?_)
    · cases i with
      | zero => simp at em; subst em; exact ⟨a, rfl, pre_get (List.prefix_append _ _) hn⟩
      | succ i => simp at em
    · rw [← y1.len]
      exact List.getElem?_concat_length

/-! ### operators -/
theorem je_bin {a b : Expr} {ea eb : E} {o : BOp} {pos : Pos} (ha : JE J a ea) (hb : JE J b eb) : JE J (.BinOp a (opOf o) b pos) (.bin o ea eb) := by
  refine (pe_op (o_bin (tv := J.tv) (xp := J.xp) o) ha hb).imp fun σ H Q h => ?_
  obtain ⟨env, hp, ρ, he, hh, f⟩ := h
  unfold evalE at f
  refine tE_then2 he hh f fun v u ρ2 h2 H2 x y x2 y2 dv du f2 => ?_
  obtain ⟨dx, sx, _, f3⟩ := Fin.look y2 dv f2
  obtain ⟨dy, sy, _, f4⟩ := Fin.look y2 du f3
  obtain ⟨d, e, f5⟩ := Fin.okD f4
  exact ⟨dx, dy, d, sx, sy, e, Fin.newD y2 f5⟩
theorem je_catM {a b : Expr} {ea eb : E} {pos : Pos} (ha : JE J a ea) (hb : JE J b eb) : JE J (.BinOp a (opOf .add) b pos) (.catM ea eb) := by
  refine (pe_op (o_catM (tv := J.tv) (xp := J.xp)) ha hb).imp fun σ H Q h => ?_
  obtain ⟨env, hp, ρ, he, hh, f⟩ := h
  unfold evalE at f
  refine tE_then2 he hh f fun v u ρ2 h2 H2 x y x2 y2 dv du f2 => ?_
  obtain ⟨dx, sx, _, f3⟩ := Fin.look y2 dv f2
  obtain ⟨dy, sy, _, f4⟩ := Fin.look y2 du f3
  obtain ⟨zs, e, f5⟩ := Fin.opt f4
  refine ⟨dx, dy, zs, sx, sy, e, fun p us hp' dd => ?_⟩
  refine f5 (ρ2 ++ [p]) _ (Ext.cell hp') (y2.cell hp' ⟨us, upd_same, dd⟩) _ (.ref ?_)
  rw [← y2.len]
  exact List.getElem?_concat_length
theorem cmp_post {o : COp} {v u : PV} {ρ2 : List Addr} {h2 : Heap} {H2 : Hp} {x y : V} {k : PV → List Addr → Heap → Hp → Prop} (y2 : J.F.heap ρ2 h2 H2) (dv : J.F.denP ρ2 H2 v x) (du : J.F.denP ρ2 H2 u y)
    (f2 : Fin J.F J.Xs J.W ρ2 H2 (look v h2 fun x => look u h2 fun y => okB (cmpD o x y) h2) k) : ∃ dx dy d, J.F.sees H2 dx x ∧ J.F.sees H2 dy y ∧ cmpD o dx dy = some d ∧ Fin J.F J.Xs J.W ρ2 H2 (.ok (.d (.bl d)) h2) k := by
  obtain ⟨dx, sx, _, f3⟩ := Fin.look y2 dv f2
  obtain ⟨dy, sy, _, f4⟩ := Fin.look y2 du f3
  obtain ⟨d, e, f5⟩ := Fin.okB f4
  exact ⟨dx, dy, d, sx, sy, e, f5⟩
theorem je_cmp (ok : J.Ok) {a b : Expr} {ea eb : E} {o : COp} {pos : Pos} (ha : JE J a ea) (hb : JE J b eb) (hm : behindInMarks (cmpOf o) b = false) : JE J (.Compare a [cmpOf o] [b] pos) (.cmp o ea eb) := by
  refine (pe_cmpR (o_cmp (tv := J.tv) (xp := J.xp) ok.units o) ha hb hm).imp fun σ H Q h => ?_
  obtain ⟨env, hp, ρ, he, hh, f⟩ := h
  unfold evalE at f
  refine tE_then2 he hh f fun v u ρ2 h2 H2 x y x2 y2 dv du f2 => ?_
  obtain ⟨dx, dy, d, sx, sy, e, f5⟩ := cmp_post y2 dv du f2
  exact ⟨dx, dy, d, sx, sy, e, Fin.hereD y2 f5 (.bl d)⟩
theorem tT_cmp {a b : E} {o : COp} {σ : L2.St} {H : Hp} {Q : Bool → Hp → Prop} (h : tT J (.cmp o a b) σ H Q) :
    tE J a σ H fun x H1 => tE J b σ H1 fun y H2 => ∃ dx dy d, J.F.sees H2 dx x ∧ J.F.sees H2 dy y ∧ cmpD o dx dy = some d ∧ Q d H2 := by
  obtain ⟨env, hp, ρ, he, hh, f⟩ := h
  unfold evalB evalE at f
  have f := Fin.bind f
  refine tE_then2 he hh f fun v u ρ2 h2 H2 x y x2 y2 dv du f2 => ?_
  obtain ⟨dx, dy, d, sx, sy, e, f5⟩ := cmp_post y2 dv du f2
  refine ⟨dx, dy, d, sx, sy, e, ?_⟩
  have f6 := f5.here y2
  exact f6.here y2
theorem jt_cmp (ok : J.Ok) {a b : Expr} {ea eb : E} {o : COp} {pos : Pos} (ha : JE J a ea) (hb : JE J b eb) (hm : behindInMarks (cmpOf o) b = false) : JT J (.Compare a [cmpOf o] [b] pos) (.cmp o ea eb) := by
  refine (pt_cmpR (o_cmp (tv := J.tv) (xp := J.xp) ok.units o) ha hb hm).imp fun σ H Q h => ?_
  obtain ⟨env, hp, ρ, he, hh, f⟩ := h
  have z := tT_cmp ⟨env, hp, ρ, he, hh, f⟩
  obtain ⟨env, hp, ρ, he, hh, f⟩ := z
  refine ⟨env, hp, ρ, he, hh, f.mono fun v ρ1 h1 H1 x1 y1 q u d => ?_⟩
  have q1 := q u d
  obtain ⟨env, hp, ρ, he, hh, f⟩ := q1
  refine ⟨env, hp, ρ, he, hh, f.mono fun v ρ1 h1 H1 x1 y1 q u d => ?_⟩
  obtain ⟨dx, dy, d, sx, sy, e, q⟩ := q u d
  exact ⟨dx, dy, d, sx, sy, e, d, rfl, q⟩
/-! ### truth -/
theorem int_len_ne {α : Type} (s : List α) : (((s.length : Nat) : Int) != 0) = !s.isEmpty := by
  cases s with
  | nil => rfl
  | cons a r =>
    rw [List.isEmpty_cons, Bool.not_false]
    exact bne_iff_ne.mpr (by simp; omega)
theorem Sees.tru {P : Program} {w : World} {K : Frag} {H : Hp} {x : D} {u : V} {b : Bool} (h : Sees P w K H x u) (e : truD x = some b) : TruV K u H b := by
  cases x with
  | non => obtain rfl := h.non; cases e; rfl
  | bl c => obtain rfl := h.bl; cases e; rfl
  | int i => obtain rfl := h.int; cases e; rfl
  | str s =>
    obtain ⟨rfl, l⟩ := h.str
    cases e
    exact ⟨l, (int_len_ne s).symm⟩
  | tup xs =>
    obtain ⟨a, us, rfl, hs, ds⟩ := h.tup
    cases e
    refine .inr (.inl ⟨us, hs, ?_⟩)
    cases ds <;> rfl
  | lst xs =>
    obtain ⟨a, us, rfl, hs, ds⟩ := h.lst'
    cases e
    refine .inl ⟨us, hs.l, ?_⟩
    cases ds <;> rfl
  | dct ks vs => simp [truD] at e
theorem Fin.test {F : Fx} {Xs : Exs} {W : Value → Option Addr → Hp → Prop} {ρ : List Addr} {H : Hp} {α : Type} {v : PV} {u : V} {hp : Heap} {f : Bool → Res α} {k : α → List Addr → Heap → Hp → Prop} (y : F.heap ρ hp H) (d : F.denP ρ H v u)
    (h : Fin F Xs W ρ H (Ev.test v hp f) k) : ∃ b, TruV F.K u H b ∧ Fin F Xs W ρ H (f b) k := by
  unfold Ev.test at h
  cases e : view v hp with
  | none => rw [e] at h; exact h.elim
  | some x =>
    rw [e] at h
    simp only at h
    cases e2 : truD x with
    | none => rw [e2] at h; exact h.elim
    | some b => rw [e2] at h; exact ⟨b, (y.sees d e).tru e2, h⟩
theorem test_bind {α β : Type} (v : PV) (h : Heap) (f : Bool → Res α) (k : α → Heap → Res β) : (test v h f).bind k = test v h fun b => (f b).bind k := by
  unfold test
  split <;> (try rfl)
  split <;> rfl
theorem bind_assoc {α β γ : Type} (r : Res α) (f : α → Heap → Res β) (k : β → Heap → Res γ) : (r.bind f).bind k = r.bind fun a h => (f a h).bind k := by
  cases r <;> rfl
/-- truth by evalB and by the value -/
theorem evalB_test (g : G) (e : E) (env : Env) (h : Heap) {α : Type} (f : Bool → Heap → Res α) : ((evalE g e env h).bind fun v h1 => test v h1 fun b => f b h1) = (evalB g e env h).bind f := by
  unfold evalB
  rw [bind_assoc]
  congr 1
  funext v h1
  rw [test_bind]
  rfl
theorem evalB_not (g : G) (a : E) (env : Env) (h : Heap) : evalB g (.not a) env h = (evalB g a env h).bind fun b h1 => .ok (!b) h1 := by
  conv => lhs; unfold evalB evalE
  rw [bind_assoc, ← evalB_test]
  congr 1
  funext v h1
  rw [test_bind]
  rfl
theorem test_bl (b : Bool) (h : Heap) {α : Type} (f : Bool → Res α) : test (.d (.bl b)) h f = f b := rfl
theorem test_twice {α : Type} (v : PV) (h : Heap) (f : Bool → Bool → Res α) : (test v h fun b => test v h fun c => f b c) = test v h fun b => f b b := by
  unfold test
  cases view v h with
  | none => rfl
  | some x =>
    simp only
    cases truD x <;> rfl
theorem evalB_or (g : G) (a b : E) (env : Env) (h : Heap) : evalB g (.or a b) env h = (evalB g a env h).bind fun c h1 => if c then .ok true h1 else evalB g b env h1 := by
  conv => lhs; unfold evalB evalE
  rw [bind_assoc, ← evalB_test]
  congr 1
  funext v h1
  rw [test_bind]
  have e : ∀ c : Bool, (Res.bind (if c = true then Res.ok v h1 else evalE g b env h1) fun v h1 => test v h1 fun b => Res.ok b h1) = (if c = true then (test v h1 fun b => Res.ok b h1) else evalB g b env h1) := by
    intro c; cases c <;> rfl
  simp only [e]
  unfold test
  cases view v h1 with
  | none => rfl
  | some x =>
    simp only
    cases truD x with
    | none => rfl
    | some c => cases c <;> rfl
theorem evalB_and (g : G) (a b : E) (env : Env) (h : Heap) : evalB g (.and a b) env h = (evalB g a env h).bind fun c h1 => if c then evalB g b env h1 else .ok false h1 := by
  conv => lhs; unfold evalB evalE
  rw [bind_assoc, ← evalB_test]
  congr 1
  funext v h1
  rw [test_bind]
  have e : ∀ c : Bool, (Res.bind (if c = true then evalE g b env h1 else Res.ok v h1) fun v h1 => test v h1 fun b => Res.ok b h1) = (if c = true then evalB g b env h1 else (test v h1 fun b => Res.ok b h1)) := by
    intro c; cases c <;> rfl
  simp only [e]
  unfold test
  cases view v h1 with
  | none => rfl
  | some x =>
    simp only
    cases truD x with
    | none => rfl
    | some c => cases c <;> rfl
/-- one test, then the rest -/
theorem tT_then {e : E} {σ : L2.St} {H : Hp} {R : Bool → Hp → Prop} {env : Env} {hp : Heap} {ρ : List Addr} {α : Type} {f : Bool → Heap → Res α} {k : α → List Addr → Heap → Hp → Prop}
    (he : J.F.env ρ H env σ) (hh : J.F.heap ρ hp H) (h : Fin J.F J.Xs J.W ρ H ((evalB J.g e env hp).bind f) k)
    (q : ∀ b ρ' h' H', Ext ρ ρ' H H' → J.F.heap ρ' h' H' → Fin J.F J.Xs J.W ρ' H' (f b h') k → R b H') : tT J e σ H R :=
  ⟨env, hp, ρ, he, hh, (Fin.bind h).mono fun b ρ' h' H' x y z => q b ρ' h' H' x y z⟩
theorem jt_of {a : Expr} {e : E} (h : JE J a e) (he : ∀ whole, isTrue a J.X.env whole = (do let v ← whole; standAt a.pos; holding [v] (truthy v))) : JT J a e := by
  refine (pt_truth h he).imp fun σ H Q z => ?_
  obtain ⟨env, hp, ρ, h1, hh, f⟩ := z
  unfold evalB at f
  refine tE_then h1 hh f fun v ρ1 h1 H1 u x1 y1 d1 f1 => ?_
  obtain ⟨b, tv, f2⟩ := Fin.test y1 d1 f1
  exact ⟨b, tv, f2.here y1⟩
theorem jt_not {a : Expr} {e : E} {pos : Pos} (h : JT J a e) : JT J (.UnaryOp .Not a pos) (.not e) := by
  refine (pt_not h).imp fun σ H Q z => ?_
  obtain ⟨env, hp, ρ, h1, hh, f⟩ := z
  rw [evalB_not] at f
  exact tT_then h1 hh f fun b ρ1 h1 H1 x1 y1 f1 => f1.here y1
theorem je_not {a : Expr} {e : E} {pos : Pos} (h : JE J a e) : JE J (.UnaryOp .Not a pos) (.not e) := by
  refine (pe_notT h).imp fun σ H Q z => ?_
  obtain ⟨env, hp, ρ, h1, hh, f⟩ := z
  unfold evalE at f
  refine tE_then h1 hh f fun v ρ1 h1 H1 u x1 y1 d1 f1 => ?_
  obtain ⟨b, tv, f2⟩ := Fin.test y1 d1 f1
  exact ⟨b, tv, Fin.hereD y1 f2 (.bl _)⟩
theorem je_neg {a : Expr} {e : E} {pos : Pos} (h : JE J a e) : JE J (.UnaryOp .USub a pos) (.neg e) := by
  refine (pe_un un_neg h).imp fun σ H Q z => ?_
  obtain ⟨env, hp, ρ, h1, hh, f⟩ := z
  unfold evalE at f
  refine tE_then h1 hh f fun v ρ1 h1 H1 u x1 y1 d1 f1 => ?_
  obtain ⟨x, sx, _, f2⟩ := Fin.look y1 d1 f1
  obtain ⟨i, ei, f3⟩ := Fin.opt f2
  obtain rfl := intD_some ei
  exact ⟨i, sx.int, Fin.hereD y1 f3 (.int _)⟩
theorem jw_one {a : Expr} {e : E} {pos : Pos} (h : JT J a e) (o : Bool) : JW J (.BoolOp (if o then .Or else .And) [a] pos) e := by
  cases o
  · exact pw_and1 h
  · exact pw_or1 h
theorem jw_or {a b : Expr} {rest : List Expr} {e e' : E} {pos : Pos} (h : JT J a e) (h' : JW J (.BoolOp .Or (b :: rest) pos) e') : JW J (.BoolOp .Or (a :: b :: rest) pos) (.or e e') := by
  refine (pw_or h h').imp fun σ H Q z => ?_
  obtain ⟨env, hp, ρ, h1, hh, f⟩ := z
  rw [evalB_or] at f
  refine tT_then h1 hh f fun b ρ1 h2 H1 x1 y1 f1 => ?_
  cases b
  · exact ⟨env, h2, ρ1, J.F.env_ext x1 h1, y1, f1⟩
  · exact f1.here y1
theorem jw_and {a b : Expr} {rest : List Expr} {e e' : E} {pos : Pos} (h : JT J a e) (h' : JW J (.BoolOp .And (b :: rest) pos) e') : JW J (.BoolOp .And (a :: b :: rest) pos) (.and e e') := by
  refine (pw_and h h').imp fun σ H Q z => ?_
  obtain ⟨env, hp, ρ, h1, hh, f⟩ := z
  rw [evalB_and] at f
  refine tT_then h1 hh f fun b ρ1 h2 H1 x1 y1 f1 => ?_
  cases b
  · exact f1.here y1
  · exact ⟨env, h2, ρ1, J.F.env_ext x1 h1, y1, f1⟩
theorem je_or {a b : Expr} {rest : List Expr} {e e' : E} {pos : Pos} (h : JE J a e) (h' : JE J (.BoolOp .Or (b :: rest) pos) e') : JE J (.BoolOp .Or (a :: b :: rest) pos) (.or e e') := by
  refine (pe_orT h h').imp fun σ H Q z => ?_
  obtain ⟨env, hp, ρ, h1, hh, f⟩ := z
  unfold evalE at f
  refine tE_then h1 hh f fun v ρ1 h2 H1 u x1 y1 d1 f1 => ?_
  obtain ⟨b, tv, f2⟩ := Fin.test y1 d1 f1
  refine ⟨b, tv, ?_⟩
  cases b
  · exact ⟨env, h2, ρ1, J.F.env_ext x1 h1, y1, f2⟩
  · exact f2.here y1 u d1
theorem je_and {a b : Expr} {rest : List Expr} {e e' : E} {pos : Pos} (h : JE J a e) (h' : JE J (.BoolOp .And (b :: rest) pos) e') : JE J (.BoolOp .And (a :: b :: rest) pos) (.and e e') := by
  refine (pe_andT h h').imp fun σ H Q z => ?_
  obtain ⟨env, hp, ρ, h1, hh, f⟩ := z
  unfold evalE at f
  refine tE_then h1 hh f fun v ρ1 h2 H1 u x1 y1 d1 f1 => ?_
  obtain ⟨b, tv, f2⟩ := Fin.test y1 d1 f1
  refine ⟨b, tv, ?_⟩
  cases b
  · exact f2.here y1 u d1
  · exact ⟨env, h2, ρ1, J.F.env_ext x1 h1, y1, f2⟩
theorem je_ite {c a b : Expr} {ec ea eb : E} {pos : Pos} (hc : JT J c ec) (ha : JE J a ea) (hb : JE J b eb) : JE J (.IfExp c a b pos) (.ite ec ea eb) := by
  refine (pe_ifExp hc ha hb).imp fun σ H Q z => ?_
  obtain ⟨env, hp, ρ, h1, hh, f⟩ := z
  unfold evalE at f
  rw [evalB_test] at f
  refine tT_then h1 hh f fun t ρ1 h2 H1 x1 y1 f1 => ?_
  cases t
  · exact ⟨env, h2, ρ1, J.F.env_ext x1 h1, y1, f1⟩
  · exact ⟨env, h2, ρ1, J.F.env_ext x1 h1, y1, f1⟩
/-! ### chains -/
theorem tChain_of {a b c : E} {o1 o2 : COp} {σ : L2.St} {H : Hp} {Q : VK} (h : tE J (.chain o1 o2 a b c) σ H Q) :
    tChain (rB J.F (cmpD o1)) (rB J.F (cmpD o2)) (tE J a) (tE J b) (tE J c) σ H Q := by
  obtain ⟨env, hp, ρ, he, hh, f⟩ := h
  unfold evalE at f
  refine tE_then2 he hh f fun v u ρ2 h2 H2 x y x2 y2 dv du f2 => ?_
  obtain ⟨dx, sx, _, f3⟩ := Fin.look y2 dv f2
  obtain ⟨dy, sy, vy, f4⟩ := Fin.look y2 du f3
  split at f4
  · rename_i e
    refine ⟨dx, dy, true, sx, sy, e, true, rfl, ?_⟩
    rw [if_pos rfl]
    refine tE_then (J.F.env_ext x2 he) y2 f4 fun w ρ3 h3 H3 z x3 y3 dw f5 => ?_
    obtain ⟨dy', sy', _, f5'⟩ := Fin.look y3 (du.ext x3) f5
    obtain ⟨dz, sz, _, f6⟩ := Fin.look y3 dw f5'
    obtain ⟨d, e', f7⟩ := Fin.okB f6
    exact ⟨dy', dz, d, sy', sz, e', Fin.hereD y3 f7 (.bl d)⟩
  · rename_i e
    exact ⟨dx, dy, false, sx, sy, e, false, rfl, by rw [if_neg (by decide)]; exact Fin.hereD y2 f4 (.bl false)⟩
  · exact f4.elim
theorem je_chain (ok : J.Ok) {a b c : Expr} {ea eb ec : E} {o1 o2 : COp} {pos : Pos} (ha : JE J a ea) (hb : JE J b eb) (hc : JE J c ec) (hm : behindInMarks (cmpOf o2) c = false) :
    JE J (.Compare a [cmpOf o1, cmpOf o2] [b, c] pos) (.chain o1 o2 ea eb ec) :=
  (pe_chain (o_cmp (tv := J.tv) (xp := J.xp) ok.units o1) (o_cmp (tv := J.tv) (xp := J.xp) ok.units o2) ha hb hc hm).imp fun _ _ _ h => tChain_of h
theorem jt_chain (ok : J.Ok) {a b c : Expr} {ea eb ec : E} {o1 o2 : COp} {pos : Pos} (ha : JE J a ea) (hb : JE J b eb) (hc : JE J c ec) (hm : behindInMarks (cmpOf o2) c = false) :
    JT J (.Compare a [cmpOf o1, cmpOf o2] [b, c] pos) (.chain o1 o2 ea eb ec) := by
  refine (pt_chain (o_cmp (tv := J.tv) (xp := J.xp) ok.units o1) (o_cmp (tv := J.tv) (xp := J.xp) ok.units o2) ha hb hc hm).imp fun σ H Q h => ?_
  refine tChain_of ?_
  obtain ⟨env, hp, ρ, he, hh, f⟩ := h
  unfold evalB at f
  -- a chain is a truth value
  refine ⟨env, hp, ρ, he, hh, ?_⟩
  have key : ∀ r : Res PV, (∀ v h, r = .ok v h → ∃ b, v = .d (.bl b)) → Fin J.F J.Xs J.W ρ H (r.bind fun v h1 => test v h1 fun b => .ok b h1) (fun b _ _ H' => Q b H') →
      Fin J.F J.Xs J.W ρ H r (fun v ρ' _ H' => ∀ u, J.F.denP ρ' H' v u → ∃ k, u = .bl k ∧ Q k H') := by
    intro r hr z
    cases r with
    | ok v h1 =>
      obtain ⟨b, rfl⟩ := hr v h1 rfl
      intro ρ' H' x y u d
      cases d with | d d => cases d; exact ⟨b, rfl, z ρ' H' x y⟩
    | exc c pl h1 => exact z
    | bad => exact z
  refine key _ (fun v h1 e => ?_) f
  have fin : ∀ {x : Option Bool} {h h1 : Heap} {v : PV}, okB x h = .ok v h1 → ∃ b, v = .d (.bl b) := fun {x h h1 v} e => by
    cases x with
    | none => cases e
    | some b => cases e; exact ⟨b, rfl⟩
  have lk : ∀ {u v : PV} {h h1 : Heap} {f : D → Res PV}, look u h f = .ok v h1 → (∀ x, f x = .ok v h1 → ∃ b, v = .d (.bl b)) → ∃ b, v = .d (.bl b) := fun {u v h h1 f} e q => by
    unfold look at e
    split at e
    · exact q _ e
    · cases e
  have bd : ∀ {r : Res PV} {v : PV} {h1 : Heap} {f : PV → Heap → Res PV}, r.bind f = .ok v h1 → (∀ x h, f x h = .ok v h1 → ∃ b, v = .d (.bl b)) → ∃ b, v = .d (.bl b) := fun {r v h1 f} e q => by
    cases r with
    | ok a h => exact q a h e
    | exc _ _ _ => cases e
    | bad => cases e
  unfold evalE at e
  refine bd e fun x h e => bd e fun y h e => lk e fun dx e => lk e fun dy e => ?_
  split at e
  · exact bd e fun z h e => lk e fun _ e => lk e fun _ e => fin e
  · cases e; exact ⟨_, rfl⟩
  · cases e
end
end Ev
end
section
/-! EvG: indexes, slices, built-in functions, by values and as expressions. -/
set_option autoImplicit false
set_option linter.all false
set_option maxRecDepth 100000
set_option maxHeartbeats 1000000
set_option Elab.async false
namespace Ev
open PySem PySem.Spec L2

theorem spot_ixN (n : Nat) (i : Int) : ixN n i = spot n i := by
  unfold ixN spot
  by_cases h : 0 ≤ i
  · rw [if_pos h, if_pos h]
  · rw [if_neg h, if_neg h]
    by_cases h1 : -(n : Int) ≤ i
    · rw [if_pos h1, if_pos (by omega)]
    · rw [if_neg h1, if_neg (by omega)]
/-! ### dicts -/
theorem leaf_is {P : Program} {w : World} {K : Frag} {H : Hp} {x : D} {u : V} {v : Value} {lf : Leaf} (d : Den P w K H x u) (r : RelV u v) (e : leafOf x = some lf) : (leafKind P w).is lf v = true := by
  cases d <;> simp only [leafOf, Option.some.injEq] at e <;> (first | (cases e; done) | subst e)
  · cases r; rfl
  · cases r; exact decide_eq_true rfl
  · obtain ⟨t, rfl⟩ := r; exact decide_eq_true rfl
  · obtain ⟨t, rfl⟩ := r
    show Value.isStrOf _ (.str _ t) = true
    simp [Value.isStrOf]
theorem leaf_of {P : Program} {w : World} {K : Frag} {H : Hp} {x : D} {u : V} {v : Value} {lf : Leaf} (d : Den P w K H x u) (r : RelV u v) (e : (leafKind P w).is lf v = true) : leafOf x = some lf := by
  cases h : leafOf x with
  | some l2 =>
    have e2 := leaf_is d r h
    rw [(leafKind P w).inj v _ _ e2 e]
  | none =>
    cases d <;> simp [leafOf] at h
    all_goals
      cases r
      cases lf <;> exact absurd e (by simp [leafKind, Leaf.isOf, Value.isStrOf])
theorem flat_leaf {x : D} (f : flat x = true) : ∃ lf, leafOf x = some lf := by
  cases x <;> simp [flat] at f <;> exact ⟨_, rfl⟩
theorem eq_leaf {a b : D} (fa : flat a = true) (fb : flat b = true) : D.eq a b = decide (leafOf a = leafOf b) := by
  cases a <;> simp [flat] at fa <;> cases b <;> simp [flat] at fb <;> simp only [D.eq, leafOf]
  all_goals first
    | (simp; done)
    | (rw [Bool.eq_iff_iff]; simp; done)
    | (rename_i x y; cases x <;> cases y <;> simp; done)
    | (rename_i x y; cases x <;> (rw [Bool.eq_iff_iff]; simp); done)
    | (rename_i x y; cases y <;> (rw [Bool.eq_iff_iff]; simp); done)
    | skip
  all_goals
    rename_i s t
    rw [Bool.eq_iff_iff]
    simp
    exact ⟨fun e => by rw [e], fun e => T_inj e⟩
/-- exact keys are keys up to == -/
theorem leafs_of {P : Program} {w : World} {K : Frag} {H : Hp} : ∀ {ks : List D} {us : List V} {es : List DictEntry} {kvs : List (Leaf × Value)}, Dens P w K H ks us → Vals us (es.map (·.key)) → Pairs (leafKind P w) es kvs →
    ks.map leafOf = kvs.map (fun p => some p.1)
  | [], _, es, kvs, .nil, r, p => by
    cases es with
    | nil => cases p; rfl
    | cons e es => cases r
  | k :: ks, _, es, kvs, .cons d dd, r, p => by
    cases es with
    | nil => cases r
    | cons e es =>
      cases r with
      | cons r1 r2 =>
        cases p with
        | cons p1 p2 p3 => rw [List.map_cons, List.map_cons, leaf_of d r1 p1, leafs_of dd r2 p3]
theorem vals_of {P : Program} {w : World} : ∀ {ws : List V} {es : List DictEntry} {kvs : List (Leaf × Value)}, Vals ws (es.map (·.val)) → Pairs (leafKind P w) es kvs → Vals ws (kvs.map (·.2))
  | _, [], _, r, .nil => r
  | _, e :: es, _, .cons r1 r2, .cons p1 p2 p3 => by
    rw [List.map_cons, ← p2]
    exact .cons r1 (vals_of r2 p3)
theorem pairs_len {P : Program} {w : World} : ∀ {es : List DictEntry} {kvs : List (Leaf × Value)}, Pairs (leafKind P w) es kvs → es.length = kvs.length
  | [], _, .nil => rfl
  | _ :: _, _, .cons _ _ p => by simp [pairs_len p]
theorem DcO.toM {P : Program} {w : World} {K : Frag} {H : Hp} {o : Obj} {ks : List D} {us ws : List V} (h : DcO P w o us ws) (d : Dens P w K H ks us) : DcM P w o ks ws := by
  obtain ⟨es, ep, kvs, h1, h2, h3, h4, h5, h6, h7, h8⟩ := h
  exact ⟨es, ep, kvs, h1, h2, h3, h4, h5, leafs_of d h6 h4, vals_of h7 h4, by rw [← pairs_len h4]; simpa using h8⟩
/-- a dict that is seen stands in the heap -/
theorem sees_dct {X : Cx} {pins : List (Addr × Obj)} {σ : L2.St} {H : Hp} {s : Shared} (I : Inv X pins σ H s) {ks vs : List D} {x : V} (h : Sees X.prog X.w X.K H (.dct ks vs) x) :
    ∃ a o ws, x = .ref a ∧ (a == sysModules) = false ∧ s.heap.get? a = some o ∧ DcM X.prog X.w o ks ws ∧ Dens X.prog X.w X.K H vs ws := by
  cases h with
  | den h =>
    cases h with
    | @dct a us ws _ _ hz d e =>
      obtain ⟨h0, o, ho, hd⟩ := hz
      refine ⟨a, o, ws, rfl, h0, ?_, hd.toM d, e⟩
      rcases ho with ho | ho
      · exact (I.hok a _ ho).1
      · exact I.kIn a o ho
  | @dct a ws _ _ o h0 ho hd e => exact ⟨a, o, ws, rfl, h0, (I.hok a _ ho).1, hd, e⟩
theorem DcM.dictOf {P : Program} {w : World} {o : Obj} {ks : List D} {ws : List V} {h : PySem.Heap} {a : Addr} (m : DcM P w o ks ws) (e : h.get? a = some o) :
    ∃ kvs, h.DictOf (leafKind P w) a kvs ∧ ks.map leafOf = kvs.map (fun p => some p.1) ∧ Vals ws (kvs.map (·.2)) ∧ kvs.length ≤ sizeLine := by
  obtain ⟨es, ep, kvs, h1, h2, h3, h4, h5, h6, h7, h8⟩ := m
  exact ⟨kvs, ⟨o, es, ep, e, h1, h2, h3, h4, h5⟩, h6, h7, h8⟩
theorem keyEq_leaf {k y : D} {b : Bool} (e : keyEq k y = some b) : b = decide (leafOf k = leafOf y) ∧ flat k = true := by
  unfold keyEq at e
  split at e
  · rename_i h
    rw [Bool.and_eq_true] at h
    cases e
    exact ⟨eq_leaf h.1 h.2, h.1⟩
  · cases e
theorem find_some {k : D} {lf : Leaf} (hl : leafOf k = some lf) : ∀ {ks : List D} {kvs : List (Leaf × Value)} {j : Nat}, ks.map leafOf = kvs.map (fun p => some p.1) → findKey k ks = some (some j) →
    ∃ p, kvs[j]? = some p ∧ p.1 = lf ∧ valueAt kvs lf = some p.2
  | [], _, _, _, e => by simp [findKey] at e
  | y :: ks, [], _, h, _ => by simp at h
  | y :: ks, p :: kvs, j, h, e => by
    rw [List.map_cons, List.map_cons, List.cons.injEq] at h
    unfold findKey at e
    split at e
    · rename_i eq
      obtain ⟨e1, _⟩ := keyEq_leaf eq
      cases e
      have e2 : leafOf k = leafOf y := of_decide_eq_true e1.symm
      rw [hl, h.1, Option.some.injEq] at e2
      refine ⟨p, rfl, e2.symm, ?_⟩
      simp [valueAt, e2]
    · rename_i eq
      obtain ⟨e1, _⟩ := keyEq_leaf eq
      have e2 : leafOf k ≠ leafOf y := of_decide_eq_false e1.symm
      rw [hl, h.1] at e2
      have e3 : ¬ p.1 = lf := fun z => e2 (by rw [z])
      split at e <;> cases e
      rename_i i hi
      obtain ⟨q, q1, q2, q3⟩ := find_some hl h.2 hi
      refine ⟨q, by simpa using q1, q2, ?_⟩
      unfold valueAt at q3 ⊢
      rw [List.find?_cons_of_neg (by simpa using e3)]
      exact q3
    · cases e
theorem find_none {k : D} {lf : Leaf} (hl : leafOf k = some lf) : ∀ {ks : List D} {kvs : List (Leaf × Value)}, ks.map leafOf = kvs.map (fun p => some p.1) → findKey k ks = some none → ∀ p ∈ kvs, p.1 ≠ lf
  | [], [], _, _ => by simp
  | [], _ :: _, h, _ => by simp at h
  | y :: ks, [], h, _ => by simp at h
  | y :: ks, p :: kvs, h, e => by
    rw [List.map_cons, List.map_cons, List.cons.injEq] at h
    unfold findKey at e
    split at e
    · cases e
    · rename_i eq
      obtain ⟨e1, _⟩ := keyEq_leaf eq
      have e2 : leafOf k ≠ leafOf y := of_decide_eq_false e1.symm
      rw [hl, h.1] at e2
      split at e <;> cases e
      rename_i hi
      intro q hq
      rcases List.mem_cons.mp hq with rfl | hq
      · exact fun z => e2 (by rw [z])
      · exact find_none hl h.2 hi q hq
    · cases e
theorem find_flat {k : D} : ∀ {ks : List D} {r : Option Nat}, findKey k ks = some r → ks ≠ [] → flat k = true
  | [], _, _, h => absurd rfl h
  | y :: ks, _, e, _ => by
    unfold findKey at e
    split at e
    · rename_i eq; exact (keyEq_leaf eq).2
    · rename_i eq; exact (keyEq_leaf eq).2
    · cases e
theorem ix_dct {X : Cx} {tv : V} {xp : XP} : IxR X (fun x y H Q => ∃ ks vs i d, (fx X tv xp).sees H (.dct ks vs) x ∧ (fx X tv xp).sees H i y ∧ idxD (.dct ks vs) i = some d ∧ ∀ u, (fx X tv xp).den H d u → Q u H) := by
  intro value slice pins s σ H x y v u Q I rx ry h hs
  obtain ⟨ks, vs, i, d, sa, si, e, q⟩ := h
  obtain ⟨a, o, ws, rfl, h0, ho, hm, dv⟩ := sees_dct I sa
  obtain ⟨kvs, hd, hk, hv, hz⟩ := hm.dictOf ho
  cases rx
  simp only [idxD] at e
  unfold dctAt at e
  cases ef : findKey i ks with
  | none => rw [ef] at e; simp at e
  | some r =>
    cases r with
    | none => rw [ef] at e; simp at e
    | some j =>
      rw [ef] at e
      simp only at e
      have fi : flat i = true := find_flat ef (fun z => by subst z; simp [findKey] at ef)
      obtain ⟨lf, hl⟩ := flat_leaf fi
      obtain ⟨p, p1, p2, p3⟩ := find_some hl hk ef
      obtain ⟨w', hw, dw⟩ := dv.get e
      obtain ⟨val, e4, r4⟩ := Vals.get hv hw
      rw [List.getElem?_map, p1] at e4
      cases e4
      have key := leaf_is (si.flat fi) ry hl
      refine PyProof.Rows.tail_any hd.mapOf.typeIs PySem.F.slot_dict_getitem.lookup (wpAny_getItem_of key hd.mapOf p3 ⟨w', H, I.tok _, r4, q w' dw⟩) hs
end Ev

namespace Ev
open PySem PySem.Spec L2
section
variable {X : Cx} {tv : V} {xp : XP}
/-- a[i] by values: data, or a list of lists that change -/
def rIxA (F : Fx) : R2 := fun x y H Q => (∃ a i d, F.sees H a x ∧ F.sees H i y ∧ idxD a i = some d ∧ ∀ u, F.den H d u → Q u H) ∨
  ∃ p us k j b, x = .ref p ∧ y = .int k ∧ H p = some (.lst us) ∧ spot us.length k = some j ∧ us[j]? = some b ∧ Q b H
theorem at_of {α : Type} {xs : List α} {i : Int} {j : Nat} {v : α} (h : spot xs.length i = some j) (e : xs[j]? = some v) : atI xs i = some v := by
  unfold atI
  rw [spot_ixN, h]
  exact e
theorem ix_all (hdct : IxR X (fun x y H Q => ∃ ks vs i d, (fx X tv xp).sees H (.dct ks vs) x ∧ (fx X tv xp).sees H i y ∧ idxD (.dct ks vs) i = some d ∧ ∀ u, (fx X tv xp).den H d u → Q u H)) : IxR X (rIxA (fx X tv xp)) := by
  intro value slice pins s σ H x y v u Q I rx ry h hs
  rcases h with ⟨a, i, d, sa, si, e, q⟩ | ⟨p, us, k, j, b, rfl, rfl, hp, e1, e2, q⟩
  · cases a <;> (first | (exfalso; simp only [idxD] at e; cases e; done) | skip)
    · cases i <;> simp only [idxD] at e <;> (first | (cases e; done) | skip)
      obtain ⟨rfl, hl⟩ := sa.str
      obtain rfl := si.int
      unfold strAt at e
      split at e <;> (first | (cases e; done) | skip)
      rename_i k hk
      unfold sign at e
      split at e <;> cases e
      rename_i c hc
      refine ix_str value slice pins s σ H _ _ v u Q I rx ry ⟨T _, _, c, rfl, rfl, hl, at_of hk hc, ?_⟩ hs
      exact q _ (.str (by rw [sizeLine_eq]; exact Nat.le_of_ble_eq_true rfl))
    · cases i <;> simp only [idxD] at e <;> (first | (cases e; done) | skip)
      obtain ⟨a, us, rfl, ha, da⟩ := sa.tup
      obtain rfl := si.int
      unfold seqAt at e
      split at e <;> (first | (cases e; done) | skip)
      rename_i k hk
      obtain ⟨w, hw, dw⟩ := da.get e
      rw [da.length] at hk
      exact ix_tup value slice pins s σ H _ _ v u Q I rx ry ⟨a, us, _, w, rfl, rfl, ha, at_of hk hw, q _ dw⟩ hs
    · cases i <;> simp only [idxD] at e <;> (first | (cases e; done) | skip)
      obtain ⟨a, us, rfl, ha, da⟩ := sa.lst'
      obtain rfl := si.int
      unfold seqAt at e
      split at e <;> (first | (cases e; done) | skip)
      rename_i k hk
      obtain ⟨w, hw, dw⟩ := da.get e
      rw [da.length] at hk
      exact ix_list value slice pins s σ H _ _ v u Q I rx ry ⟨a, us, _, w, rfl, rfl, ha.l, at_of hk hw, q _ dw⟩ hs
    · exact hdct value slice pins s σ H _ _ v u Q I rx ry ⟨_, _, i, d, sa, si, e, q⟩ hs
  · exact ix_list value slice pins s σ H _ _ v u Q I rx ry ⟨p, us, k, b, rfl, rfl, .of hp, at_of e1 e2, q⟩ hs

/-! ### slices -/
theorem ix_same (n d : Nat) (i : Option Int) : ixL n d i = HT.sIx n d i := by cases i <;> rfl
theorem Dens.cut {P : Program} {w : World} {K : Frag} {H : Hp} {xs : List D} {us : List V} (h : Dens P w K H xs us) (lo hi : Option Int) : Dens P w K H (sliceL xs lo hi) (cutV us lo hi) := by
  unfold sliceL cutV
  rw [ix_same, ix_same, h.length]
  exact (h.drop _).take _
def rSlA' (F : Fx) : V → Option Int → Option Int → Hp → VK → Prop := fun x lo hi H Q => ∃ a d, F.sees H a x ∧ sliceD a lo hi = some d ∧ ∀ u H', New H H' → F.den H' d u → Q u H'
theorem sl_all : SlR X (rSlA' (fx X tv xp)) := by
  intro pins s σ H x v vl vu lo hi sl Q I rx hs pl pu h
  obtain ⟨a, d, sa, e, q⟩ := h
  cases a <;> simp only [sliceD] at e <;> cases e
  · obtain ⟨rfl, hl⟩ := sa.str
    rename_i t
    refine sl_str pins s σ H _ v vl vu lo hi sl Q I rx hs pl pu ⟨T t, rfl, hl, ?_⟩
    have e2 : cutS (T t) lo hi = T (sliceL t lo hi) := by
      unfold cutS sliceL T
      rw [ix_same, ix_same]
      rfl
    rw [e2]
    refine q _ H (New.refl H) (.str (Nat.le_trans ?_ hl))
    unfold sliceL
    rw [List.length_take, List.length_drop]
    omega
  · obtain ⟨a, us, rfl, ha, da⟩ := sa.tup
    refine sl_tupA pins s σ H _ v vl vu lo hi sl Q I rx hs pl pu ⟨a, us, rfl, ha, fun z => ?_, fun _ p hp => ?_⟩
    · have e3 : cutV us lo hi = us := by
        unfold cutV
        rw [z.1, z.2, List.drop_zero, Nat.sub_zero, List.take_length]
      have dc := da.cut lo hi
      rw [e3] at dc
      exact q _ H (New.refl H) (.tup ha dc)
    · exact q _ _ (New.upd _ hp) (.tup (.of upd_same) ((da.cut lo hi).tf (New.upd _ hp).tf))
  · obtain ⟨a, us, rfl, ha, da⟩ := sa.lst'
    obtain ⟨T', id, h1, h2, h3⟩ := sl_list pins s σ H (.ref a) v vl vu lo hi sl (KQ Q) I rx hs pl pu ⟨a, us, rfl, ha.l, fun p hp => ⟨p, cutV us lo hi, rfl, upd_same, fun o => by
      have n2 := New.upd2 (.lst (cutV us lo hi)) (.frz o (.lst (cutV us lo hi))) hp
      exact q _ _ n2 (.lst (.inl ⟨o, upd_same⟩) ((da.cut lo hi).tf n2.tf))⟩⟩
    exact ⟨T', id, h1, h2, L2.thn h3 fun u s' z => EP.known z⟩
end

/-! ### the rules -/
section
variable {J : Jx}
theorem sees_int {F : Fx} {H : Hp} {y : D} {u : V} (h : F.sees H y u) : (∃ i, y = .int i ∧ u = .int i) ∨ (∀ i, y ≠ .int i) := by
  cases y with
  | int i => exact .inl ⟨i, rfl, h.int⟩
  | _ => exact .inr fun i e => nomatch e
theorem je_sliL {a lo : Expr} {ea el : E} {p2 pos : Pos} (ha : JE J a ea) (hl : JE J lo el) : JE J (.Subscript a (.Slice (some lo) none none p2) pos) (.sliL ea el) := by
  refine (pe_slice (sl_all (tv := J.tv) (xp := J.xp)) ha (po_some hl) po_none).imp fun σ H Q h => ?_
  obtain ⟨env, hp, ρ, he, hh, f⟩ := h
  unfold evalE at f
  refine tE_then he hh f fun v ρ1 h1 H1 x x1 y1 d1 f1 => tE_then (J.F.env_ext x1 he) y1 f1 fun u ρ2 h2 H2 y x2 y2 d2 f2 => ?_
  obtain ⟨dx, sx, _, f3⟩ := Fin.look y2 (d1.ext x2) f2
  obtain ⟨dy, sy, _, f4⟩ := Fin.look y2 d2 f3
  obtain ⟨i, ei, f4'⟩ := Fin.opt f4
  obtain rfl := intD_some ei
  obtain ⟨d, e, f5⟩ := Fin.okD f4'
  exact ⟨_, sy.int, dx, d, sx, e, Fin.newD y2 f5⟩
theorem je_sliH {a hi : Expr} {ea eh : E} {p2 pos : Pos} (ha : JE J a ea) (hh' : JE J hi eh) : JE J (.Subscript a (.Slice none (some hi) none p2) pos) (.sliH ea eh) := by
  refine (pe_slice (sl_all (tv := J.tv) (xp := J.xp)) ha po_none (po_some hh')).imp fun σ H Q h => ?_
  obtain ⟨env, hp, ρ, he, hh, f⟩ := h
  unfold evalE at f
  refine tE_then he hh f fun v ρ1 h1 H1 x x1 y1 d1 f1 => tE_then (J.F.env_ext x1 he) y1 f1 fun u ρ2 h2 H2 y x2 y2 d2 f2 => ?_
  obtain ⟨dx, sx, _, f3⟩ := Fin.look y2 (d1.ext x2) f2
  obtain ⟨dy, sy, _, f4⟩ := Fin.look y2 d2 f3
  obtain ⟨i, ei, f4'⟩ := Fin.opt f4
  obtain rfl := intD_some ei
  obtain ⟨d, e, f5⟩ := Fin.okD f4'
  exact ⟨_, sy.int, dx, d, sx, e, Fin.newD y2 f5⟩
theorem je_sliB {a lo hi : Expr} {ea el eh : E} {p2 pos : Pos} (ha : JE J a ea) (hl : JE J lo el) (hh' : JE J hi eh) : JE J (.Subscript a (.Slice (some lo) (some hi) none p2) pos) (.sliB ea el eh) := by
  refine (pe_slice (sl_all (tv := J.tv) (xp := J.xp)) ha (po_some hl) (po_some hh')).imp fun σ H Q h => ?_
  obtain ⟨env, hp, ρ, he, hh, f⟩ := h
  unfold evalE at f
  refine tE_then he hh f fun v ρ1 h1 H1 x x1 y1 d1 f1 => tE_then (J.F.env_ext x1 he) y1 f1 fun u ρ2 h2 H2 y x2 y2 d2 f2 => ?_
  obtain ⟨dy, sy, _, f3⟩ := Fin.look y2 d2 f2
  obtain ⟨i, ei, f3⟩ := Fin.opt f3
  obtain rfl := intD_some ei
  refine ⟨i, sy.int, ?_⟩
  refine tE_then (J.F.env_ext (x1.trans x2) he) y2 f3 fun w ρ3 h3 H3 z x3 y3 d3 f3 => ?_
  obtain ⟨dx, sx, _, f3⟩ := Fin.look y3 (d1.ext (x2.trans x3)) f3
  obtain ⟨dz, sz, _, f4⟩ := Fin.look y3 d3 f3
  obtain ⟨j, ej, f4⟩ := Fin.opt f4
  have ez := intD_some ej
  subst ez
  obtain ⟨d, e, f5⟩ := Fin.okD f4
  exact ⟨j, sz.int, dx, d, sx, e, Fin.newD y3 f5⟩
theorem idx_post (ok : J.Ok) {v u : PV} {ρ2 : List Addr} {h2 : Heap} {H2 : Hp} {x y : V} {Q : VK} (y2 : J.F.heap ρ2 h2 H2) (dv : J.F.denP ρ2 H2 v x) (du : J.F.denP ρ2 H2 u y)
    (f2 : Fin J.F J.Xs J.W ρ2 H2 (look u h2 fun y => idxGo v y h2) (fun v ρ' _ H' => ∀ u, J.F.denP ρ' H' v u → Q u H')) : rIxA J.F x y H2 Q := by
  obtain ⟨dy, sy, _, f3⟩ := Fin.look y2 du f2
  have plain : Fin J.F J.Xs J.W ρ2 H2 (look v h2 fun x => okD (idxD x dy) h2) (fun v ρ' _ H' => ∀ u, J.F.denP ρ' H' v u → Q u H') → rIxA J.F x y H2 Q := fun z => by
    obtain ⟨dx, sx, _, f4⟩ := Fin.look y2 dv z
    obtain ⟨d, e, f5⟩ := Fin.okD f4
    exact .inl ⟨dx, dy, d, sx, sy, e, fun u dd => Fin.hereD y2 f5 dd⟩
  unfold idxGo at f3
  cases er : rwsOf v h2 with
  | none => rw [er] at f3; exact plain f3
  | some ns =>
    rw [er] at f3
    obtain ⟨n, rfl, e⟩ := rwsOf_some er
    cases dv with
    | @ref _ a hn =>
      obtain ⟨as, h1, h2', h3⟩ := y2.at_ n _ a e hn
      obtain ⟨k, ek, f4⟩ := Fin.opt f3
      obtain rfl := intD_some ek
      obtain ⟨j, hj, f5⟩ := Fin.opt f4
      obtain ⟨m, hm, f6⟩ := Fin.opt f5
      obtain ⟨b, e1, e2⟩ := h3 j m hm
      refine .inr ⟨a, as.map V.ref, k, j, .ref b, rfl, sy.int, h1, by rw [List.length_map, h2']; exact hj, by rw [List.getElem?_map, e1]; rfl, ?_⟩
      exact f6.here y2 _ (.ref e2)
end
end Ev
end
section
/-! EvH: x[::-1], isinstance, built-in functions. -/
set_option autoImplicit false
set_option linter.all false
set_option maxRecDepth 100000
set_option maxHeartbeats 1000000
set_option Elab.async false
namespace Ev
open PySem PySem.Spec L2

/-! ### x[::-1] -/
section
variable {prog : Program} {w : World} {A : Around} {E : Value → Shared → Prop} {s : Shared}
theorem rev_places (n : Nat) : Builtin.Slice.sliceAdjust none none (-1) (n : Int) = ((n : Int) - 1, -1) ∧ Builtin.Slice.slicePlaces ((n : Int) - 1) (-1) (-1) = n := by
  constructor
  · unfold Builtin.Slice.sliceAdjust
    have h1 : (-1 : Int) < 0 := by omega
    simp only [h1, if_true]
  · unfold Builtin.Slice.slicePlaces
    have h1 : ¬ (-1 : Int) > 0 := by omega
    simp only [h1, if_false]
    split
    · rw [show (-(-1) : Int) = 1 by omega, Int.ediv_one]; omega
    · omega
theorem fm_congr {α β : Type} {f g : α → Option β} : ∀ {l : List α}, (∀ x ∈ l, f x = g x) → l.filterMap f = l.filterMap g
  | [], _ => rfl
  | a :: l, h => by
    rw [List.filterMap_cons, List.filterMap_cons, h a (by simp), fm_congr (l := l) fun x hx => h x (by simp [hx])]
theorem rev_pick (xs : Array Value) : ((List.range xs.size).filterMap fun (m : Nat) => xs[(((xs.size : Int) - 1) + (m : Int) * (-1)).toNat]?) = xs.toList.reverse := by
  have e : ∀ m ∈ List.range xs.size, (xs[(((xs.size : Int) - 1) + (m : Int) * (-1)).toNat]?) = xs.toList.reverse[m]? := by
    intro m hm
    have hm' := List.mem_range.mp hm
    have k : (((xs.size : Int) - 1) + (m : Int) * (-1)).toNat = xs.toList.length - 1 - m := by rw [Array.length_toList]; omega
    rw [List.getElem?_reverse (by rw [Array.length_toList]; exact hm'), ← Array.getElem?_toList, k]
  rw [show (List.range xs.size).filterMap (fun (m : Nat) => xs[(((xs.size : Int) - 1) + (m : Int) * (-1)).toNat]?) = (List.range xs.size).filterMap (fun m => xs.toList.reverse[m]?) from fm_congr e]
  have l : xs.size = xs.toList.reverse.length := by rw [List.length_reverse, Array.length_toList]
  rw [l]
  generalize xs.toList.reverse = ys
  clear e l
  induction ys with
  | nil => rfl
  | cons y r ih =>
    rw [List.length_cons, List.range_succ_eq_map, List.filterMap_cons]
    simp only [List.getElem?_cons_zero, List.filterMap_map]
    congr 1
theorem applied_rev {sl : Addr} {t : Tok} {n : Nat} {Q : Int × Int × Nat → Shared → Prop} (hs : s.heap.IsSliceOf sl .none .none (.int (-1) t)) (h : Q ((n : Int) - 1, -1, n) s) :
    wpAny (model prog w) A (Builtin.Slice.sliceApplied (.ref sl) (pure (n : Int))) Q E s := by
  obtain ⟨os, hos, hcs, hds⟩ := id hs
  unfold Builtin.Slice.sliceApplied Builtin.Slice.sliceFields
  refine wpAny_bind (wpAny_bind (wpAny_field hos hds (x := .none) rfl (wpAny_bind (wpAny_field hos hds (x := .none) rfl (wpAny_bind (wpAny_field hos hds (x := .int (-1) t) rfl (wpAny_pure ?_)))))))
  refine wpAny_bind (PyProof.Rows.slicePart_int ?_)
  show wpAny _ _ (if ((-1 : Int) == 0) = true then _ else _) _ _ s
  rw [if_neg (by decide)]
  refine wpAny_bind (PyProof.Rows.slicePart_none (wpAny_bind (PyProof.Rows.slicePart_none (wpAny_bind (wpAny_pure ?_)))))
  show wpAny _ _ (match Builtin.Slice.sliceAdjust none none (-1) (n : Int) with | (lo, hi) => pure (lo, (-1 : Int), Builtin.Slice.slicePlaces lo hi (-1))) _ _ s
  rw [(rev_places n).1]
  show wpAny _ _ (pure ((n : Int) - 1, (-1 : Int), Builtin.Slice.slicePlaces ((n : Int) - 1) (-1) (-1))) _ _ s
  rw [(rev_places n).2]
  exact wpAny_pure h
theorem tuple_rev {a sl : Addr} {t : Tok} {items : Array Value} {Q : Value → Shared → Prop} (ht : PyProof.Rows.IsTup s.heap a items) (hs : s.heap.IsSliceOf sl .none .none (.int (-1) t)) (hsz : items.size ≤ sizeLine)
    (h : Q (.ref s.heap.objs.size) { s with heap := s.heap.push { cls := .type "tuple", data := .seq items.toList.reverse.toArray } }) : wpAny (model prog w) A (getItem (.ref a) (.ref sl)) Q E s := by
  have ok : sizeOk (.seq items.toList.reverse.toArray) := by
    show items.toList.reverse.toArray.size ≤ sizeLine
    rw [List.size_toArray, List.length_reverse, Array.length_toList]; exact hsz
  have hTs : s.TypeIs (.ref sl) "slice" := let ⟨os, hos, hcs, _⟩ := hs; ⟨os, hos, hcs⟩
  unfold getItem
  try with_reducible refine wpAny_holding ?_
  first | refine wpAny_bind (wpAny_pure ?_) | skip
  refine wpAny_bind (wpAny_sequenceKey ht.typeIs (by decide) ?_)
  refine wpAny_bind (wpAny_callSpecial?_slot (name := Str.ofString "__getitem__") ht.typeIs PyProof.Rows.slot_tuple_getitem (wpAny_call_entry PyProof.Rows.slot_tuple_getitem ht.typeIs PyProof.Rows.entry_tuple_getitem ?_ (PyProof.Rows.args_tuple_getitem _ _)))
  show wpAny _ _ (Builtin.Tuple.tupleItemsOf (.ref a) >>= _) _ _ s
  refine wpAny_bind (PyProof.Rows.tupleItemsOf_ ht ?_)
  refine wpAny_bind (wpAny_typeOf hTs ?_)
  rw [if_pos (by decide)]
  refine wpAny_bind (applied_rev hs ?_)
  show wpAny _ _ (if (((items.size : Int) - 1) == 0 && (-1 : Int) == 1 && items.size == items.size) = true then _ else _) _ _ s
  rw [if_neg (by simp), rev_pick]
  first
    | exact wpAny_bind (m := Builtin.Tuple.tupleExact _) (wpAny_newObj_type (wpAny_pure ⟨_, rfl, wpAny_pure h⟩) ok)
    | exact wpAny_bind (m := Builtin.Tuple.tupleExact _) (wpAny_newObj_type (wpAny_bind (wpAny_pure (wpAny_pure ⟨_, rfl, wpAny_pure h⟩))) ok)
    | exact wpAny_bind (wpAny_bind (m := Builtin.Tuple.tupleExact _) (wpAny_newObj_type (wpAny_pure (wpAny_pure ⟨_, rfl, wpAny_pure h⟩)) ok))
end
section
variable {J : Jx}
theorem je_idx {a i : Expr} {ea ei : E} {pos : Pos} (ok : J.Ok) (ha : JE J a ea) (hi : JE J i ei) (hs : PlainIx i) : JE J (.Subscript a i pos) (.idx ea ei) := by
  refine (pe_ix (ix_all (tv := J.tv) (xp := J.xp) ix_dct) ha hi hs).imp fun σ H Q h => ?_
  obtain ⟨env, hp, ρ, he, hh, f⟩ := h
  unfold evalE at f
  exact tE_then2 he hh f fun v u ρ2 h2 H2 x y x2 y2 dv du f2 => idx_post ok y2 dv du f2
theorem je_rev {a : Expr} {ea : E} {k : Nat} {p1 p2 p3 pos : Pos} (ha : JE J a ea) : JE J (.Subscript a (.Slice none none (some (.UnaryOp .USub (.Constant (.int 1) k p1) p2)) p3) pos) (.rev ea) := by
  refine ⟨fun pins s σ H Q I h => ?_⟩
  obtain ⟨env, hp, ρ, he, hh, f⟩ := h
  unfold evalE at f
  have R := tE_then (R := fun x H1 => ∃ dx d, J.F.sees H1 dx x ∧ revD dx = some d ∧ ∀ u H', New H1 H' → J.F.den H' d u → Q u H') he hh f fun v ρ1 h1 H1 u x1 y1 d1 f1 => by
    obtain ⟨dx, sx, _, f2⟩ := Fin.look y1 d1 f1
    obtain ⟨d, e, f3⟩ := Fin.okD f2
    exact ⟨dx, d, sx, e, Fin.newD y1 f3⟩
  refine PyProof.Rows.Subscript_ (L2.thn (ha.run pins s σ H _ I R) fun v s1 hv => ?_)
  obtain ⟨x, H1, I1, r1, dx, d, sx, e, q⟩ := hv
  have st : PO J.X (some (.UnaryOp .USub (.Constant (.int 1) k p1) p2)) (tPart (tUn (rU fun i => .int (-i)) (tC (.int 1)))) := po_some (pe_un un_neg pe_int)
  refine wpAny_Slice (L2.thn (po_none.run pins s1 σ H1 (fun o H2 => o = none ∧ H2 = H1) I1 ⟨rfl, rfl⟩) fun vl s2 z2 => ?_)
  obtain ⟨l, H2, I2, pl, el, e2⟩ := z2
  subst el e2
  refine L2.thn (po_none.run pins s2 σ H2 (fun o H3 => o = none ∧ H3 = H2) I2 ⟨rfl, rfl⟩) fun vu s3 z3 => ?_
  obtain ⟨u, H3, I3, pu, eu, e3⟩ := z3
  subst eu e3
  refine L2.thn (st.run pins s3 σ H3 (fun o H4 => o = some (-1) ∧ H4 = H3) I3 ⟨1, rfl, -1, rfl, rfl, rfl⟩) fun vs s4 z4 => ?_
  obtain ⟨o, H4, I4, ps, eo, e4⟩ := z4
  subst eo e4
  have I5 : Inv J.X pins σ H4 { s4 with heap := s4.heap.push { cls := .type "slice", data := .fields #[vl, vu, vs] } } := I4.kept (t' := s4.toks) fun b ob q => Heap.get?_push_of_some _ q
  cases dx <;> simp only [revD] at e <;> cases e
  · obtain ⟨a, us, rfl, hs, ds⟩ := sx.tup
    cases r1
    obtain ⟨its, r, ht, hz⟩ := I5.tuple hs
    have hlen := r.length
    refine PyProof.Rows.tail_any (ops := [.ref a, .ref s4.heap.objs.size]) ht.typeIs PyProof.Rows.slot_tuple_getitem.lookup ?_ (by with_unfolding_all rfl)
    cases pl
    cases pu
    cases ps
    refine tuple_rev ht (Heap.IsSliceOf.new _ _ _ _) (by rw [List.size_toArray]; omega) ?_
    have n1 := New.upd (.tup us.reverse) I5.fresh
    refine ⟨.ref _, _, I5.laid (t' := s4.toks) (o := .tup us.reverse) (fun b ob q => Heap.get?_push_of_some _ q) (Nat.le_refl _) ⟨by rw [List.length_reverse]; exact hz, its.reverse, r.reverse, ⟨_, Heap.get?_push_size _ rfl, rfl, _, rfl⟩⟩, rfl, ?_⟩
    exact q _ _ n1 (.tup (.of upd_same) (ds.reverse.tf n1.tf))
  · obtain ⟨a, us, rfl, hs, ds⟩ := sx.lst'
    cases r1
    obtain ⟨its, r, ht, hz⟩ := I5.list hs.l
    have hlen := r.length
    refine PyProof.Rows.tail_any (ops := [.ref a, .ref s4.heap.objs.size]) ht.isList.typeIs PySem.slot_list_getitem.lookup ?_ (by with_unfolding_all rfl)
    refine wpAny_getItem_list_slice ht.isList (Heap.IsSliceOf.new _ vl vu vs) pl pu ps (by decide) ?_ (by rw [List.size_toArray]; omega)
    rw [PySem.W.krv_pick]
    have I6 := I5.laid (t' := s4.toks) (o := .lst us.reverse) (fun b ob q => Heap.get?_push_of_some _ q) (Nat.le_refl _) ⟨by rw [List.length_reverse]; exact hz, _, 0, r.reverse, Heap.get?_push_size _ rfl⟩
    refine EP.known ⟨.ref _, _, I6, rfl, _, _, rfl, upd_same, fun o => ?_⟩
    have n2 := New.upd2 (.lst us.reverse) (.frz o (.lst us.reverse)) I5.fresh
    exact q _ _ n2 (.lst (.inl ⟨o, upd_same⟩) (ds.reverse.tf n2.tf))

/-! ### isinstance -/
def tyName : D → String
  | .non => "NoneType"
  | .bl _ => "bool"
  | .int _ => "int"
  | .str _ => "str"
  | .tup _ => "tuple"
  | .lst _ => "list"
  | .dct _ _ => "dict"
def tyStr : D.Ty → String
  | .int => "int"
  | .bool => "bool"
  | .str => "str"
  | .tuple => "tuple"
  | .list => "list"
  | .dict => "dict"
theorem kit_isa {K : Frag} (x : D) (t : D.Ty) : PySem.W.kitOne K (.type (tyName x)) (.type (tyStr t)) = some (x.isa t) := by
  cases x <;> cases t <;> (refine kit_ty ?_; simp only [tyName, tyStr, D.isa]; decide +kernel)
theorem kit_sees {X : Cx} {pins : List (Addr × Obj)} {σ : L2.St} {H : Hp} {s : Shared} (I : Inv X pins σ H s) {x : D} {u : V} {v : Value} (h : Sees X.prog X.w X.K H x u) (r : RelV u v) :
    ∃ P : PySem.Heap → Prop, PySem.W.KitX X.K v (.type (tyName x)) P ∧ P s.heap ∧ v ≠ .builtin "__main__.__loader__#opaque" := by
  cases x with
  | non => obtain rfl := h.non; cases r; exact ⟨_, PySem.W.kitx_none, trivial, fun z => nomatch z⟩
  | bl b => obtain rfl := h.bl; cases r; exact ⟨_, PySem.W.kitx_bool, trivial, fun z => nomatch z⟩
  | int i => obtain rfl := h.int; obtain ⟨t, rfl⟩ := r; exact ⟨_, PySem.W.kitx_int, trivial, fun z => nomatch z⟩
  | str t => obtain ⟨rfl, _⟩ := h.str; obtain ⟨t, rfl⟩ := r; exact ⟨_, PySem.W.kitx_str, trivial, fun z => nomatch z⟩
  | tup xs =>
    obtain ⟨a, us, rfl, hs, _⟩ := h.tup
    cases r
    obtain ⟨its, _, ht, _⟩ := I.tuple hs
    exact ⟨_, PySem.W.kitx_tuple, ht.typeIs, fun z => nomatch z⟩
  | lst xs =>
    obtain ⟨a, us, rfl, hs, _⟩ := h.lst'
    cases r
    obtain ⟨its, _, ht, _⟩ := I.list hs.l
    exact ⟨_, PySem.W.kitx_list, ht.isList.typeIs, fun z => nomatch z⟩
  | dct ks vs =>
    obtain ⟨a, o, ws, rfl, h0, ho, ⟨es, ep, kvs, h1, _⟩, _⟩ := sees_dct I h
    cases r
    exact ⟨_, PySem.W.kitx_dict, ⟨o, ho, h1.1⟩, fun z => nomatch z⟩
def rIsa (F : Fx) : List V → Hp → VK → Prop := fun vs H Q => ∃ x u t, vs = [u, .ty (tyStr t)] ∧ F.sees H x u ∧ Q (.bl (x.isa t)) H
theorem call_isa {X : Cx} {tv : V} {xp : XP} : CallR X (.builtin "isinstance") (rIsa (fx X tv xp)) := by
  intro pins s σ H xs us Q I r h
  obtain ⟨x, u, t, rfl, sx, q⟩ := h
  obtain ⟨u1, u2, rfl, r1, r2⟩ := vals2 r
  cases (show u2 = Value.type (tyStr t) from r2)
  obtain ⟨P, Z, p, hx⟩ := kit_sees I sx r1
  exact PySem.W.kia_one Z I.kIn p (kit_isa x t) hx fun tk => ⟨.bl _, H, I.tok tk, rfl, q⟩
/-- a built-in name that the module leaves alone -/
structure Blt (J : Jx) (x : Str) (u : Value) : Prop where
  gl : Gl J.X x
  mg : J.X.mg x = none
  bt : bootBuiltins x = some u
  nn : x ≠ "__name__"
  nd : (x == ("__debug__" : Str)) = false
theorem je_isi {a : Expr} {ea : E} {t : D.Ty} {x y : Str} {p1 p2 pos : Pos} (ha : JE J a ea) (h1 : Blt J x (.builtin "isinstance")) (h2 : Blt J y (.type (tyStr t)))
    (hs : ∀ b, starEach (a :: b) J.X.env = (false, eval a J.X.env) :: starEach b J.X.env) : JE J (.Call (.Name x p1) [a, .Name y p2] [] pos) (.isi ea t) := by
  have hy : PE J.X (.Name y p2) (tC (.ty (tyStr t))) := pe_bltn h2.gl h2.mg h2.bt rfl h2.nn h2.nd
  have hs2 : starEach [.Name y p2] J.X.env = [(false, eval (.Name y p2) J.X.env)] := by first | rfl | simp [starEach]
  refine (pe_callB (call_isa (tv := J.tv) (xp := J.xp)) h1.gl h1.mg h1.bt (pa_cons ha (pa_cons hy pa_nil hs2) (hs _)) h1.nn h1.nd (hs _) (by first | rfl | simp [starEach, backTo])).imp fun σ H Q h => ?_
  obtain ⟨env, hp, ρ, he, hh, f⟩ := h
  unfold evalE at f
  refine tE_then he hh f fun v ρ1 h1 H1 u x1 y1 d1 f1 => ?_
  obtain ⟨dx, sx, _, f2⟩ := Fin.look y1 d1 f1
  exact ⟨dx, u, t, rfl, sx, Fin.hereD y1 f2 (.bl _)⟩
end
end Ev
end
section
/-! EvI: repr, and the built-in functions. -/
set_option autoImplicit false
set_option linter.all false
set_option maxRecDepth 100000
set_option maxHeartbeats 1000000
set_option Elab.async false
namespace Ev
open PySem PySem.Spec L2

theorem T_of (x : String) : (Str.ofString x) = T (x.toList.map Char.toNat) := by rw [Str.ofString_eq_toList]; rfl
theorem digits_toList (n : Nat) : (toString n).toList.map Char.toNat = digits n := by
  unfold digits
  rw [show toString n = String.ofList (Nat.toDigits 10 n) from rfl, String.toList_ofList]
theorem intText_str : ∀ i : Int, Str.ofString (toString i) = T (intText i)
  | .ofNat n => by
    rw [T_of]
    have e : toString (Int.ofNat n) = toString n := rfl
    rw [e, digits_toList]
    unfold intText
    rw [if_neg (by exact Int.not_lt.mpr (Int.natCast_nonneg n))]
    rfl
  | .negSucc n => by
    rw [T_of]
    have e : toString (Int.negSucc n) = "-" ++ toString (n + 1) := rfl
    rw [e, String.toList_append, List.map_append, digits_toList]
    unfold intText
    rw [if_pos (Int.negSucc_lt_zero n)]
    rfl
theorem plain_print {c : Nat} (h : signOk c = true) : Builtin.Str.reprChar 39 c = escS c := by
  unfold signOk at h
  rw [Bool.or_eq_true, decide_eq_true_eq] at h
  rcases h with h | h
  · have k : ∀ m, m < 95 → (m + 32 ≠ 39 → m + 32 ≠ 92 → Builtin.Str.reprChar 39 (m + 32) = [m + 32]) := by decide +kernel
    unfold plainSign at h
    simp only [Bool.and_eq_true, decide_eq_true_eq] at h
    have := k (c - 32) (by omega)
    rw [show c - 32 + 32 = c by omega] at this
    rw [this h.1.2 h.2]
    unfold escS
    rw [if_neg (by omega)]
  · subst h
    decide +kernel
theorem repr_fold : ∀ (s : List Nat) (acc : List Nat), s.all signOk = true → s.foldl (fun out c => out ++ (Builtin.Str.reprChar 39 c).toArray) acc.toArray = (acc ++ escT s).toArray
  | [], acc, _ => by simp [escT]
  | c :: s, acc, h => by
    simp only [List.all_cons, Bool.and_eq_true] at h
    rw [List.foldl_cons, plain_print h.1]
    have e : acc.toArray ++ (escS c).toArray = (acc ++ escS c).toArray := by simp
    rw [e, repr_fold s _ h.2, List.append_assoc]
    rfl
theorem repr_plain {s : List Nat} (h : s.all signOk = true) : PySem.reprText (T s) = T (39 :: (escT s ++ [39])) := by
  have q : PySem.reprQuote (T s) = 39 := by
    unfold PySem.reprQuote
    have e : (T s).cps.contains 39 = false := by
      have : s.contains 39 = false := by
        rw [List.contains_eq_any_beq, List.any_eq_false]
        intro c hc
        have := List.all_eq_true.mp h c hc
        unfold signOk plainSign at this
        simp only [Bool.or_eq_true, Bool.and_eq_true, decide_eq_true_eq] at this
        simp only [beq_iff_eq]
        omega
      simpa [T] using this
    rw [e]
    rfl
  unfold PySem.reprText
  rw [q]
  have f := repr_fold s [39] h
  have e2 : (T s).cps.foldl (fun out c => out ++ (Builtin.Str.reprChar 39 c).toArray) #[39] = ([39] ++ escT s).toArray := by
    rw [← f]
    show Array.foldl _ _ s.toArray = _
    simp
  rw [e2]
  show (⟨_⟩ : Str) = ⟨_⟩
  congr 1
  simp
theorem join_T : ∀ ts : List (List Nat), Str.join ", " (ts.map T) = T (sepT ts)
  | [] => rfl
  | [x] => rfl
  | x :: y :: r => by
    have ih := join_T (y :: r)
    show T x ++ (", " : Str) ++ Str.join ", " ((y :: r).map T) = _
    rw [ih, show ((", " : String) : Str) = T [44, 32] from by decide +kernel, T_app, T_app]
    rfl
theorem list_T (ts : List (List Nat)) : listText (ts.map T) = T (91 :: (sepT ts ++ [93])) := by
  rw [listText_eq_join, join_T, show (("[" : String) : Str) = T [91] from by decide +kernel, show (("]" : String) : Str) = T [93] from by decide +kernel, T_app, T_app]
  rfl
theorem tup_T (ts : List (List Nat)) (h : ts.length ≠ 1) : tupleText (ts.map T) = T (40 :: (sepT ts ++ [41])) := by
  unfold tupleText
  rw [join_T, List.length_map, beq_eq_false_iff_ne.mpr h, show (("(" : String) : Str) = T [40] from by decide +kernel, show ((if false = true then ",)" else ")" : String) : Str) = T [41] from by decide +kernel, T_app, T_app]
  rfl
theorem tup_T1 (t : List Nat) : tupleText ([t].map T) = T (40 :: (t ++ [44, 41])) := by
  unfold tupleText
  rw [join_T, List.length_map, show (([t].length == 1) = true) from rfl, show (("(" : String) : Str) = T [40] from by decide +kernel, show ((if true = true then ",)" else ")" : String) : Str) = T [44, 41] from by decide +kernel, T_app, T_app]
  rfl
theorem dict_T (ts : List (List Nat)) : dictText (ts.map T) = T (123 :: (sepT ts ++ [125])) := by
  unfold dictText
  rw [join_T, show (("{" : String) : Str) = T [123] from by decide +kernel, show (("}" : String) : Str) = T [125] from by decide +kernel, T_app, T_app]
  rfl
theorem datas_len : ∀ xs : List D, (D.datas xs).length = xs.length
  | [] => rfl
  | x :: xs => by rw [D.datas, List.length_cons, datas_len xs, List.length_cons]
theorem zip_fst {ks vs : List D} (h : ks.length = vs.length) : (List.zip (D.datas ks) (D.datas vs)).map (·.1) = D.datas ks := by
  rw [List.map_fst_zip]
  rw [datas_len, datas_len, h]
  exact Nat.le_refl _
theorem zip_snd {ks vs : List D} (h : ks.length = vs.length) : (List.zip (D.datas ks) (D.datas vs)).map (·.2) = D.datas vs := by
  rw [List.map_snd_zip]
  rw [datas_len, datas_len, h]
  exact Nat.le_refl _
theorem zip_T : ∀ ts us : List (List Nat), List.zipWith (fun k v : Str => k ++ ": " ++ v) (ts.map T) (us.map T) = (List.zipWith (fun t u => t ++ [58, 32] ++ u) ts us).map T
  | [], _ => by simp
  | _ :: _, [] => by simp
  | t :: ts, u :: us => by
    have ih := zip_T ts us
    have e : ((": " : String) : Str) = T [58, 32] := by decide +kernel
    simp only [List.map_cons, List.zipWith_cons_cons]
    rw [ih, e, T_app, T_app]
theorem shows_all : ∀ {kvs : List (PyData × PyData)}, PyData.showableAll (kvs.map (·.1)) = true → PyData.showableAll (kvs.map (·.2)) = true → PyData.showableKv kvs = true
  | [], _, _ => by simp [PyData.showableKv]
  | (k, v) :: r, h1, h2 => by
    simp only [List.map_cons, PyData.showableAll, Bool.and_eq_true] at h1 h2
    simp only [PyData.showableKv, h1.1, h2.1, shows_all h1.2 h2.2, Bool.and_self]
mutual
theorem shown_data : ∀ {x : D} {t : List Nat}, shown x = some t → x.data.shown = T t ∧ x.data.showable = true
  | .non, t, e => by
    simp only [shown, Option.some.injEq] at e
    subst e
    simp only [D.data, PyData.shown, PyData.showable]
    exact ⟨by decide +kernel, trivial⟩
  | .bl b, t, e => by
    cases b <;> simp only [shown, Option.some.injEq] at e <;> subst e <;> simp only [D.data, PyData.shown, PyData.showable] <;> exact ⟨by decide +kernel, trivial⟩
  | .int i, t, e => by
    simp only [shown] at e
    split at e <;> cases e
    simp only [D.data, PyData.shown, PyData.showable]
    exact ⟨intText_str i, by simpa using (by assumption)⟩
  | .str s, t, e => by
    simp only [shown] at e
    split at e <;> cases e
    simp only [D.data, PyData.shown, PyData.showable]
    exact ⟨repr_plain (by assumption), trivial⟩
  | .lst xs, t, e => by
    simp only [shown] at e
    split at e <;> cases e
    rename_i ts h
    obtain ⟨h1, h2⟩ := showns_data h
    simp only [D.data, PyData.shown, PyData.showable, h1, h2, list_T]
    exact ⟨trivial, trivial⟩
  | .tup xs, t, e => by
    simp only [shown] at e
    split at e <;> cases e
    · rename_i t h
      obtain ⟨h1, h2⟩ := showns_data h
      simp only [D.data, PyData.shown, PyData.showable, h1, h2, tup_T1]
      exact ⟨trivial, trivial⟩
    · rename_i ts hne h
      obtain ⟨h1, h2⟩ := showns_data h
      have hl : ts.length ≠ 1 := fun z => by
        obtain ⟨t, rfl⟩ := List.length_eq_one_iff.mp z
        exact hne t rfl
      simp only [D.data, PyData.shown, PyData.showable, h1, h2, tup_T ts hl]
      exact ⟨trivial, trivial⟩
  | .dct ks vs, t, e => by
    simp only [shown] at e
    split at e
    · split at e <;> cases e
      rename_i ts us h h' hl
      obtain ⟨h1, h2⟩ := showns_data h
      obtain ⟨h3, h4⟩ := showns_data h'
      simp only [D.data, PyData.shown, PyData.showable, PyData.shownKv_eq, zip_fst hl, zip_snd hl, h1, h3, zip_T, dict_T]
      exact ⟨trivial, shows_all (by rw [zip_fst hl]; exact h2) (by rw [zip_snd hl]; exact h4)⟩
    · cases e
theorem showns_data : ∀ {x : List D} {t : List (List Nat)}, showns x = some t → PyData.shownAll (D.datas x) = t.map T ∧ PyData.showableAll (D.datas x) = true
  | [], t, e => by
    simp only [showns, Option.some.injEq] at e
    subst e
    simp [D.datas, PyData.shownAll, PyData.showableAll]
  | x :: xs, t, e => by
    simp only [showns] at e
    split at e <;> cases e
    rename_i t ts h h'
    obtain ⟨h1, h2⟩ := shown_data h
    obtain ⟨h3, h4⟩ := showns_data h'
    simp only [D.datas, PyData.shownAll, PyData.showableAll, h1, h2, h3, h4, List.map_cons, Bool.and_self]
    exact ⟨trivial, trivial⟩
end
theorem hasDict_kv {x : D} (h : x.data.hasDict = true) : x.hasD = true := by
  revert h
  have k : (∀ y : D, y.hasD = false → y.data.hasDict = false) := by
    intro y
    exact (go y)
  intro h
  cases e : x.hasD with
  | true => rfl
  | false => rw [k x e] at h; cases h
where
  go : ∀ y : D, y.hasD = false → y.data.hasDict = false
    | .non, _ => by simp [D.data, PyData.hasDict]
    | .bl _, _ => by simp [D.data, PyData.hasDict]
    | .int _, _ => by simp [D.data, PyData.hasDict]
    | .str _, _ => by simp [D.data, PyData.hasDict]
    | .tup xs, h => by simp only [D.data, PyData.hasDict]; exact gos xs (by simpa [D.hasD] using h)
    | .lst xs, h => by simp only [D.data, PyData.hasDict]; exact gos xs (by simpa [D.hasD] using h)
    | .dct _ _, h => by simp [D.hasD] at h
  gos : ∀ y : List D, D.hasDs y = false → PyData.hasDictAll (D.datas y) = false
    | [], _ => by simp [D.datas, PyData.hasDictAll]
    | x :: xs, h => by
      simp only [D.hasDs, Bool.or_eq_false_iff] at h
      simp only [D.datas, PyData.hasDictAll, go x h.1, gos xs h.2, Bool.or_self]
mutual
theorem depth_le : ∀ x : D, x.data.depth ≤ x.depth
  | .non => by simp [D.data, PyData.depth, D.depth]
  | .bl _ => by simp [D.data, PyData.depth, D.depth]
  | .int _ => by simp [D.data, PyData.depth, D.depth]
  | .str _ => by simp [D.data, PyData.depth, D.depth]
  | .tup xs => by simp only [D.data, PyData.depth, D.depth]; exact Nat.add_le_add_right (depths_le xs) 1
  | .lst xs => by simp only [D.data, PyData.depth, D.depth]; exact Nat.add_le_add_right (depths_le xs) 1
  | .dct ks vs => by
    simp only [D.data, PyData.depth, D.depth]
    have h1 := depths_le ks
    have h2 := depths_le vs
    have h3 : ∀ as bs : List PyData, PyData.depthKv (List.zip as bs) ≤ max (PyData.depthAll as) (PyData.depthAll bs) := by
      intro as
      induction as with
      | nil => intro bs; simp [PyData.depthKv]
      | cons a as ih =>
        intro bs
        cases bs with
        | nil => simp [PyData.depthKv]
        | cons b bs =>
          have := ih bs
          simp only [List.zip_cons_cons, PyData.depthKv, PyData.depthAll]
          omega
    have := h3 (D.datas ks) (D.datas vs)
    omega
theorem depths_le : ∀ x : List D, PyData.depthAll (D.datas x) ≤ D.depths x
  | [] => by simp [D.datas, PyData.depthAll, D.depths]
  | x :: xs => by
    have := depth_le x
    have := depths_le xs
    simp only [D.datas, PyData.depthAll, D.depths]
    omega
end
section
variable {X : Cx} {pins : List (Addr × Obj)} {σ : L2.St} {H : Hp} {s : Shared}
mutual
theorem Den.reads (I : Inv X pins σ H s) : ∀ {x : D} {v : V} {u : Value}, Den X.prog X.w X.K H x v → RelV v u → ∃ as, Reads s.heap u x.data as ∧ (x.hasL = false → sysModules ∉ as)
  | _, _, _, .non, r => by cases r; exact ⟨[], by rw [D.data]; exact .none, fun _ h => nomatch h⟩
  | _, _, _, .bl b, r => by cases r; exact ⟨[], by rw [D.data]; exact .bool b, fun _ h => nomatch h⟩
  | _, _, _, .int i, r => by obtain ⟨t, rfl⟩ := r; exact ⟨[], by rw [D.data]; exact .int i t, fun _ h => nomatch h⟩
  | _, _, _, .str _, r => by obtain ⟨t, rfl⟩ := r; exact ⟨[], by rw [D.data]; exact .str _ t, fun _ h => nomatch h⟩
  | .tup xs, _, _, .tup hs d, r => by
    cases r
    obtain ⟨its, rv, ⟨o, ho, hc, n, hd⟩, _⟩ := I.tuple hs
    obtain ⟨as, q, z⟩ := Dens.reads I d rv
    rw [D.data]
    exact ⟨as, .tuple ho hc hd (by simpa using q), fun h => z (by simpa [D.hasL] using h)⟩
  | .lst xs, _, _, .lst hs d, r => by
    cases r
    obtain ⟨its, rv, hl, _⟩ := I.list hs.l
    obtain ⟨o, ho, hc, n, hd⟩ := hl.isList
    obtain ⟨as, q, _⟩ := Dens.reads I d rv
    rw [D.data]
    exact ⟨_, .list ho hc hd (by simpa using q), fun h => by simp [D.hasL] at h⟩
  | .dct ks vs, _, _, .dct (us := us) (ws := ws) (a := a) hz d e, r => by
    cases r
    obtain ⟨h0, o, ho, hd⟩ := hz
    have hg : s.heap.get? a = some o := by
      rcases ho with ho | ho
      · exact (I.hok a _ ho).1
      · exact I.kIn a o ho
    obtain ⟨es, ep, kvs, h1, h2, h3, h4, h5, h6, h7, h8⟩ := hd
    have l1 : ks.length = es.toList.length := by rw [d.length, h6.length, List.length_map]
    have l2 : vs.length = es.toList.length := by rw [e.length, h7.length, List.length_map]
    have l3 : ks.length = vs.length := by rw [l1, l2]
    obtain ⟨as, q, z⟩ := Dens.reads I d h6
    obtain ⟨bs, q', z'⟩ := Dens.reads I e h7
    rw [D.data]
    refine ⟨_, .dict hg h1.1 h2 (by rw [zip_fst l3]; exact q) (by rw [zip_snd l3]; exact q'), fun h => ?_⟩
    simp only [D.hasL, Bool.or_eq_false_iff] at h
    have n1 := z h.1
    have n2 := z' h.2
    have n3 : sysModules ≠ a := fun z => by rw [← z] at h0; simp at h0
    simp [n1, n2, n3]
theorem Dens.reads (I : Inv X pins σ H s) : ∀ {x : List D} {v : List V} {u : List Value}, Dens X.prog X.w X.K H x v → Vals v u → ∃ as, ReadsAll s.heap u (D.datas x) as ∧ (D.hasLs x = false → sysModules ∉ as)
  | _, _, _, .nil, r => by cases r; exact ⟨[], by rw [D.datas]; exact .nil, fun _ h => nomatch h⟩
  | _, _, _, .cons d e, .cons r1 r2 => by
    obtain ⟨as, q, z⟩ := Den.reads I d r1
    obtain ⟨bs, q', z'⟩ := Dens.reads I e r2
    rw [D.datas]
    refine ⟨_, .cons q q', fun h => ?_⟩
    simp only [D.hasLs, Bool.or_eq_false_iff] at h
    have n1 := z h.1
    have n2 := z' h.2
    simp [n1, n2]
end
end
/-- repr of what stays -/
def rRepr (F : Fx) : List V → Hp → VK → Prop := fun us H Q => ∃ x u t, us = [u] ∧ F.den H x u ∧ reprD x = some t ∧ Q (.str (T t)) H
theorem call_repr {X : Cx} {tv : V} {xp : XP} (hg : X.A.guards = some []) (hu : X.A.units + 200 < cLine) : CallR X (.builtin "repr") (rRepr (fx X tv xp)) := by
  intro pins s σ H xs us Q I r h
  obtain ⟨x, u, t, rfl, d, e, q⟩ := h
  obtain ⟨v, rfl, rv⟩ := vals1 r
  unfold reprD at e
  split at e
  · rename_i t' ht
    split at e <;> cases e
    rename_i hc
    simp only [Bool.and_eq_true, decide_eq_true_eq] at hc
    obtain ⟨⟨hl, hd⟩, hn⟩ := hc
    rw [line_eq] at hl
    obtain ⟨h1, h2⟩ := shown_data ht
    have dl := depth_le x
    have key : ∀ a, v = .ref a → wpAny (model X.prog X.w) X.A (call (.builtin "repr") [v]) (EP X pins σ Q) X.xe s := by
      rintro a rfl
      obtain ⟨as, rd, z⟩ := Den.reads I d rv
      refine repr_of_reads' rd h2 (fun hx => ?_) hg (by omega) (fun _ _ e => e) (fun h' u' tk hk => ?_) (by rw [h1]; exact hl)
      · have := hasDict_kv hx
        rw [this] at hn
        exact z (by simpa using hn)
      · rw [h1]
        exact ⟨.str (T t), H, I.kept hk, ⟨_, rfl⟩, q⟩
    cases d with
    | non =>
      cases rv
      simp only [D.data, PyData.shown] at h1
      exact PySem.P.repr_of_none (by rw [h1]; exact ⟨.str (T t), H, I.tok _, ⟨_, rfl⟩, q⟩)
    | bl b =>
      cases rv
      simp only [D.data, PyData.shown] at h1
      exact PySem.P.repr_of_bool (by rw [h1]; exact ⟨.str (T t), H, I.tok _, ⟨_, rfl⟩, q⟩)
    | int i =>
      obtain ⟨tk, rfl⟩ := rv
      simp only [D.data, PyData.shown] at h1
      simp only [D.data, PyData.showable, decide_eq_true_eq] at h2
      exact PySem.P.repr_of_int h2 (by rw [h1]; exact ⟨.str (T t), H, I.tok _, ⟨_, rfl⟩, q⟩)
    | str hs =>
      obtain ⟨tk, rfl⟩ := rv
      simp only [D.data, PyData.shown] at h1
      refine PySem.P.repr_of_str ?_ ?_
      · rw [h1]; exact ⟨.str (T t), H, I.tok _, ⟨_, rfl⟩, q⟩
      · rw [h1]; exact hl
    | tup _ _ => cases rv; exact key _ rfl
    | lst _ _ => cases rv; exact key _ rfl
    | dct _ _ _ => cases rv; exact key _ rfl
  · cases e
end Ev
end
section
/-! EvJ: the built-in functions. -/
set_option autoImplicit false
set_option linter.all false
set_option maxRecDepth 100000
set_option maxHeartbeats 1000000
set_option Elab.async false
namespace Ev
open PySem PySem.Spec L2

inductive SeesL (F : Fx) (H : Hp) : List D → List V → Prop
  | nil : SeesL F H [] []
  | cons {x : D} {u : V} {xs : List D} {us : List V} : F.sees H x u → SeesL F H xs us → SeesL F H (x :: xs) (u :: us)
theorem SeesL.one {F : Fx} {H : Hp} {x : D} {us : List V} (h : SeesL F H [x] us) : ∃ u, us = [u] ∧ F.sees H x u := by
  cases h with | cons a b => cases b; exact ⟨_, rfl, a⟩
theorem SeesL.two {F : Fx} {H : Hp} {x y : D} {us : List V} (h : SeesL F H [x, y] us) : ∃ u v, us = [u, v] ∧ F.sees H x u ∧ F.sees H y v := by
  cases h with | cons a b => cases b with | cons b c => cases c; exact ⟨_, _, rfl, a, b⟩
/-- a built-in function by values -/
def rFn (F : Fx) (f : Fn) : List V → Hp → VK → Prop := fun us H Q => ∃ xs d, SeesL F H xs us ∧ fnD f xs = some d ∧ ∀ u H', New H H' → F.den H' d u → Q u H'
/-- len of a list of cells -/
def rLenR (f : Fn) : List V → Hp → VK → Prop := fun us H Q => f = .len ∧ ∃ p ws, us = [V.ref p] ∧ H p = some (.lst ws) ∧ Q (.int ws.length) H
def rFnA (F : Fx) (f : Fn) : List V → Hp → VK → Prop := fun us H Q => rFn F f us H Q ∨ rLenR f us H Q
section
variable {P : Program} {w : World} {K : Frag} {H : Hp}
theorem bools_dens : ∀ {xs : List D} {us : List V} {bs : List Bool}, Dens P w K H xs us → bools xs = some bs → us = bs.map V.bl
  | [], _, _, .nil, e => by cases e; rfl
  | x :: xs, _, bs, .cons d t, e => by
    cases x <;> simp only [bools] at e <;> (first | (cases e; done) | skip)
    split at e <;> cases e
    rename_i bs' e'
    cases d
    rw [bools_dens t e']
    rfl
theorem ints_dens : ∀ {xs : List D} {us : List V} {bs : List Int}, Dens P w K H xs us → intsD xs = some bs → us = bs.map V.int
  | [], _, _, .nil, e => by cases e; rfl
  | x :: xs, _, bs, .cons d t, e => by
    cases x <;> simp only [intsD] at e <;> (first | (cases e; done) | skip)
    split at e <;> cases e
    rename_i bs' e'
    cases d
    rw [ints_dens t e']
    rfl
theorem texts_dens : ∀ {xs : List D} {us : List V} {bs : List (List Nat)}, Dens P w K H xs us → texts xs = some bs → us = bs.map fun s => V.str (T s)
  | [], _, _, .nil, e => by cases e; rfl
  | x :: xs, _, bs, .cons d t, e => by
    cases x <;> simp only [texts] at e <;> (first | (cases e; done) | skip)
    split at e <;> cases e
    rename_i bs' e'
    cases d
    rw [texts_dens t e']
    rfl
end
theorem max_fold : ∀ (ys : List Int) (y m : Int), m ∈ y :: ys → (∀ a ∈ y :: ys, a ≤ m) → ys.foldl (fun a b => if b > a then b else a) y = m
  | [], y, m, h, _ => by simp at h; simp [h]
  | z :: ys, y, m, h, q => by
    rw [List.foldl_cons]
    have q1 := q y (by simp)
    have q2 := q z (by simp)
    have q3 : ∀ a ∈ ys, a ≤ m := fun a ha => q a (by simp [ha])
    by_cases hz : z > y
    · rw [if_pos hz]
      refine max_fold ys z m ?_ (fun a ha => ?_)
      · rcases List.mem_cons.mp h with rfl | h
        · omega
        · exact h
      · rcases List.mem_cons.mp ha with rfl | ha
        · exact q2
        · exact q3 a ha
    · rw [if_neg hz]
      refine max_fold ys y m ?_ (fun a ha => ?_)
      · rcases List.mem_cons.mp h with rfl | h
        · exact List.mem_cons_self ..
        · rcases List.mem_cons.mp h with rfl | h
          · have : m = y := by omega
            rw [this]; exact List.mem_cons_self ..
          · exact List.mem_cons_of_mem _ h
      · rcases List.mem_cons.mp ha with rfl | ha
        · exact q1
        · exact q3 a ha
theorem min_fold : ∀ (ys : List Int) (y m : Int), m ∈ y :: ys → (∀ a ∈ y :: ys, m ≤ a) → ys.foldl (fun a b => if b < a then b else a) y = m
  | [], y, m, h, _ => by simp at h; simp [h]
  | z :: ys, y, m, h, q => by
    rw [List.foldl_cons]
    have q1 := q y (by simp)
    have q2 := q z (by simp)
    have q3 : ∀ a ∈ ys, m ≤ a := fun a ha => q a (by simp [ha])
    by_cases hz : z < y
    · rw [if_pos hz]
      refine min_fold ys z m ?_ (fun a ha => ?_)
      · rcases List.mem_cons.mp h with rfl | h
        · omega
        · exact h
      · rcases List.mem_cons.mp ha with rfl | ha
        · exact q2
        · exact q3 a ha
    · rw [if_neg hz]
      refine min_fold ys y m ?_ (fun a ha => ?_)
      · rcases List.mem_cons.mp h with rfl | h
        · exact List.mem_cons_self ..
        · rcases List.mem_cons.mp h with rfl | h
          · have : m = y := by omega
            rw [this]; exact List.mem_cons_self ..
          · exact List.mem_cons_of_mem _ h
      · rcases List.mem_cons.mp ha with rfl | ha
        · exact q1
        · exact q3 a ha
theorem valOf_eq (s : List Nat) : valOf s = NumText.digitsVal s := rfl
theorem int_fits {i : Int} (h : i.natAbs.log2 < 1920) : (intText i).length ≤ sizeLine := by
  have := int_text_fits h
  rw [intText_str, T_len] at this
  exact this
theorem readInt_text {s : List Nat} {i : Int} (h : readInt s = some i) : intText? (T s) = some i ∧ (T s).length ≤ 640 := by
  unfold readInt at h
  split at h
  · rename_i r
    simp only at h
    split at h <;> cases h
    rename_i hc
    simp only [Bool.and_eq_true, decide_eq_true_eq, List.all_eq_true] at hc
    obtain ⟨⟨h1, h2⟩, h3⟩ := hc
    refine ⟨?_, by rw [T_len, List.length_cons]; omega⟩
    rw [valOf_eq]
    exact PySem.intText_neg (x := T (45 :: r)) (cs := r) rfl (fun c hc => h3 c hc) (fun z => by subst z; simp at h1) (by rw [T_len, List.length_cons]; omega)
  · rename_i hn
    simp only at h
    split at h <;> (first | (cases h; done) | skip)
    rename_i hc
    simp only [Bool.and_eq_true, decide_eq_true_eq, List.all_eq_true] at hc
    obtain ⟨⟨h1, h2⟩, h3⟩ := hc
    have e : i = (valOf s : Int) := by
      first
        | (cases h; rfl)
        | (split at h
           · exact absurd rfl (hn _)
           · cases h; rfl)
    subst e
    refine ⟨?_, by rw [T_len]; omega⟩
    rw [valOf_eq]
    exact PySem.intText_digits (x := T s) (fun c hc => h3 c hc) (fun z => by
      have : s = [] := z
      subst this; simp at h1) (by rw [T_len]; omega)
section
variable {X : Cx} {tv : V} {xp : XP}
theorem cr_len : CallR X (.builtin "len") (rFnA (fx X tv xp) .len) := by
  intro pins s σ H vs us Q I r h
  rcases h with ⟨xs, d, sl, e, q⟩ | ⟨_, p, ws, rfl, hp, q⟩
  · match xs, e with
    | [x], e =>
      obtain ⟨u, rfl, sx⟩ := sl.one
      simp only [fnD, Option.map_eq_some_iff] at e
      obtain ⟨n, en, rfl⟩ := e
      cases x <;> simp only [lenD] at en <;> cases en
      · obtain ⟨rfl, hl⟩ := sx.str
        exact call_len_str pins s σ H _ us Q I r ⟨_, rfl, hl, q _ H (New.refl H) (.int _)⟩
      · obtain ⟨a, ws, rfl, hs, ds⟩ := sx.tup
        refine call_len_seq pins s σ H _ us Q I r ⟨a, ws, rfl, .inr hs, ?_⟩
        rw [← ds.length]
        exact q _ H (New.refl H) (.int _)
      · obtain ⟨a, ws, rfl, hs, ds⟩ := sx.lst'
        refine call_len_seq pins s σ H _ us Q I r ⟨a, ws, rfl, .inl hs.l, ?_⟩
        rw [← ds.length]
        exact q _ H (New.refl H) (.int _)
    | [], e => simp [fnD] at e
    | _ :: _ :: _, e => simp [fnD] at e
  · exact call_len_seq pins s σ H _ us Q I r ⟨p, ws, rfl, .inl (.of hp), q⟩
theorem cr_allE (hc : X.calm = true) : CallR X (.builtin "all") (rFnA (fx X tv xp) .all) := by
  intro pins s σ H vs us Q I r h
  rcases h with ⟨xs, d, sl, e, q⟩ | ⟨e, _⟩
  · match xs, e with
    | [.lst ys], e =>
      obtain ⟨u, rfl, sx⟩ := sl.one
      simp only [fnD, Option.map_eq_some_iff] at e
      obtain ⟨bs, eb, rfl⟩ := e
      obtain ⟨a, ws, rfl, hs, ds⟩ := sx.lst'
      have ew := bools_dens ds eb
      subst ew
      exact cr_all hc pins s σ H _ us Q I r ⟨a, bs, rfl, hs.l, q _ H (New.refl H) (.bl _)⟩
    | [], e => simp [fnD] at e
    | [.non], e => simp [fnD] at e
    | [.bl _], e => simp [fnD] at e
    | [.int _], e => simp [fnD] at e
    | [.str _], e => simp [fnD] at e
    | [.tup _], e => simp [fnD] at e
    | [.dct _ _], e => simp [fnD] at e
    | _ :: _ :: _, e => simp [fnD] at e
  · cases e
theorem cr_anyE (hc : X.calm = true) : CallR X (.builtin "any") (rFnA (fx X tv xp) .any) := by
  intro pins s σ H vs us Q I r h
  rcases h with ⟨xs, d, sl, e, q⟩ | ⟨e, _⟩
  · match xs, e with
    | [.lst ys], e =>
      obtain ⟨u, rfl, sx⟩ := sl.one
      simp only [fnD, Option.map_eq_some_iff] at e
      obtain ⟨bs, eb, rfl⟩ := e
      obtain ⟨a, ws, rfl, hs, ds⟩ := sx.lst'
      have ew := bools_dens ds eb
      subst ew
      exact cr_any hc pins s σ H _ us Q I r ⟨a, bs, rfl, hs.l, q _ H (New.refl H) (.bl _)⟩
    | [], e => simp [fnD] at e
    | [.non], e => simp [fnD] at e
    | [.bl _], e => simp [fnD] at e
    | [.int _], e => simp [fnD] at e
    | [.str _], e => simp [fnD] at e
    | [.tup _], e => simp [fnD] at e
    | [.dct _ _], e => simp [fnD] at e
    | _ :: _ :: _, e => simp [fnD] at e
  · cases e
theorem cr_abs : CallR X (.builtin "abs") (rFnA (fx X tv xp) .abs) := by
  intro pins s σ H vs us Q I r h
  rcases h with ⟨xs, d, sl, e, q⟩ | ⟨e, _⟩
  · match xs, e with
    | [.int i], e =>
      obtain ⟨u, rfl, sx⟩ := sl.one
      obtain rfl := sx.int
      simp only [fnD, Option.some.injEq] at e
      subst e
      exact call_abs pins s σ H _ us Q I r ⟨i, rfl, q _ H (New.refl H) (.int _)⟩
    | [], e => simp [fnD] at e
    | [.non], e => simp [fnD] at e
    | [.bl _], e => simp [fnD] at e
    | [.lst _], e => simp [fnD] at e
    | [.str _], e => simp [fnD] at e
    | [.tup _], e => simp [fnD] at e
    | [.dct _ _], e => simp [fnD] at e
    | _ :: _ :: _, e => simp [fnD] at e
  · cases e
theorem cr_str : CallR X (.type "str") (rFnA (fx X tv xp) .str) := by
  intro pins s σ H vs us Q I r h
  rcases h with ⟨xs, d, sl, e, q⟩ | ⟨e, _⟩
  · match xs, e with
    | [.int i], e =>
      obtain ⟨u, rfl, sx⟩ := sl.one
      obtain rfl := sx.int
      simp only [fnD] at e
      split at e <;> cases e
      rename_i hi
      refine call_str_int pins s σ H _ us Q I r ⟨i, rfl, hi, ?_⟩
      have z := intText_str i
      rw [show ((toString i : String) : Str) = T (intText i) from z]
      exact q _ H (New.refl H) (.str (int_fits hi))
    | [.str x], e =>
      obtain ⟨u, rfl, sx⟩ := sl.one
      obtain ⟨rfl, hl⟩ := sx.str
      simp only [fnD, Option.some.injEq] at e
      subst e
      exact SkE.call_str_str pins s σ H _ us Q I r ⟨_, rfl, q _ H (New.refl H) (.str hl)⟩
    | [], e => simp [fnD] at e
    | [.non], e => simp [fnD] at e
    | [.bl _], e => simp [fnD] at e
    | [.lst _], e => simp [fnD] at e
    | [.tup _], e => simp [fnD] at e
    | [.dct _ _], e => simp [fnD] at e
    | _ :: _ :: _, e => simp [fnD] at e
  · cases e
theorem cr_int : CallR X (.type "int") (rFnA (fx X tv xp) .int) := by
  intro pins s σ H vs us Q I r h
  rcases h with ⟨xs, d, sl, e, q⟩ | ⟨e, _⟩
  · match xs, e with
    | [.int i], e =>
      obtain ⟨u, rfl, sx⟩ := sl.one
      obtain rfl := sx.int
      simp only [fnD, Option.some.injEq] at e
      subst e
      exact call_int1 pins s σ H _ us Q I r (.inl ⟨i, rfl, q _ H (New.refl H) (.int _)⟩)
    | [.str x], e =>
      obtain ⟨u, rfl, sx⟩ := sl.one
      obtain ⟨rfl, hl⟩ := sx.str
      simp only [fnD, Option.map_eq_some_iff] at e
      obtain ⟨i, ei, rfl⟩ := e
      obtain ⟨h1, h2⟩ := readInt_text ei
      exact call_int_str pins s σ H _ us Q I r ⟨_, i, rfl, h1, h2, q _ H (New.refl H) (.int _)⟩
    | [], e => simp [fnD] at e
    | [.non], e => simp [fnD] at e
    | [.bl _], e => simp [fnD] at e
    | [.lst _], e => simp [fnD] at e
    | [.tup _], e => simp [fnD] at e
    | [.dct _ _], e => simp [fnD] at e
    | _ :: _ :: _, e => simp [fnD] at e
  · cases e
theorem cr_tuple : CallR X (.type "tuple") (rFnA (fx X tv xp) .tuple) := by
  intro pins s σ H vs us Q I r h
  rcases h with ⟨xs, d, sl, e, q⟩ | ⟨e, _⟩
  · match xs, e with
    | [.lst i], e =>
      obtain ⟨u, rfl, sx⟩ := sl.one
      obtain ⟨a, ws, rfl, hs, ds⟩ := sx.lst'
      simp only [fnD, Option.some.injEq] at e
      subst e
      refine call_tuple_of pins s σ H _ us Q I r ⟨a, ws, rfl, .inl ⟨hs.l, fun p hp => ?_⟩⟩
      exact q _ _ (New.upd _ hp) (.tup (.of upd_same) (ds.tf (New.upd _ hp).tf))
    | [.tup i], e =>
      obtain ⟨u, rfl, sx⟩ := sl.one
      obtain ⟨a, ws, rfl, hs, ds⟩ := sx.tup
      simp only [fnD, Option.some.injEq] at e
      subst e
      refine call_tuple_of pins s σ H _ us Q I r ⟨a, ws, rfl, .inr ⟨hs, ?_⟩⟩
      exact q _ H (New.refl H) (.tup hs ds)
    | [], e => simp [fnD] at e
    | [.non], e => simp [fnD] at e
    | [.bl _], e => simp [fnD] at e
    | [.int _], e => simp [fnD] at e
    | [.str _], e => simp [fnD] at e
    | [.dct _ _], e => simp [fnD] at e
    | _ :: _ :: _, e => simp [fnD] at e
  · cases e
theorem signs_vals (x : List Nat) : ∀ (l : List Value), l.length = x.length → (∀ j v, l[j]? = some v → SignAt (T x) j v) → Vals (x.map fun c => V.str (T [c])) l := by
  have gen : ∀ (y : List Nat) (l : List Value), l.length = y.length → (∀ (j : Nat) (v : Value), l[j]? = some v → ∃ (c : Nat) (u : Tok), y[j]? = some c ∧ v = Value.str ⟨#[c]⟩ u) → Vals (y.map fun c => V.str (T [c])) l := by
    intro y
    induction y with
    | nil => intro l hl _; cases l with | nil => exact .nil | cons _ _ => simp at hl
    | cons c y ih =>
      intro l hl h
      cases l with
      | nil => simp at hl
      | cons v l =>
        obtain ⟨c', u, e1, e2⟩ := h 0 v rfl
        simp at e1
        subst e1 e2
        refine .cons ⟨u, rfl⟩ (ih l (by simpa using hl) fun j v e => ?_)
        have := h (j + 1) v (by simpa using e)
        simpa using this
  intro l hl h
  refine gen x l hl fun j v e => ?_
  obtain ⟨c, u, e1, e2⟩ := h j v e
  exact ⟨c, u, by simpa [T] using e1, e2⟩
theorem dens_signs {P : Program} {w : World} {K : Frag} {H : Hp} : ∀ x : List Nat, Dens P w K H (x.map fun c => D.str [c]) (x.map fun c => V.str (T [c]))
  | [] => .nil
  | c :: x => .cons (Den.str (s := [c]) (by rw [sizeLine_eq]; exact Nat.le_of_ble_eq_true rfl)) (dens_signs x)
theorem cr_list (hc : X.calm = true) : CallR X (.type "list") (rFnA (fx X tv xp) .list) := by
  intro pins s σ H vs us Q I r h
  rcases h with ⟨xs, d, sl, e, q⟩ | ⟨e, _⟩
  · match xs, e with
    | [.str x], e =>
      obtain ⟨u, rfl, sx⟩ := sl.one
      obtain ⟨rfl, hl⟩ := sx.str
      simp only [fnD, Option.some.injEq] at e
      subst e
      obtain ⟨v, rfl, t, rfl⟩ := vals1 r
      refine call_list_str (I.ok.hd hc) (T x) t (fun h' tk acc c' hk hn hi => ?_) hl
      have rv := signs_vals x acc.toList (by rw [Array.length_toList, hi.1]; rfl) (fun j v e => hi.2 j v (by simpa using e))
      have I1 := I.laid (o := .lst (x.map fun c => V.str (T [c]))) (t' := tk) hk (Nat.le_refl _) ⟨by rw [List.length_map]; exact hl, acc.toList, c', rv, by simpa using hn⟩
      have fr := I.hok.fresh (Nat.le_refl s.heap.objs.size)
      refine EP.known ⟨.ref _, _, I1, rfl, _, _, rfl, upd_same, fun o => ?_⟩
      have n2 := New.upd2 (.lst (x.map fun c => V.str (T [c]))) (.frz o (.lst (x.map fun c => V.str (T [c])))) fr
      exact q _ _ n2 (.lst (.inl ⟨o, upd_same⟩) (dens_signs x))
    | [], e => simp [fnD] at e
    | [.non], e => simp [fnD] at e
    | [.bl _], e => simp [fnD] at e
    | [.int _], e => simp [fnD] at e
    | [.lst _], e => simp [fnD] at e
    | [.tup _], e => simp [fnD] at e
    | [.dct _ _], e => simp [fnD] at e
    | _ :: _ :: _, e => simp [fnD] at e
  · cases e
theorem cr_min2 (hc : X.calm = true) : CallR X (.builtin "min") (rFnA (fx X tv xp) .min2) := by
  intro pins s σ H vs us Q I r h
  rcases h with ⟨xs, d, sl, e, q⟩ | ⟨e, _⟩
  · match xs, e with
    | [x, y], e =>
      obtain ⟨u, v, rfl, sx, sy⟩ := sl.two
      cases x <;> cases y <;> simp only [fnD] at e <;> cases e
      obtain rfl := sx.int
      obtain rfl := sy.int
      exact call_min2 hc pins s σ H _ us Q I r ⟨_, _, rfl, q _ H (New.refl H) (.int _)⟩
    | [], e => simp [fnD] at e
    | [_], e => simp [fnD] at e
    | _ :: _ :: _ :: _, e => simp [fnD] at e
  · cases e
theorem cr_max2 (hc : X.calm = true) : CallR X (.builtin "max") (rFnA (fx X tv xp) .max2) := by
  intro pins s σ H vs us Q I r h
  rcases h with ⟨xs, d, sl, e, q⟩ | ⟨e, _⟩
  · match xs, e with
    | [x, y], e =>
      obtain ⟨u, v, rfl, sx, sy⟩ := sl.two
      cases x <;> cases y <;> simp only [fnD] at e <;> cases e
      obtain rfl := sx.int
      obtain rfl := sy.int
      exact call_max2 hc pins s σ H _ us Q I r ⟨_, _, rfl, q _ H (New.refl H) (.int _)⟩
    | [], e => simp [fnD] at e
    | [_], e => simp [fnD] at e
    | _ :: _ :: _ :: _, e => simp [fnD] at e
  · cases e
theorem cr_maxL (hc : X.calm = true) : CallR X (.builtin "max") (rFnA (fx X tv xp) .maxL) := by
  intro pins s σ H vs us Q I r h
  rcases h with ⟨xs, d, sl, e, q⟩ | ⟨e, _⟩
  · match xs, e with
    | [x], e =>
      obtain ⟨u, rfl, sx⟩ := sl.one
      cases x <;> simp only [fnD] at e <;> (first | (cases e; done) | skip)
      split at e <;> cases e
      rename_i y ys ei
      obtain ⟨a, ws, rfl, hs, ds⟩ := sx.lst'
      have ew := ints_dens ds ei
      subst ew
      refine cr_max hc pins s σ H _ us Q I r ⟨a, _, rfl, hs.l, by simp, fun m h1 h2 => ?_⟩
      rw [max_fold ys y m h1 h2] at q
      exact q _ H (New.refl H) (.int _)
    | [], e => simp [fnD] at e
    | _ :: _ :: _, e => simp [fnD] at e
  · cases e
theorem cr_minL (hc : X.calm = true) : CallR X (.builtin "min") (rFnA (fx X tv xp) .minL) := by
  intro pins s σ H vs us Q I r h
  rcases h with ⟨xs, d, sl, e, q⟩ | ⟨e, _⟩
  · match xs, e with
    | [x], e =>
      obtain ⟨u, rfl, sx⟩ := sl.one
      cases x <;> simp only [fnD] at e <;> (first | (cases e; done) | skip)
      split at e <;> cases e
      rename_i y ys ei
      obtain ⟨a, ws, rfl, hs, ds⟩ := sx.lst'
      have ew := ints_dens ds ei
      subst ew
      refine cr_min hc pins s σ H _ us Q I r ⟨a, _, rfl, hs.l, by simp, fun m h1 h2 => ?_⟩
      rw [min_fold ys y m h1 h2] at q
      exact q _ H (New.refl H) (.int _)
    | [], e => simp [fnD] at e
    | _ :: _ :: _, e => simp [fnD] at e
  · cases e
end
/-- which value stands for a built-in function -/
def fnV : Fn → Value
  | .len => .builtin "len"
  | .all => .builtin "all"
  | .any => .builtin "any"
  | .abs => .builtin "abs"
  | .repr => .builtin "repr"
  | .min2 => .builtin "min"
  | .max2 => .builtin "max"
  | .minL => .builtin "min"
  | .maxL => .builtin "max"
  | .str => .type "str"
  | .int => .type "int"
  | .tuple => .type "tuple"
  | .list => .type "list"
theorem cr_fn {X : Cx} {tv : V} {xp : XP} (hc : X.calm = true) (hg : X.A.guards = some []) (hu : X.A.units + 200 < cLine) (f : Fn) : CallR X (fnV f) (fun us H Q => (f = .repr ∧ rRepr (fx X tv xp) us H Q) ∨ (f ≠ .repr ∧ rFnA (fx X tv xp) f us H Q)) := by
    intro pins s σ H vs us Q I r h
    rcases h with ⟨rfl, h⟩ | ⟨hn, h⟩
    · exact call_repr hg hu pins s σ H vs us Q I r h
    · cases f <;> (first | (exact absurd rfl hn) | skip)
      · exact cr_len pins s σ H vs us Q I r h
      · exact cr_allE hc pins s σ H vs us Q I r h
      · exact cr_anyE hc pins s σ H vs us Q I r h
      · exact cr_abs pins s σ H vs us Q I r h
      · exact cr_str pins s σ H vs us Q I r h
      · exact cr_int pins s σ H vs us Q I r h
      · exact cr_tuple pins s σ H vs us Q I r h
      · exact cr_list hc pins s σ H vs us Q I r h
      · exact cr_min2 hc pins s σ H vs us Q I r h
      · exact cr_max2 hc pins s σ H vs us Q I r h
      · exact cr_maxL hc pins s σ H vs us Q I r h
      · exact cr_minL hc pins s σ H vs us Q I r h
section
variable {J : Jx}
theorem looks_sees {ρ : List Addr} {hp : Heap} {H : Hp} {α : Type} {k : α → List Addr → Heap → Hp → Prop} (y : J.F.heap ρ hp H) : ∀ {vs : List PV} {us : List V} {f : List D → Res α}, J.F.denPs ρ H vs us → Fin J.F J.Xs J.W ρ H (looks hp vs f) k →
    ∃ xs, SeesL J.F H xs us ∧ Fin J.F J.Xs J.W ρ H (f xs) k
  | [], _, f, .nil, h => ⟨[], .nil, h⟩
  | v :: vs, _, f, .cons d ds, h => by
    unfold looks at h
    obtain ⟨x, sx, _, h1⟩ := Fin.look y d h
    obtain ⟨xs, sl, h2⟩ := looks_sees y ds h1
    exact ⟨x :: xs, .cons sx sl, h2⟩
theorem bi_post {f : Fn} {vs : List PV} {us : List V} {ρ : List Addr} {hp : Heap} {H : Hp} {Q : VK} (y : J.F.heap ρ hp H) (d : J.F.denPs ρ H vs us) (h : Fin J.F J.Xs J.W ρ H (biGo f vs hp) (fun v ρ' _ H' => ∀ u, J.F.denP ρ' H' v u → Q u H')) :
    (f = .repr ∧ rRepr J.F us H Q) ∨ (f ≠ .repr ∧ rFnA J.F f us H Q) := by
  by_cases hf : f = .repr
  · subst hf
    refine .inl ⟨rfl, ?_⟩
    unfold biGo at h
    obtain ⟨xs, e, h1⟩ := Fin.opt h
    obtain ⟨t, et, h2⟩ := Fin.okD h1
    have dd := keeps_dens d e
    match xs, et with
    | [x], et =>
      cases dd with
      | cons dx dd =>
        cases dd
        simp only [fnD, Option.map_eq_some_iff] at et
        obtain ⟨t', e1, rfl⟩ := et
        refine ⟨x, _, t', rfl, dx, e1, ?_⟩
        refine Fin.hereD y h2 (.str ?_)
        unfold reprD at e1
        split at e1 <;> (first | (cases e1; done) | skip)
        split at e1 <;> cases e1
        rename_i hc
        simp only [Bool.and_eq_true, decide_eq_true_eq] at hc
        rw [← line_eq]
        exact hc.1.1
    | [], et => simp [fnD] at et
    | _ :: _ :: _, et => simp [fnD] at et
  · refine .inr ⟨hf, ?_⟩
    have h0 : Fin J.F J.Xs J.W ρ H (biEl f vs hp) (fun v ρ' _ H' => ∀ u, J.F.denP ρ' H' v u → Q u H') := by
      cases f <;> (first | (exact absurd rfl hf) | (exact h))
    unfold biEl at h0
    cases er : rwsLen f vs hp with
    | none =>
      rw [er] at h0
      obtain ⟨xs, sl, h1⟩ := looks_sees (f := fun xs => okD (fnD f xs) hp) y d h0
      obtain ⟨t, et, h2⟩ := Fin.okD h1
      exact .inl ⟨xs, t, sl, et, Fin.newD y h2⟩
    | some n =>
      rw [er] at h0
      unfold rwsLen at er
      split at er
      · rename_i m
        split at er <;> cases er
        rename_i ns e
        cases d with
        | cons d1 d2 =>
          cases d2
          cases d1 with
          | @ref _ a hn =>
            obtain ⟨as, h1, h2', h3⟩ := y.at_ m _ a e hn
            refine .inr ⟨rfl, a, _, rfl, h1, ?_⟩
            rw [List.length_map, h2']
            exact Fin.hereD y h0 (.int _)
      · cases er
theorem je_bi (ok : J.Ok) (hc : J.X.calm = true) {f : Fn} {a : Expr} {as : List Expr} {es : List E} {x : Str} {p pos : Pos} (h1 : Blt J x (fnV f)) (ha : JA J (a :: as) es)
    (hs : starEach (a :: as) J.X.env = (false, eval a J.X.env) :: starEach as J.X.env) (hpl : (backTo pos (starEach as J.X.env)).any (·.1) = false) : JE J (.Call (.Name x p) (a :: as) [] pos) (.bi f es) := by
  have cr := cr_fn (tv := J.tv) (xp := J.xp) hc ok.guards ok.units f
  have key : PE J.X (.Call (.Name x p) (a :: as) [] pos) (tCB (fun us H Q => (f = .repr ∧ rRepr (fx J.X J.tv J.xp) us H Q) ∨ (f ≠ .repr ∧ rFnA (fx J.X J.tv J.xp) f us H Q)) (tEs J es)) := by
    cases f <;> first
      | exact pe_callB cr h1.gl h1.mg h1.bt ha h1.nn h1.nd hs hpl
      | exact pe_callTy cr h1.gl h1.mg h1.bt ha h1.nn h1.nd hs hpl
  refine key.imp fun σ H Q h => ?_
  obtain ⟨env, hp, ρ, he, hh, f'⟩ := h
  unfold evalE at f'
  exact ⟨env, hp, ρ, he, hh, (Fin.bind f').mono fun vs ρ1 h1 H1 x1 y1 z us ds => bi_post y1 ds z⟩
end
end Ev
end
section
/-! EvK: what changes: lists, rows of lists, dicts. -/
set_option autoImplicit false
set_option linter.all false
set_option maxRecDepth 100000
set_option maxHeartbeats 1000000
set_option Elab.async false
namespace Ev
open PySem PySem.Spec L2

section
variable {P : Program} {w : World} {K : Frag} {tb : List (Addr × Str)} {ρ : List Addr} {h : Heap} {H : Hp}
/-- a cell written -/
theorem HeapOk.write {n : Nat} {a : Addr} {c' : Cell} {o : HO} (y : HeapOk P w K tb ρ h H) (ha : ρ[n]? = some a) (nt : NotTab H a) (t : TF H (upd H a o)) (hc : CellOk P w K ρ (upd H a o) a c') : HeapOk P w K tb ρ (h.set n c') (upd H a o) := by
  refine ⟨tabs_upd nt y.tabs, y.nd, by rw [List.length_set]; exact y.len, fun m c b h1 h2 => ?_⟩
  by_cases hm : m = n
  · subst hm
    rw [ha] at h2
    cases h2
    rw [List.getElem?_set_self (by rw [← y.len]; exact (List.getElem?_eq_some_iff.mp ha).1)] at h1
    cases h1
    exact hc
  · rw [List.getElem?_set_ne (Ne.symm hm)] at h1
    have hb : b ≠ a := by
      rintro rfl
      obtain ⟨l1, e1⟩ := List.getElem?_eq_some_iff.mp h2
      obtain ⟨l2, e2⟩ := List.getElem?_eq_some_iff.mp ha
      exact hm ((List.getElem_inj y.nd).mp (e1.trans e2.symm))
    have q := y.at_ m c b h1 h2
    cases c with
    | lst xs => obtain ⟨us, q1, q2⟩ := q; exact ⟨us, by rw [upd_ne hb]; exact q1, q2.tf t⟩
    | dct ks vs => obtain ⟨q0, o', ws, q1, q2, q3⟩ := q; exact ⟨q0, o', ws, by rw [upd_ne hb]; exact q1, q2, q3.tf t⟩
    | rws ns => obtain ⟨as, q1, q2, q3⟩ := q; exact ⟨as, by rw [upd_ne hb]; exact q1, q2, q3⟩
    | dead => obtain ⟨o', u, q1⟩ := q; exact ⟨o', u, by rw [upd_ne hb]; exact q1⟩
theorem HeapOk.lstAt {n : Nat} {a : Addr} {xs : List D} (y : HeapOk P w K tb ρ h H) (e : h[n]? = some (.lst xs)) (ha : ρ[n]? = some a) : ∃ us, H a = some (.lst us) ∧ Dens P w K H xs us := y.at_ n _ a e ha
theorem HeapOk.addr {n : Nat} {c : Cell} (y : HeapOk P w K tb ρ h H) (e : h[n]? = some c) : ∃ a, ρ[n]? = some a := by
  have l := (List.getElem?_eq_some_iff.mp e).1
  rw [← y.len] at l
  exact ⟨_, List.getElem?_eq_getElem l⟩
end

/-! ### methods of lists -/
section
variable {X : Cx}
def rExtE (K : Frag) : V → List V → Hp → VK → Prop := fun x vs H Q => ∃ l b xs zs, x = .ref l ∧ vs = [.ref b] ∧ H l = some (.lst xs) ∧ SqE K H b zs ∧ xs.length + zs.length ≤ sizeLine ∧ Q .non (upd H l (.lst (xs ++ zs)))
theorem mt_extE : MtR X "list.extend" (rExtE X.K) := by
  intro pins s σ H x vs v us Q I rx rv h
  obtain ⟨l, b, xs, zs, rfl, rfl, hH, hB, hz, q⟩ := h
  cases rx
  obtain ⟨u, rfl, ru⟩ := rv.one
  cases ru
  obtain ⟨z, its, n, r, hl, e⟩ := I.lstM hH
  obtain ⟨z2, its2, n2, r2, hl2, e2⟩ := I.lstE hB
  have hsz : its.toArray.size + its2.toArray.size ≤ sizeLine := by rw [List.size_toArray, List.size_toArray]; omega
  have hlong : ¬ (!its.toArray.isEmpty && Builtin.List.listTooLong (its.toArray.size + its2.toArray.size)) = true := by
    rw [notLongL hsz, Bool.and_false]
    exact Bool.false_ne_true
  refine PySem.call_meets F.slot_list_extend ⟨_, e, rfl⟩ F.entry_list_extend (F.args_list_extend_2 _ _)
    (AutoSeq1.list_extend_list_list_0 l its.toArray n b its2.toArray n2 hlong (by rw [List.size_toArray]; omega) (by first | omega | (rw [List.size_toArray]; omega))) ⟨e, e2, ?_⟩
  refine ⟨.non, _, I.lset (its' := its ++ its2) hH e (by simp) (r.append r2) ?_, rfl, q⟩
  rw [List.length_append]
  omega
end
/-- which row stands for a method -/
structure Meth (T : String) (name : Str) (id : String) : Prop where
  plain : PlainAttrs T
  slot : Slot T name id
  ty : typeOf (.builtin id) = pure (.type "method_descriptor")
theorem m_append : Meth "list" "append" "list.append" := ⟨PySem.F.plainAttrs_list, PySem.F.slot_list_append, PySem.F.type_list_append⟩
theorem m_extend : Meth "list" "extend" "list.extend" := ⟨PySem.F.plainAttrs_list, PySem.F.slot_list_extend, PySem.F.type_list_extend⟩
theorem m_pop : Meth "list" "pop" "list.pop" := ⟨PySem.F.plainAttrs_list, PySem.F.slot_list_pop, PySem.F.type_list_pop⟩
theorem m_join : Meth "str" "join" "str.join" := ⟨PySem.F.plainAttrs_str, PySem.F.slot_str_join, PySem.F.type_str_join⟩
def mtT : Mt → String
  | .join => "str"
  | _ => "list"
def mtName : Mt → Str
  | .append => "append"
  | .extend => "extend"
  | .pop => "pop"
  | .join => "join"
def mtId : Mt → String
  | .append => "list.append"
  | .extend => "list.extend"
  | .pop => "list.pop"
  | .join => "str.join"
theorem m_of : ∀ m : Mt, Meth (mtT m) (mtName m) (mtId m)
  | .append => m_append
  | .extend => m_extend
  | .pop => m_pop
  | .join => m_join
theorem joinL_T (sep : List Nat) : ∀ ts : List (List Nat), Str.join (T sep) (ts.map T) = T (joinT sep ts)
  | [] => rfl
  | [x] => rfl
  | x :: y :: r => by
    have ih := joinL_T sep (y :: r)
    show T x ++ T sep ++ Str.join (T sep) ((y :: r).map T) = _
    rw [ih, T_app, T_app]
    rfl
theorem joinT_len (sep : List Nat) : ∀ ts : List (List Nat), (joinT sep ts).length ≤ (ts.map List.length).sum + ts.length * sep.length
  | [] => by simp [joinT]
  | [x] => by simp [joinT]
  | x :: y :: r => by
    have ih := joinT_len sep (y :: r)
    simp only [joinT, List.length_append, List.map_cons, List.sum_cons, List.length_cons] at ih ⊢
    rw [Nat.add_mul (r.length + 1) 1 sep.length]
    omega
theorem joinD_some {x y d : D} (h : joinD x y = some d) : ∃ sep xs ts, x = .str sep ∧ y = .lst xs ∧ texts xs = some ts ∧ (ts.map List.length).sum + ts.length * sep.length ≤ line ∧ d = .str (joinT sep ts) := by
  cases x <;> cases y <;> simp only [joinD] at h <;> (first | (cases h; done) | skip)
  split at h
  · rename_i ts et
    split at h <;> cases h
    rename_i hz
    exact ⟨_, _, ts, rfl, rfl, et, hz, rfl⟩
  · cases h
section
variable {J : Jx}
/-- by values -/
def rMt (J : Jx) (m : Mt) : V → List V → Hp → VK → Prop := fun x us H Q => ∃ v vs hp ρ, J.F.heap ρ hp H ∧ J.F.denP ρ H v x ∧ J.F.denPs ρ H vs us ∧ Fin J.F J.Xs J.W ρ H (mtGo J.g.base m v vs hp) (fun v ρ' _ H' => ∀ u, J.F.denP ρ' H' v u → Q u H')
theorem paired1 {R : PV → V → Prop} {v : PV} {us : List V} (h : Paired2 R [v] us) : ∃ u, us = [u] ∧ R v u := by
  cases h with | cons a b => cases b; exact ⟨_, rfl, a⟩
theorem paired0 {R : PV → V → Prop} {us : List V} (h : Paired2 R [] us) : us = [] := by cases h; rfl
theorem mr_append : MtR J.X "list.append" (rMt J .append) := by
  intro pins s σ H x us u ws Q I rx rv h
  obtain ⟨v, vs, hp, ρ, y, dv, ds, f⟩ := h
  revert f
  match vs with
  | [] => exact fun f => f.elim
  | _ :: _ :: _ => exact fun f => f.elim
  | [v2] =>
    intro f
    simp only [mtGo] at f
    obtain ⟨n, en, f'⟩ := Fin.opt f
    clear f
    have f := f'
    clear f'
    obtain rfl := refP_some en
    obtain ⟨u2, rfl, d2⟩ := paired1 ds
    cases dv with
    | @ref _ a ha =>
      unfold appGo at f
      cases er : rwsOf (.ref n) hp with
      | some ns =>
        rw [er] at f
        obtain ⟨n', en', e⟩ := rwsOf_some er
        cases en'
        obtain ⟨m, em, f'⟩ := Fin.opt f
        clear f
        have f := f'
        clear f'
        obtain rfl := refP_some em
        obtain ⟨c, f'⟩ := Fin.need f
        clear f
        have f := f'
        clear f'
        simp only [Bool.and_eq_true, decide_eq_true_eq] at c
        cases d2 with
        | @ref _ b hb =>
          obtain ⟨as, h1, h2, h3⟩ := y.at_ n _ a e ha
          refine mt_append pins s σ H _ _ u ws Q I rx rv ⟨a, as.map V.ref, .ref b, rfl, rfl, h1, by rw [List.length_map, h2, ← line_eq]; exact c.2, ?_⟩
          have t : TF H (upd H a (.lst (as.map V.ref ++ [V.ref b]))) := TF.lst h1
          refine f ρ _ (Ext.wr ha t) (y.write ha (NotTab.lst h1) t ⟨as ++ [b], by rw [upd_same]; simp, by simp [h2], fun i m' em => ?_⟩) _ (.d .non)
          by_cases hi : i < ns.length
          · rw [List.getElem?_append_left hi] at em
            rw [List.getElem?_append_left (by rw [h2]; exact hi)]
            exact h3 i m' em
          · have hl := (List.getElem?_eq_some_iff.mp em).1
            simp at hl
            have : i = ns.length := by omega
            subst this
            rw [List.getElem?_append_right (Nat.le_refl _)] at em
            simp at em
            subst em
            rw [← h2, List.getElem?_append_right (Nat.le_refl _)]
            exact ⟨b, by simp, hb⟩
      | none =>
        rw [er] at f
        obtain ⟨xs, ex, f'⟩ := Fin.opt f
        clear f
        have f := f'
        clear f'
        have e := lstOf_some ex
        obtain ⟨x2, rfl, dx, f'⟩ := Fin.keep d2 f
        clear f
        have f := f'
        clear f'
        obtain ⟨c, f'⟩ := Fin.need f
        clear f
        have f := f'
        clear f'
        simp only [decide_eq_true_eq] at c
        obtain ⟨us', h1, h2⟩ := y.lstAt e ha
        refine mt_append pins s σ H _ _ u ws Q I rx rv ⟨a, us', u2, rfl, rfl, h1, by rw [← h2.length, ← line_eq]; exact c, ?_⟩
        have t : TF H (upd H a (.lst (us' ++ [u2]))) := TF.lst h1
        exact f ρ _ (Ext.wr ha t) (y.write ha (NotTab.lst h1) t ⟨_, upd_same, (h2.snoc dx).tf t⟩) _ (.d .non)
theorem mr_extend : MtR J.X "list.extend" (rMt J .extend) := by
  intro pins s σ H x us u ws Q I rx rv h
  obtain ⟨v, vs, hp, ρ, y, dv, ds, f⟩ := h
  revert f
  match vs with
  | [] => exact fun f => f.elim
  | _ :: _ :: _ => exact fun f => f.elim
  | [v2] =>
    intro f
    simp only [mtGo] at f
    obtain ⟨n, en, f'⟩ := Fin.opt f
    clear f
    have f := f'
    clear f'
    obtain rfl := refP_some en
    obtain ⟨u2, rfl, d2⟩ := paired1 ds
    cases dv with
    | @ref _ a ha =>
      unfold extGo at f
      obtain ⟨xs, ex, f'⟩ := Fin.opt f
      clear f
      have f := f'
      clear f'
      have e := lstOf_some ex
      obtain ⟨x2, rfl, dx, f'⟩ := Fin.keep d2 f
      clear f
      have f := f'
      clear f'
      obtain ⟨ys, ey, f'⟩ := Fin.opt f
      clear f
      have f := f'
      clear f'
      obtain rfl := lstD_some ey
      obtain ⟨c, f'⟩ := Fin.need f
      clear f
      have f := f'
      clear f'
      simp only [decide_eq_true_eq] at c
      obtain ⟨us', h1, h2⟩ := y.lstAt e ha
      cases dx with
      | @lst b zs _ hz hd =>
        refine mt_extE pins s σ H _ _ u ws Q I rx rv ⟨a, b, us', zs, rfl, rfl, h1, .inr hz, by rw [← h2.length, ← hd.length, ← line_eq]; exact c, ?_⟩
        have t : TF H (upd H a (.lst (us' ++ zs))) := TF.lst h1
        exact f ρ _ (Ext.wr ha t) (y.write ha (NotTab.lst h1) t ⟨_, upd_same, (h2.append hd).tf t⟩) _ (.d .non)
theorem mr_pop : MtR J.X "list.pop" (rMt J .pop) := by
  intro pins s σ H x us u ws Q I rx rv h
  obtain ⟨v, vs, hp, ρ, y, dv, ds, f⟩ := h
  revert f
  match vs with
  | _ :: _ => exact fun f => f.elim
  | [] =>
    intro f
    simp only [mtGo] at f
    obtain ⟨n, en, f'⟩ := Fin.opt f
    clear f
    have f := f'
    clear f'
    obtain rfl := refP_some en
    have e0 := paired0 ds
    subst e0
    cases dv with
    | @ref _ a ha =>
      unfold popGo at f
      cases er : rwsOf (.ref n) hp with
      | some ns =>
        rw [er] at f
        obtain ⟨n', en', e⟩ := rwsOf_some er
        cases en'
        obtain ⟨c, f'⟩ := Fin.need f
        clear f
        have f := f'
        clear f'
        obtain ⟨m, em, f'⟩ := Fin.opt f
        clear f
        have f := f'
        clear f'
        obtain ⟨as, h1, h2, h3⟩ := y.at_ n _ a e ha
        obtain ⟨b, e1, e2⟩ := h3 _ m em
        refine mt_pop pins s σ H _ _ u ws Q I rx rv ⟨a, as.map V.ref, .ref b, rfl, rfl, h1, by rw [List.length_map, List.getElem?_map, h2, e1]; rfl, ?_⟩
        have t : TF H (upd H a (.lst (as.map V.ref).dropLast)) := TF.lst h1
        refine f ρ _ (Ext.wr ha t) (y.write ha (NotTab.lst h1) t ⟨as.dropLast, by rw [upd_same, List.map_dropLast], by simp [h2], fun i m' em => ?_⟩) _ (.ref e2)
        rw [List.dropLast_eq_take, List.getElem?_take] at em
        split at em
        · rename_i hi
          obtain ⟨b', q1, q2⟩ := h3 i m' em
          refine ⟨b', ?_, q2⟩
          rw [List.dropLast_eq_take, List.getElem?_take, if_pos (by omega)]
          exact q1
        · cases em
      | none =>
        rw [er] at f
        obtain ⟨xs, ex, f'⟩ := Fin.opt f
        clear f
        have f := f'
        clear f'
        have e := lstOf_some ex
        obtain ⟨x2, ex2, f'⟩ := Fin.opt f
        clear f
        have f := f'
        clear f'
        obtain ⟨us', h1, h2⟩ := y.lstAt e ha
        obtain ⟨u', hu, du⟩ := h2.get ex2
        refine mt_pop pins s σ H _ _ u ws Q I rx rv ⟨a, us', u', rfl, rfl, h1, by rw [← h2.length]; exact hu, ?_⟩
        have t : TF H (upd H a (.lst us'.dropLast)) := TF.lst h1
        refine f ρ _ (Ext.wr ha t) (y.write ha (NotTab.lst h1) t ⟨_, upd_same, ?_⟩) _ (.d (du.tf t))
        have := (h2.take (xs.length - 1)).tf t
        rw [← List.dropLast_eq_take, h2.length, ← List.dropLast_eq_take] at this
        exact this
theorem mr_join : MtR J.X "str.join" (rMt J .join) := by
  intro pins s σ H x us u ws Q I rx rv h
  obtain ⟨v, vs, hp, ρ, y, dv, ds, f⟩ := h
  revert f
  match vs with
  | [] => exact fun f => f.elim
  | _ :: _ :: _ => exact fun f => f.elim
  | [v2] =>
    intro f
    simp only [mtGo] at f
    obtain ⟨u2, rfl, d2⟩ := paired1 ds
    obtain ⟨x1, rfl, dx, f'⟩ := Fin.keep dv f
    clear f
    have f := f'
    clear f'
    obtain ⟨x2, s2, _, f'⟩ := Fin.look y d2 f
    clear f
    have f := f'
    clear f'
    obtain ⟨d, ed, f'⟩ := Fin.okD f
    clear f
    have f := f'
    clear f'
    obtain ⟨sep, xs, ts, rfl, rfl, et, hz, rfl⟩ := joinD_some ed
    obtain ⟨a, ws', rfl, hs, dd⟩ := s2.lst'
    have ew := texts_dens dd et
    cases dx
    have e2 : (ts.map fun s => V.str (T s)) = (ts.map T).map V.str := by rw [List.map_map]; rfl
    have e3 : ((ts.map T).map (·.length)) = ts.map List.length := by rw [List.map_map]; rfl
    refine mt_join pins s σ H _ _ u ws Q I rx rv ⟨T sep, a, ts.map T, rfl, rfl, .inl ?_, ?_, ?_⟩
    · rw [← e2, ← ew]; exact hs.l
    · rw [e3, List.length_map, T_len]; exact hz
    · rw [show Txt.join (T sep) (ts.map T) = Str.join (T sep) (ts.map T) from eq_of_beq (PyProof.Rows.join_plain_closes _ _), joinL_T]
      refine Fin.hereD y f (.str ?_)
      rw [sizeLine_eq]
      exact Nat.le_trans (joinT_len sep ts) hz
theorem mr_of : ∀ m : Mt, MtR J.X (mtId m) (rMt J m)
  | .append => mr_append
  | .extend => mr_extend
  | .pop => mr_pop
  | .join => mr_join
theorem mt_ty {m : Mt} {v : PV} {x : V} {ρ : List Addr} {hp : Heap} {H : Hp} (y : J.F.heap ρ hp H) (d : J.F.denP ρ H v x) (h : mtK m v hp = true) : tyV J.X.K (mtT m) x H := by
  have lst : lstK v hp = true → tyV J.X.K "list" x H := by
    intro h
    cases v with
    | d _ => cases h
    | thk => cases h
    | ref n =>
      cases d with
      | @ref _ a ha =>
        unfold lstK at h
        simp only at h
        split at h
        · rename_i xs e
          obtain ⟨us, h1, _⟩ := y.at_ n _ a e ha
          exact .inl ⟨rfl, us, .of h1⟩
        · rename_i xs e
          obtain ⟨us, h1, _⟩ := y.at_ n _ a e ha
          exact .inl ⟨rfl, _, .of h1⟩
        · cases h
  cases m
  · exact lst h
  · exact lst h
  · exact lst h
  · cases v with
    | ref _ => cases h
    | thk => cases h
    | d z =>
      cases d with
      | d d => cases d <;> (first | (cases h; done) | rfl)
/-- o.m(e) -/
theorem je_mt1 {m : Mt} {o e : Expr} {eo ee : E} {apos cpos : Pos} (ho : JE J o eo) (ha : JA J [e] [ee]) (hbase : attributeBase o (mtName m) J.X.env (eval o J.X.env) = eval o J.X.env)
    (hfew : ((backTo cpos (starEach [e] J.X.env)).all (fun x => !x.1) && (backToKw cpos (keywordEach [] J.X.env)).all (fun x => x.1.isSome)
      && decide (([e] : List Expr).length + ([] : List Keyword).length + (if ([] : List Keyword).isEmpty then 0 else 1) < 30)) = true)
    (hline : (apos.endLine == cpos.line) = true) (hs : starEach [e] J.X.env = (false, eval e J.X.env) :: starEach [] J.X.env) (hplain : (backTo cpos (starEach ([] : List Expr) J.X.env)).any (·.1) = false) :
    JE J (.Call (.Attribute o (mtName m) apos) [e] [] cpos) (.mt m eo [ee]) := by
  have M := m_of m
  refine (pe_bm M.plain M.slot M.ty (mr_of m) ho ha hbase hfew hline hs hplain).imp fun σ H Q h => ?_
  obtain ⟨env, hp, ρ, he, hh, f⟩ := h
  unfold evalE at f
  refine tE_then he hh f fun v ρ1 h1 H1 u x1 y1 d1 f1 => ?_
  obtain ⟨c, f1⟩ := Fin.need f1
  refine ⟨mt_ty y1 d1 c, env, h1, ρ1, J.F.env_ext x1 he, y1, (Fin.bind f1).mono fun vs ρ2 h2 H2 x2 y2 z us ds => ?_⟩
  exact ⟨v, vs, h2, ρ2, y2, d1.ext x2, ds, z⟩
theorem je_mt0 {m : Mt} {o : Expr} {eo : E} {apos cpos : Pos} (ho : JE J o eo) (hbase : attributeBase o (mtName m) J.X.env (eval o J.X.env) = eval o J.X.env)
    (hline : (apos.endLine == cpos.line) = true) : JE J (.Call (.Attribute o (mtName m) apos) [] [] cpos) (.mt m eo []) := by
  have M := m_of m
  refine (pe_bm0 M.plain M.slot M.ty (mr_of m) ho hbase hline).imp fun σ H Q h => ?_
  obtain ⟨env, hp, ρ, he, hh, f⟩ := h
  unfold evalE at f
  refine tE_then he hh f fun v ρ1 h1 H1 u x1 y1 d1 f1 => ?_
  obtain ⟨c, f1⟩ := Fin.need f1
  unfold evalEs at f1
  exact ⟨mt_ty y1 d1 c, v, [], h1, ρ1, y1, d1, .nil, f1⟩
/-- what falls behind -/
theorem je_frz {a : Expr} {e : E} (h : JE J a e) : JE J a (.frz e) := by
  refine (PE.known' h).imp fun σ H Q z => ?_
  obtain ⟨env, hp, ρ, he, hh, f⟩ := z
  unfold evalE at f
  refine tE_then he hh f fun v ρ1 h1 H1 u x1 y1 d1 f1 => ?_
  unfold frzGo at f1
  cases v with
  | thk => exact f1.elim
  | d x => exact .inl (f1.here y1 u d1)
  | ref n =>
    simp only at f1
    split at f1
    · rename_i xs e
      cases d1 with
      | @ref _ a ha =>
        obtain ⟨us, h1', h2⟩ := y1.lstAt e ha
        refine .inr ⟨a, us, rfl, h1', fun o => ?_⟩
        have t : TF H1 (upd H1 a (.frz o (.lst us))) := TF.lst h1'
        exact f1 ρ1 _ (Ext.wr ha t) (y1.write ha (NotTab.lst h1') t ⟨_, _, upd_same⟩) _ (.d (.lst (.inl ⟨o, upd_same⟩) (h2.tf t)))
    · exact f1.elim
end
end Ev
end
section
/-! EvL: dicts that are made, items that are stored. -/
set_option autoImplicit false
set_option linter.all false
set_option maxRecDepth 100000
set_option maxHeartbeats 1000000
set_option Elab.async false
namespace Ev
open PySem PySem.Spec L2

def leafK : Key → Leaf
  | .inl i => .num i
  | .inr x => .text x
theorem leafK_inj {a b : Key} (h : leafK a = leafK b) : a = b := by
  cases a <;> cases b <;> simp [leafK] at h <;> rw [h]
theorem leafK_is {P : Program} {w : World} {k : Key} {v : Value} (h : keyIs k v = true) : (leafKind P w).is (leafK k) v = true := by
  rcases keyIs_shape h with ⟨i, t, rfl, rfl⟩ | ⟨x, t, rfl, rfl⟩
  · exact decide_eq_true rfl
  · show Value.isStrOf x (.str x t) = true
    simp [Value.isStrOf]
theorem leafK_hash {P : Program} {w : World} (k : Key) : (leafKind P w).hash (leafK k) = keyH w k := by cases k <;> rfl
theorem pairs_leaf {P : Program} {w : World} : ∀ {es : List DictEntry} {kvs : List (Key × Value)}, Pairs (mixKind P w) es kvs → Pairs (leafKind P w) es (kvs.map fun p => (leafK p.1, p.2))
  | [], _, .nil => .nil
  | _ :: _, _, .cons a b c => .cons (leafK_is a) b (pairs_leaf c)
theorem pairs_keys {P : Program} {w : World} : ∀ {es : List DictEntry} {kvs : List (Key × Value)}, Pairs (mixKind P w) es kvs → Vals (kvs.map fun p => kV p.1) (es.map (·.key))
  | [], _, .nil => .nil
  | e :: _, p :: _, .cons a b c => .cons (by
    show RelV (kV p.1) e.key
    rcases keyIs_shape a with ⟨i, t, e1, e2⟩ | ⟨x, t, e1, e2⟩
    · rw [e1, e2]; exact ⟨t, rfl⟩
    · rw [e1, e2]; exact ⟨t, rfl⟩) (pairs_keys c)
theorem pairs_vals {P : Program} {w : World} : ∀ {es : List DictEntry} {kvs : List (Key × Value)}, Pairs (mixKind P w) es kvs → es.map (·.val) = kvs.map (·.2)
  | [], _, .nil => rfl
  | _ :: _, _, .cons a b c => by rw [List.map_cons, List.map_cons, b, pairs_vals c]
theorem pairs_lenK {P : Program} {w : World} : ∀ {es : List DictEntry} {kvs : List (Key × Value)}, Pairs (mixKind P w) es kvs → es.length = kvs.length
  | [], _, .nil => rfl
  | _ :: _, _, .cons a b c => by rw [List.length_cons, List.length_cons, pairs_lenK c]
theorem dcO_of {P : Program} {w : World} {h : PySem.Heap} {a : Addr} {kvs : List (Key × Value)} {ws : List V} (hd : h.DictOf (mixKind P w) a kvs) (hl : kvs.length ≤ sizeLine) (hv : Vals ws (kvs.map (·.2))) :
    ∃ o, h.get? a = some o ∧ DcO P w o (kvs.map fun p => kV p.1) ws := by
  obtain ⟨o, es, ep, ho, hx, hdat, hk, hp, hn⟩ := hd
  refine ⟨o, ho, es, ep, kvs.map fun p => (leafK p.1, p.2), hx, hdat, fun e he => ?_, pairs_leaf hp, ?_, pairs_keys hp, ?_, ?_⟩
  · obtain ⟨k, h1, h2⟩ := hk e he
    exact ⟨leafK k, leafK_is h1, by rw [h2, leafK_hash]; rfl⟩
  · rw [List.map_map]
    have e : ((fun p : Leaf × Value => p.1) ∘ fun p : Key × Value => (leafK p.1, p.2)) = leafK ∘ fun p : Key × Value => p.1 := rfl
    rw [show (List.map ((fun p : Leaf × Value => p.1) ∘ fun p : Key × Value => (leafK p.1, p.2)) kvs) = (kvs.map (·.1)).map leafK by rw [List.map_map]; rfl]
    exact List.Pairwise.map leafK (fun a b h e => h (leafK_inj e)) hn
  · rw [pairs_vals hp]; exact hv
  · have := pairs_lenK hp
    rw [Array.length_toList] at this
    omega
/-- pairs in one line -/
def lineUp : List (Value × Value) → List Value
  | [] => []
  | p :: r => p.1 :: p.2 :: lineUp r
def keyVal : D → Option Key
  | .int i => some (.inl i)
  | .str s => some (.inr (T s))
  | _ => none
theorem keyVal_some {k : D} (h : keyOk k = true) : ∃ q, keyVal k = some q := by
  cases k <;> simp [keyOk] at h <;> exact ⟨_, rfl⟩
theorem key_den {P : Program} {w : World} {K : Frag} {H : Hp} {k : D} {u : V} {v : Value} {q : Key} (d : Den P w K H k u) (r : RelV u v) (e : keyVal k = some q) : u = kV q ∧ keyIs q v = true := by
  cases d <;> simp only [keyVal, Option.some.injEq] at e <;> (first | (cases e; done) | subst e)
  · obtain ⟨t, rfl⟩ := r; exact ⟨rfl, keyIs_int _ t⟩
  · obtain ⟨t, rfl⟩ := r; exact ⟨rfl, keyIs_str _ t⟩
theorem key_ne {a b : D} {p q : Key} (ha : keyVal a = some p) (hb : keyVal b = some q) (h : D.eq a b = false) : p ≠ q := by
  cases a <;> simp only [keyVal, Option.some.injEq] at ha <;> (first | (cases ha; done) | subst ha) <;> cases b <;> simp only [keyVal, Option.some.injEq] at hb <;> (first | (cases hb; done) | subst hb)
  · intro e
    cases e
    simp [D.eq] at h
  · exact fun e => nomatch e
  · exact fun e => nomatch e
  · intro e
    have := T_inj (Sum.inr.inj e)
    subst this
    simp [D.eq] at h
theorem disp_spec {P : Program} {w : World} {K : Frag} {H : Hp} : ∀ {ps : List (Value × Value)} {xs : List D} {us : List V} {ks vs : List D}, Dens P w K H xs us → Vals us (lineUp ps) → dispD xs = some (ks, vs) →
    ∃ (kvs : List (Key × Value)) (ws : List V), Carries (mixKind P w) ps kvs ∧ Dens P w K H ks (kvs.map fun p => kV p.1) ∧ Dens P w K H vs ws ∧ Vals ws (kvs.map (·.2)) ∧ (kvs.map (·.1)).Nodup ∧
      kvs.length = ks.length ∧ ks.map keyVal = kvs.map (fun p => some p.1)
  | [], xs, us, ks, vs, d, r, e => by
    cases r
    cases d
    cases e
    exact ⟨[], [], trivial, .nil, .nil, .nil, .nil, rfl, rfl⟩
  | p :: ps, xs, us, ks, vs, d, r, e => by
    cases r with
    | cons r1 r =>
      cases r with
      | cons r2 r =>
        cases d with
        | cons d1 d =>
          cases d with
          | cons d2 d =>
            simp only [dispD] at e
            split at e
            · rename_i kv ekv
              split at e <;> cases e
              rename_i hc
              simp only [Bool.and_eq_true, List.all_eq_true, Bool.not_eq_true'] at hc
              obtain ⟨kvs, ws, h1, h2, h3, h4, h5, h6, h7⟩ := disp_spec d r ekv
              obtain ⟨q, eq⟩ := keyVal_some hc.1
              obtain ⟨eu, hk⟩ := key_den d1 r1 eq
              subst eu
              refine ⟨(q, p.2) :: kvs, _ :: ws, ⟨hk, rfl, h1⟩, .cons d1 h2, .cons d2 h3, .cons r2 h4, ?_, by simp [h6], by simp [eq, h7]⟩
              rw [List.map_cons, List.nodup_cons]
              refine ⟨fun hm => ?_, h5⟩
              obtain ⟨x, hx, ex⟩ := List.mem_map.mp hm
              have m2 : some x.1 ∈ kv.1.map keyVal := by rw [h7]; exact List.mem_map.mpr ⟨x, hx, rfl⟩
              obtain ⟨y, hy, ey⟩ := List.mem_map.mp m2
              exact key_ne eq ey (hc.2 y hy) ex.symm
            · cases e
theorem stored_new {kvs : List (Key × Value)} {k : Key} (h : k ∉ kvs.map (·.1)) (v : Value) : stored kvs k v = kvs ++ [(k, v)] := by
  unfold stored
  rw [if_neg]
  simp only [List.any_eq_true, decide_eq_true_eq, not_exists, not_and]
  intro p hp e
  exact h (List.mem_map.mpr ⟨p, hp, e⟩)
theorem merged_new : ∀ (more kvs : List (Key × Value)), ((kvs ++ more).map (·.1)).Nodup → merged kvs more = kvs ++ more
  | [], kvs, _ => by simp [merged]
  | p :: more, kvs, h => by
    have h2 : p.1 ∉ kvs.map (·.1) := by
      rw [List.map_append, List.nodup_append] at h
      intro hm
      exact h.2.2 _ hm _ (by simp) rfl
    have e : merged kvs (p :: more) = merged (stored kvs p.1 p.2) more := rfl
    rw [e, stored_new h2, merged_new more (kvs ++ [(p.1, p.2)]) (by simpa using h)]
    simp
section
variable {X : Cx} {pins : List (Addr × Obj)} {σ : L2.St} {H : Hp} {s : Shared}
/-- an untracked object of ours becomes tracked -/
theorem _root_.L2.Inv.claim {h' : PySem.Heap} {t' : Nat} {p : Addr} {o : HO} (I : Inv X pins σ H s) (hn : H p = none) (h1 : X.s_0.heap.objs.size ≤ p) (hL : p ≠ X.env.locals) (hc : ∀ x c, X.env.cells.lookup x = some c → c ≠ p) (h3 : ∀ q ∈ X.pn ++ pins, q.1 ≠ p)
    (k : ∀ b u, b ≠ p → s.heap.get? b = some u → h'.get? b = some u) (new : ObjOk X.prog X.w (upd H p o) h' p o) : Inv X pins σ (upd H p o) { s with heap := h', toks := t' } := by
  have ne : ∀ b u, H b = some u → b ≠ p := fun b u e z => by rw [z, hn] at e; cases e
  refine I.step (g' := s.gens) (d' := s.drawn) (ch := [p]) (fun b hb => ?_) (fun b o _ _ hc e _ => k b o (fun z => hc (by simp [z])) e) (fun b o _ _ hc e _ => ⟨o.slots, k b o (fun z => hc (by simp [z])) e⟩) (fun b u hb _ n => ?_)
    (fun b o hc e => ⟨o, k b o (fun z => hc (by simp [z])) e⟩) (fun b xs e => by rw [upd_ne (ne b _ e)]; exact e) (fun b o u e => by rw [upd_ne (ne b _ e)]; exact e) (fun b ps e => ⟨#[], by rw [upd_ne (ne b _ e), e]; simp⟩) (fun m hm => ?_) (fun b u e => ?_) I.bare
  · have e : b = p := by simpa using hb
    subst e
    exact ⟨.inr h1, hL, hc, h3⟩
  · rw [upd_ne (fun z => hb (by simp [z]))]; exact n
  · obtain ⟨o, es, ep, ho, r⟩ := hm
    exact ⟨o, es, ep, k _ o (Ne.symm hL) ho, r⟩
  · by_cases hb : b = p
    · subst hb
      rw [upd_same] at e
      cases e
      exact new
    · rw [upd_ne hb] at e
      refine (I.hok b u e).stay (fun c v hc q => k c v ?_ q) (fun c q => by rw [upd_ne (ne c _ q)]; exact q) fun c xs q => by rw [upd_ne (ne c _ q)]; exact q
      rcases hc with z | z
      · rw [z]; exact hb
      · exact ne c _ z
end
theorem VE_ext {X : Cx} {H : Hp} {h : PySem.Heap} {a : Addr} {o : Obj} (e : h.get? a = some o) : ObjOk X.prog X.w H h a (.ext fun h => h.get? a = some o) := ⟨e, ⟨o, e⟩, fun h1 h2 e k => k _ e⟩
theorem VE_frz {X : Cx} {H : Hp} {h : PySem.Heap} {a : Addr} {o : Obj} (e : h.get? a = some o) : ObjOk X.prog X.w H h a (.frz o (.ext fun _ => True)) := ⟨e, trivial, ⟨o, e⟩, fun h1 h2 e k => trivial⟩
section
variable {J : Jx}
structure JP (J : Jx) (pos : Pos) (keys : List (Option Expr)) (values : List Expr) (es : List E) : Prop where
  run : ∀ (pins : List (Addr × Obj)) (s : Shared) (σ : L2.St) (H : Hp) (Q : List V → Hp → Prop), Inv J.X pins σ H s → tEs J es σ H Q →
    wpAny (model J.X.prog J.X.w) J.X.A (evalPairs (pairTrees keys values J.X.env pos)) (fun ps s' => ∃ us H', Inv J.X pins σ H' s' ∧ Vals us (lineUp ps) ∧ Q us H') J.X.xe s
theorem jp_nil {pos : Pos} : JP J pos [] [] [] := ⟨fun pins s σ H Q I h => pairTrees_nil_walk (by
  obtain ⟨env, hp, ρ, he, hh, f⟩ := h
  unfold evalEs at f
  exact ⟨[], H, I, .nil, f.here hh [] .nil⟩)⟩
theorem jp_cons {pos : Pos} {k v : Expr} {ks : List (Option Expr)} {vs : List Expr} {ek ev : E} {es : List E} (hk : JE J k ek) (hv : JE J v ev) (hr : JP J pos ks vs es) : JP J pos (some k :: ks) (v :: vs) (ek :: ev :: es) :=
  ⟨fun pins s σ H Q I h => by
    have R : tE J ek σ H fun x H1 => tE J ev σ H1 fun y H2 => tEs J es σ H2 fun us H3 => Q (x :: y :: us) H3 := by
      obtain ⟨env, hp, ρ, he, hh, f⟩ := h
      unfold evalEs at f
      refine tE_then he hh f fun v ρ1 h1 H1 u x1 y1 d1 f1 => ?_
      unfold evalEs at f1
      rw [bind_assoc] at f1
      refine tE_then (J.F.env_ext x1 he) y1 f1 fun v2 ρ2 h2 H2 u2 x2 y2 d2 f2 => ?_
      rw [bind_assoc] at f2
      exact ⟨env, h2, ρ2, J.F.env_ext (x1.trans x2) he, y2, (Fin.bind f2).mono fun vs ρ3 h3 H3 x3 y3 z us ds => Fin.here z y3 (u :: u2 :: us) (.cons (d1.ext (x2.trans x3)) (.cons (d2.ext x3) ds))⟩
    exact pairTrees_cons_walk (L2.thn (hk.run pins s σ H _ I R) fun u s1 ⟨x, H1, I1, rx, q1⟩ => L2.thn (hv.run pins s1 σ H1 _ I1 q1) fun w2 s2 ⟨y, H2, I2, ry, q2⟩ =>
      L2.thn (hr.run pins s2 σ H2 _ I2 q2) fun ws s3 ⟨us, H3, I3, rel, q3⟩ => ⟨x :: y :: us, H3, I3, .cons rx (.cons ry rel), q3⟩)⟩
theorem je_dct0 {mu : Bool} {pos : Pos} : JE J (.Dict [] [] pos) (.dct mu []) := by
  refine ⟨fun pins s σ H Q I h => ?_⟩
  obtain ⟨env, hp, ρ, he, hh, f⟩ := h
  unfold evalE evalEs at f
  rw [Res.bind_ok] at f
  obtain ⟨xs, ex, f⟩ := Fin.opt f
  cases ex
  obtain ⟨kv, ek, f⟩ := Fin.opt f
  cases ek
  obtain ⟨_, f⟩ := Fin.need f
  have hn := I.hok.fresh (Nat.le_refl s.heap.objs.size)
  have hg : (s.heap.push { cls := .type "dict", data := .dict #[] }).get? s.heap.objs.size = some { cls := .type "dict", data := .dict #[] } := Heap.get?_push_size _ rfl
  have hb : (s.heap.objs.size == sysModules) = false := beq_eq_false_iff_ne.mpr (Ne.symm (Nat.ne_of_lt I.big))
  obtain ⟨o, ho, hd⟩ := dcO_of (P := J.X.prog) (w := J.X.w) (ws := []) (Heap.DictOf.new s.heap) (Nat.zero_le _) .nil
  rw [hg] at ho
  cases ho
  refine wpAny_Dict_empty ?_
  cases mu
  · rw [if_neg (by decide)] at f
    have I1 := I.laid (a := s.heap.objs.size) (o := .frz { cls := .type "dict", data := .dict #[] } (.ext fun _ => True)) (h' := s.heap.push { cls := .type "dict", data := .dict #[] }) (t' := s.toks) (fun _ _ q => Heap.get?_push_of_some _ q) (Nat.le_refl _) (VE_frz hg)
    refine ⟨.ref s.heap.objs.size, _, I1, rfl, ?_⟩
    exact Fin.newD hh f _ _ (New.upd _ hn) (.dct ⟨hb, _, .inl upd_same, hd⟩ .nil .nil)
  · rw [if_pos rfl] at f
    have I1 := I.laid (a := s.heap.objs.size) (o := .ext fun h => h.get? s.heap.objs.size = some { cls := .type "dict", data := .dict #[] }) (h' := s.heap.push { cls := .type "dict", data := .dict #[] }) (t' := s.toks) (fun _ _ q => Heap.get?_push_of_some _ q) (Nat.le_refl _) (VE_ext hg)
    refine ⟨.ref s.heap.objs.size, _, I1, rfl, ?_⟩
    have n1 := New.upd (.ext fun h => h.get? s.heap.objs.size = some { cls := .type "dict", data := .dict #[] }) hn
    refine f (ρ ++ [s.heap.objs.size]) _ (Ext.cell hn) (hh.cell hn ⟨hb, _, [], upd_same, hd.toM (K := J.X.K) (H := H) .nil, .nil⟩) _ (.ref ?_)
    rw [← hh.len]
    exact List.getElem?_concat_length
theorem je_dct {mu : Bool} {pos : Pos} {keys : List (Option Expr)} {values : List Expr} {es : List E} (h : JP J pos keys values es) (hall : keys.all (·.isSome) = true) (hl : keys.length = values.length) (h0 : keys ≠ [])
    (h15 : keys.length ≤ 15) : JE J (.Dict keys values pos) (.dct mu es) := by
  refine ⟨fun pins s σ H Q I q => ?_⟩
  have hn := I.hok.fresh (Nat.le_refl s.heap.objs.size)
  have hg : (s.heap.push { cls := .type "dict", data := .dict #[] }).get? s.heap.objs.size = some { cls := .type "dict", data := .dict #[] } := Heap.get?_push_size _ rfl
  have hb : (s.heap.objs.size == sysModules) = false := beq_eq_false_iff_ne.mpr (Ne.symm (Nat.ne_of_lt I.big))
  have I1 : Inv J.X pins σ H { s with heap := s.heap.push { cls := .type "dict", data := .dict #[] } } := I.kept (t' := s.toks) fun b u e => Heap.get?_push_of_some _ e
  have I2 : Inv J.X ((s.heap.objs.size, { cls := .type "dict", data := .dict #[] }) :: pins) σ H { s with heap := s.heap.push { cls := .type "dict", data := .dict #[] } } := I1.pins_of fun p hp => by
    rcases List.mem_cons.mp hp with rfl | hp
    · exact ⟨hg, hn, Nat.ne_of_gt I.lt, I.nofs (Nat.le_refl _), fun v z => nomatch z⟩
    · exact I1.pin p (List.mem_append_right _ hp)
  have R : tEs J es σ H fun us H2 => ∃ v hp ρ, J.F.heap ρ hp H2 ∧ J.F.denPs ρ H2 v us ∧ Fin J.F J.Xs J.W ρ H2 (opt (keeps v) fun xs => opt (dispD xs) fun kv => need (decide (kv.1.length ≤ 15))
      (if mu then .ok (.ref hp.length) (hp ++ [.dct kv.1 kv.2]) else .ok (.d (.dct kv.1 kv.2)) hp)) (fun v ρ' _ H' => ∀ u, J.F.denP ρ' H' v u → Q u H') := by
    obtain ⟨env, hp, ρ, he, hh, f⟩ := q
    unfold evalE at f
    exact ⟨env, hp, ρ, he, hh, (Fin.bind f).mono fun vs ρ1 h1 H1 x1 y1 z us ds => ⟨vs, h1, ρ1, y1, ds, z⟩⟩
  refine wpAny_Dict_walk (knd := mixKind J.X.prog J.X.w) hall hl h0 h15 (L2.thn (h.run _ _ σ _ _ I2 R) fun ps s2 ⟨us, H2, I3, rel, v, hp, ρ, hh, ds, f⟩ => ?_)
  obtain ⟨xs, ex, f⟩ := Fin.opt f
  obtain ⟨⟨ks, vs⟩, ek, f⟩ := Fin.opt f
  obtain ⟨hz, f⟩ := Fin.need f
  simp only [decide_eq_true_eq] at hz
  have dd := keeps_dens ds ex
  obtain ⟨kvs, ws, h1, h2, h3, h4, h5, h6, _⟩ := disp_spec dd rel ek
  obtain ⟨hg2, hn2, hL, hfs, _⟩ := I3.pin (s.heap.objs.size, { cls := .type "dict", data := .dict #[] }) (by simp)
  simp only at hg2 hn2 hL hfs
  have hd0 : s2.heap.DictOf (mixKind J.X.prog J.X.w) s.heap.objs.size [] := by
    obtain ⟨o, es', ep, ho, r⟩ := Heap.DictOf.new (knd := mixKind J.X.prog J.X.w) s.heap
    rw [hg] at ho
    cases ho
    exact ⟨_, es', ep, hg2, r⟩
  refine ⟨kvs, h1, hd0, fun h' hd' hs => ?_⟩
  rw [merged_new kvs [] (by simpa using h5), List.nil_append] at hd'
  have hl' : kvs.length ≤ sizeLine := by rw [h6, sizeLine_eq]; omega
  obtain ⟨o, ho, hd⟩ := dcO_of hd' hl' h4
  have I4 : Inv J.X pins σ H2 s2 := I3.pins_of fun p hp => I3.pin p (List.mem_append_right _ (List.mem_cons_of_mem _ hp))
  have hc : ∀ x c, J.X.env.cells.lookup x = some c → c ≠ s.heap.objs.size := fun x c e => by
    obtain ⟨v, o, ho, _⟩ := I.cell x c e
    exact Nat.ne_of_lt (Heap.lt_size ho)
  have h3' : ∀ q ∈ J.X.pn ++ pins, q.1 ≠ s.heap.objs.size := fun q hq => Nat.ne_of_lt (Heap.lt_size (I.pin q hq).1)
  have k : ∀ b u, b ≠ s.heap.objs.size → s2.heap.get? b = some u → h'.get? b = some u := fun b u hb e => by rw [hs.2 b hb]; exact e
  cases mu
  · rw [if_neg (by decide)] at f
    have I5 := I4.claim (t' := s2.toks + ps.length) (o := .frz o (.ext fun _ => True)) hn2 I.sz hL hc h3' k (VE_frz ho)
    refine ⟨.ref s.heap.objs.size, _, I5, rfl, ?_⟩
    have n1 := New.upd (.frz o (.ext fun _ => True)) hn2
    exact Fin.newD hh f _ _ n1 (.dct ⟨hb, _, .inl upd_same, hd⟩ (h2.tf n1.tf) (h3.tf n1.tf))
  · rw [if_pos rfl] at f
    have I5 := I4.claim (t' := s2.toks + ps.length) (o := .ext fun h => h.get? s.heap.objs.size = some o) hn2 I.sz hL hc h3' k (VE_ext ho)
    refine ⟨.ref s.heap.objs.size, _, I5, rfl, ?_⟩
    have n1 := New.upd (.ext fun h => h.get? s.heap.objs.size = some o) hn2
    refine f (ρ ++ [s.heap.objs.size]) _ (Ext.cell hn2) (hh.cell hn2 ⟨hb, _, ws, upd_same, hd.toM h2, h3.tf n1.tf⟩) _ (.ref ?_)
    rw [← hh.len]
    exact List.getElem?_concat_length

/-! ### items stored -/
def rSets (J : Jx) : V → V → V → Hp → (Hp → Prop) → Prop := fun o i v H Q => ∃ ov iD vD hp ρ, J.F.heap ρ hp H ∧ J.F.denP ρ H ov o ∧ J.F.den H iD i ∧ J.F.den H vD v ∧ Fin J.F J.Xs J.W ρ H (setsGo ov iD vD hp) (fun _ _ _ H' => Q H')
theorem stored_old {kvs : List (Leaf × Value)} {j : Nat} {p : Leaf × Value} (hn : (kvs.map (·.1)).Nodup) (e : kvs[j]? = some p) (v : Value) : (stored kvs p.1 v).map (·.1) = kvs.map (·.1) ∧ (stored kvs p.1 v).map (·.2) = (kvs.map (·.2)).set j v := by
  have hm : p ∈ kvs := List.mem_of_getElem? e
  have ha : kvs.any (fun kv => decide (kv.1 = p.1)) = true := List.any_eq_true.mpr ⟨p, hm, by simp⟩
  unfold stored
  rw [if_pos ha]
  constructor
  · rw [List.map_map]
    apply List.map_congr_left
    intro x _
    show (if x.1 = p.1 then (x.1, v) else x).1 = x.1
    split <;> rfl
  · apply List.ext_getElem?
    intro i
    rw [List.getElem?_map, List.getElem?_map, List.getElem?_set, List.getElem?_map]
    by_cases hi : j = i
    · subst hi
      rw [if_pos rfl, e]
      simp
      exact (List.getElem?_eq_some_iff.mp e).1
    · rw [if_neg hi]
      cases ex : kvs[i]? with
      | none => rfl
      | some x =>
        simp only [Option.map_some]
        have : x.1 ≠ p.1 := fun z => by
          have h1 : (kvs.map (·.1))[i]? = some p.1 := by rw [List.getElem?_map, ex]; simp [z]
          have h2 : (kvs.map (·.1))[j]? = some p.1 := by rw [List.getElem?_map, e]; rfl
          obtain ⟨l1, g1⟩ := List.getElem?_eq_some_iff.mp h1
          obtain ⟨l2, g2⟩ := List.getElem?_eq_some_iff.mp h2
          exact hi ((List.getElem_inj hn).mp (g2.trans g1.symm))
        rw [if_neg this]
theorem stored_app {kvs : List (Leaf × Value)} {k : Leaf} (h : ∀ p ∈ kvs, p.1 ≠ k) (v : Value) : stored kvs k v = kvs ++ [(k, v)] := by
  unfold stored
  rw [if_neg]
  simp only [List.any_eq_true, decide_eq_true_eq, not_exists, not_and]
  intro p hp e
  exact h p hp e
theorem lstOf_dctOf {n : Nat} {h : Heap} {kv : List D × List D} (e : dctOf n h = some kv) : h[n]? = some (.dct kv.1 kv.2) := by
  unfold dctOf at e
  split at e
  · rename_i w e'; cases e; assumption
  · cases e
theorem set_all : PSet J.X (rSets J) := by
  intro pins s σ H o i v ov iv u Q I ro ri rv h
  obtain ⟨oP, iD, vD, hp, ρ, y, dO, di, dv, f⟩ := h
  unfold setsGo at f
  obtain ⟨n, en, f1⟩ := Fin.opt f
  clear f
  obtain rfl := refP_some en
  cases dO with
  | @ref _ a ha =>
    cases ro
    cases ed : dctOf n hp with
    | some kv =>
      rw [ed] at f1
      have e := lstOf_dctOf ed
      obtain ⟨kv', ek, f2⟩ := Fin.opt f1
      clear f1
      obtain ⟨hz, f3⟩ := Fin.need f2
      clear f2
      simp only [decide_eq_true_eq] at hz
      obtain ⟨h0, ob, ws, hH, hm, hd⟩ := y.at_ n _ a e ha
      have hg : s.heap.get? a = some ob := (I.hok a _ hH).1
      obtain ⟨kvs, hdict, hk, hv, hl⟩ := hm.dictOf hg
      unfold putKey at ek
      split at ek
      · rename_i hf
        obtain ⟨lf, el⟩ := flat_leaf hf
        have hkey := leaf_is di ri el
        refine wpAny_setItem_pairs hkey hdict (fun h' hd' hs => ?_) hl
        have t : ∀ o', TF H (upd H a (.ext fun h => h.get? a = some o')) := fun o' => TF.upd (fun xs e => by rw [hH] at e; cases e) (fun o u e => by rw [hH] at e; cases e)
        have kp : ∀ b u, b ≠ a → s.heap.get? b = some u → h'.get? b = some u := fun b u hb e => by rw [hs.2 b hb]; exact e
        have nt : NotTab H a := by
          refine ⟨fun ps e => ?_, fun q e => ?_⟩
          · rw [hH] at e
            cases e
          · rw [hH] at e
            unfold LamX.CodeO at e
            have e2 := congrFun (HO.ext.inj (Option.some.inj e)) s.heap
            obtain ⟨oc, vs, tk, g1, g2, _⟩ := e2.mp hg
            rw [hg] at g1
            cases g1
            obtain ⟨es, ep, kvs2, _, g3, _⟩ := hm
            rw [g3] at g2
            cases g2
        have fin : ∀ ks' vs' ws' (kvs' : List (Leaf × Value)), kv' = (ks', vs') → stored kvs lf u = kvs' → ks'.map leafOf = kvs'.map (fun p => some p.1) → Dens J.X.prog J.X.w J.X.K H vs' ws' → Vals ws' (kvs'.map (·.2)) → kvs'.length ≤ sizeLine →
            ∃ H', Inv J.X pins σ H' { s with heap := h', toks := s.toks + 1 } ∧ Q H' := by
          intro ks' vs' ws' kvs' e1 e2 e3 e4 e5 e6
          subst e1
          rw [e2] at hd'
          obtain ⟨o', es, ep, ho', hx, hdat, hko, hpr, hn⟩ := hd'
          refine ⟨_, I.write (x := a) (e := a) (o := .ext fun h => h.get? a = some o') (by rw [hH]; trivial) (.inl rfl) kp ⟨o', ho'⟩ (VE_ext ho'), ?_⟩
          exact f3 ρ _ (Ext.wr ha (t o')) (y.write ha nt (t o') ⟨h0, o', ws', upd_same, ⟨es, ep, kvs', hx, hdat, hko, hpr, hn, e3, e5, e6⟩, e4.tf (t o')⟩)
        cases ef : findKey iD kv.1 with
        | none => rw [ef] at ek; cases ek
        | some r =>
          rw [ef] at ek
          cases r with
          | some j =>
            cases ek
            obtain ⟨p, p1, p2, p3⟩ := find_some el hk ef
            subst p2
            obtain ⟨o2, es2, ep2, _, _, _, _, _, hn2⟩ := hdict
            obtain ⟨s1, s2⟩ := stored_old hn2 p1 u
            refine fin _ _ (ws.set j v) _ rfl rfl ?_ (Dens.set dv j hd) ?_ ?_
            · have : (stored kvs p.1 u).map (fun p => some p.1) = ((stored kvs p.1 u).map (·.1)).map some := by rw [List.map_map]; rfl
              rw [this, s1, List.map_map]
              exact hk
            · rw [s2]; exact hv.set rv j
            · have := congrArg List.length s1
              rw [List.length_map, List.length_map] at this
              omega
          | none =>
            cases ek
            have hno := find_none el hk ef
            have es := stored_app hno u
            refine fin _ _ (ws ++ [v]) _ rfl es ?_ (hd.snoc dv) ?_ ?_
            · rw [List.map_append, List.map_append, hk]
              simp [el]
            · rw [List.map_append]; exact hv.append (.cons rv .nil)
            · have e1 : kv.1.length = kvs.length := by have := congrArg List.length hk; simpa using this
              rw [List.length_append, List.length_cons, List.length_nil, ← e1, ← line_eq]
              simpa using hz
      · cases ek
    | none =>
      rw [ed] at f1
      obtain ⟨xs, ex, f2⟩ := Fin.opt f1
      clear f1
      have e := lstOf_some ex
      obtain ⟨k, ek, f3⟩ := Fin.opt f2
      clear f2
      obtain rfl := intD_some ek
      obtain ⟨j, ej, f4⟩ := Fin.opt f3
      clear f3
      obtain ⟨us, hH, hd⟩ := y.lstAt e ha
      cases di
      have t : TF H (upd H a (.lst (us.set j v))) := TF.lst hH
      refine set_list pins s σ H (V.ref a) (V.int k) v (.ref a) iv u Q I rfl ri rv ⟨a, us, k, j, rfl, rfl, hH, by rw [spot_ixN, ← hd.length]; exact ej, ?_⟩
      exact f4 ρ _ (Ext.wr ha t) (y.write ha (NotTab.lst hH) t ⟨_, upd_same, (Dens.set dv j hd).tf t⟩)
end
end Ev
end
section
/-! EvM: what is walked. -/
set_option autoImplicit false
set_option linter.all false
set_option maxRecDepth 100000
set_option maxHeartbeats 1000000
set_option Elab.async false
namespace Ev
open PySem PySem.Spec L2

/-! ### enumerate of a tuple -/
section
open PySem.AutoSeq1 (wpAny_loadPart')
theorem enumT_new (l : Addr) (items : Array Value) (n : Nat) (dct : Option Addr) (sl : Array (Option Value)) :
    Meets (Builtin.«enumerate.__new__» ⟨[.type "enumerate", .ref l], []⟩) (fun _ R s => s.heap.get? l = some { cls := .type "tuple", dict := dct, data := .seq items n, slots := sl } ∧
      R (.ok (.ret (.ref (s.heap.push { cls := .type "tuple_iterator", data := .fields #[.ref l, .int 0 0] }).objs.size)))
        { s with heap := (s.heap.push { cls := .type "tuple_iterator", data := .fields #[.ref l, .int 0 0] }).push { cls := .type "enumerate", data := .fields #[.none, .bool false, .ref s.heap.objs.size, rawInt 0, .none, .none] } }) :=
  .of_wp fun prog w A R s h => by
    obtain ⟨hp, g, d, tk, os⟩ := s; obtain ⟨hl, h⟩ := h
    have hsub := sub_enumerate
    have hT : Heap.IsTuple (Shared.heap ⟨hp, g, d, tk, os⟩) l items := ⟨_, hl, rfl, n, rfl⟩
    wp_walk using wpAny_loadPart' hl
    refine wpAny_stack_any fun st => wpAny_pure ?_
    split
    · rename_i c _ _ _ _ _
      cases (c == Value.type "enumerate")
      · wp_walk using wpAny_loadPart' hl, wpAny_pyIter_tuple hT
        exact ⟨_, rfl, h⟩
      · wp_walk using wpAny_loadPart' hl, wpAny_pyIter_tuple hT
        exact ⟨_, rfl, h⟩
    · wp_walk using wpAny_loadPart' hl, wpAny_pyIter_tuple hT
      exact ⟨_, rfl, h⟩
variable {prog : Program} {w : World} {A : Around} {E : Value → Shared → Prop} {s : Shared}
theorem call_enumT {l : Addr} {items : Array Value} {Q : Value → Shared → Prop} (hL : PyProof.Rows.IsTup s.heap l items)
    (h : ∀ h', IsEnum h' (s.heap.objs.size + 1) s.heap.objs.size 0 .none → h'.IsTupleIter s.heap.objs.size l 0 → h'.objs.size = s.heap.objs.size + 2 →
      (∀ b o, s.heap.get? b = some o → h'.get? b = some o) → Q (.ref (s.heap.objs.size + 1)) { s with heap := h' }) :
    wpAny (model prog w) A (call (.type "enumerate") [.ref l]) Q E s := by
  obtain ⟨⟨c, dct, dt, sl⟩, hl, hc, n, hd⟩ := hL
  replace hc : c = .type "tuple" := hc
  replace hd : dt = .seq items n := hd
  subst hc hd
  refine callType_new F.called_enumerate (by decide) (F.typeCall_enumerate_1 _) (F.newCall_enumerate_1 _) (fun obj => F.args_object_init_2 obj _) F.entry_enumerate_new
    (enumT_new l items n dct sl) ⟨hl, ?_⟩
  have hz : (s.heap.push { cls := .type "tuple_iterator", data := .fields #[.ref l, .int 0 0] }).objs.size = s.heap.objs.size + 1 := Heap.size_push ..
  show _ ∧ _
  rw [hz]
  have he : IsEnum ((s.heap.push { cls := .type "tuple_iterator", data := .fields #[.ref l, .int 0 0] }).push
      { cls := .type "enumerate", data := .fields #[.none, .bool false, .ref s.heap.objs.size, rawInt 0, .none, .none] }) (s.heap.objs.size + 1) s.heap.objs.size 0 .none := by
    have := Heap.get?_push_size (s.heap.push { cls := .type "tuple_iterator", data := .fields #[.ref l, .int 0 0] })
      (o := { cls := .type "enumerate", data := .fields #[.none, .bool false, .ref s.heap.objs.size, rawInt 0, .none, .none] }) rfl
    rw [hz] at this; exact this
  refine ⟨⟨_, he, rfl⟩, h _ he ⟨_, Heap.get?_push_of_some _ (Heap.get?_push_size _ rfl), rfl, rfl⟩ (by rw [Heap.size_push, hz]) fun b o x => Heap.get?_push_of_some _ (Heap.get?_push_of_some _ x)⟩
end
def IteT (K : Frag) (a : Addr) : It :=
  ⟨fun i H => ∃ (xs : List V) (x : V), SqT K H a xs ∧ xs[i]? = some x, fun i H v H' => ∃ T x, v = .ref T ∧ H T = none ∧ H' = upd H T (.tup [.int (i : Nat), x]) ∧ ∀ xs, SqT K H a xs → xs[i]? = some x, fun i H => ∃ xs : List V, SqT K H a xs ∧ xs.length ≤ i⟩
theorem turn_enumT {P : Program} {w : World} {K : Frag} {elts : List Expr} {kk : Nat} {tpos : Pos} (a e it : Addr) :
    Turn P w K (.Tuple elts kk tpos) (IteT K a) [e, it] e (fun i h => (∃ old, IsEnum h e it ((i : Nat) : Int) old) ∧ h.IsTupleIter it a i ∧ e ≠ it ∧ a ≠ it ∧ e ≠ a) where
  mem := by simp
  obj := fun i h st b hb => by
    obtain ⟨⟨old, he⟩, ⟨o, ho, hc, hd⟩, _⟩ := st
    have e' : b = e ∨ b = it := by simpa using hb
    rcases e' with z | z
    · rw [z]; exact ⟨_, he, fun v q => nomatch q⟩
    · rw [z]; exact ⟨o, ho, fun v q => by rw [hd] at q; cases q⟩
  keep := fun i h h' st k => let ⟨⟨old, he⟩, hi, r⟩ := st; ⟨⟨old, k e (by simp) _ he⟩, hi.at fun o q => k it (by simp) o q, r⟩
  item := by
    intro X hP hw hK hc i pins s σ H E I hf st hg
    subst hP hw hK
    obtain ⟨⟨old, he⟩, hit, hne, hai, hea⟩ := st
    obtain ⟨xs, x, hq, hx⟩ := hg
    obtain ⟨its, rv, p, hz⟩ := I.tuple hq
    obtain ⟨u, hu, ru⟩ := rv.get hx
    have hel : e < s.heap.objs.size := Heap.lt_size he
    have hil : it < s.heap.objs.size := by obtain ⟨_, q, _⟩ := hit; exact Heap.lt_size q
    have hil2 : i < its.toArray.size := by rw [List.size_toArray]; exact (List.getElem?_eq_some_iff.mp hu).1
    have D := Draws.tuple (prog := X.prog) (w := X.w) (A := X.A.in1) (I.ok.hd hc) it a hai its.toArray
    refine wpAny_pyNext_enum_itemD D he ⟨hit, p⟩ hil2 hne (by simp [hne, hea]) fun v h' tk hv ho hst' hT hsz hk => ?_
    obtain ⟨hit', _⟩ := hst'
    have ev : v = u := by
      have : its[i]? = some v := by simpa using hv
      rw [hu] at this
      exact (Option.some.inj this).symm
    subst ev
    refine ⟨_, rfl, wpAny_letOwnedTupleGo_enum (s := { s with heap := h', toks := tk + 1 }) ho fun h'' he' sb => ?_⟩
    have hT2 : h''.get? s.heap.objs.size = some { cls := .type "tuple", data := .seq #[.int i tk, v] } := (sb.2 _ (Nat.ne_of_gt hel)).trans hT
    have new : ObjOk X.prog X.w (upd H s.heap.objs.size (.tup [.int (i : Nat), x])) h'' s.heap.objs.size (.tup [.int (i : Nat), x]) :=
      ⟨by show 2 ≤ sizeLine; rw [sizeLine_eq]; decide, [.int i tk, v], .cons ⟨_, rfl⟩ (.cons ru .nil), ⟨_, hT2, rfl, _, rfl⟩⟩
    have I1 : Inv X pins σ (upd H s.heap.objs.size (.tup [.int (i : Nat), x])) { s with heap := h'', toks := tk + 1 } :=
      I.turnedNew (ch := [e, it]) (fun b ob hb q => (sb.2 b (fun z => hb (by simp [z]))).trans (hk b ob (fun z => hb (by simp [z])) (fun z => hb (by simp [z])) q)) hf (Nat.le_refl _) new
    refine ⟨.ref s.heap.objs.size, _, I1, rfl, ⟨_, x, rfl, I.hok.fresh (Nat.le_refl _), rfl, fun ys hy => by rw [I.tuple_inj hy hq]; exact hx⟩, ⟨⟨v, ?_⟩, hit'.at fun o q => (sb.2 it (Ne.symm hne)).trans q, hne, hai, hea⟩, fun b hb => ?_⟩
    · have e1 : ((i + 1 : Nat) : Int) = (i : Int) + 1 := by omega
      rw [e1]; exact he'
    · have hb' : b < s.heap.objs.size := by
        have e' : b = e ∨ b = it := by simpa using hb
        rcases e' with z | z
        · rw [z]; exact hel
        · rw [z]; exact hil
      rw [upd_ne (Nat.ne_of_lt hb')]
      exact (hf b hb).1
  done := by
    intro X hP hw hK hc i pins s σ H E I hf st hg
    subst hP hw hK
    obtain ⟨⟨old, he⟩, hit, hne, hai, hea⟩ := st
    obtain ⟨xs, hq, hx⟩ := hg
    obtain ⟨its, rv, p, hz⟩ := I.tuple hq
    obtain ⟨f0, f1, f2, f3, f4, f5⟩ := hf it (by simp)
    have hl := rv.length
    have hi : its.toArray[i]? = none := by simp; omega
    have hT : s.TypeIs (.ref e) "enumerate" := ⟨_, he, rfl⟩
    unfold pyNext
    refine wpAny_bind (wpAny_attempt (wpAny_callSpecial?_slot (name := Str.ofString "__next__") hT F.slot_enumerate_next
      (wpAny_call_entry F.slot_enumerate_next hT F.entry_enumerate_next ?_ (F.args_enumerate_next_1 _))))
    show wpAny _ _ (field (.ref e) 2 >>= _) _ _ _
    refine wpAny_bind (wpAny_field he rfl (x := .ref it) rfl ?_)
    refine wpAny_bind (wpAny_nextOf_tuple_end (I.ok.hd hc) hit p hi fun h' x he' hx' => ?_)
    obtain ⟨o, ho, hc'⟩ := hx'
    refine wpAny_bind (wpAny_isInstance (T := "StopIteration") (b := true) ⟨o, ho, hc'⟩ isSubtype_stop ?_)
    exact wpAny_pure ⟨rfl, I.turned (t' := s.toks) (fun b o hb q => he' b o hb q) f0 f1 f3 f4 f5⟩
  self := fun A i s Q E st h => let ⟨⟨_, he⟩, _⟩ := st; wpAny_pyIter_enum he h

/-! ### an iterator walks data -/
structure WalkD (F : Fx) (J : It) (xs : List D) (G : Hp → Prop) : Prop where
  goes : ∀ i H, i < xs.length → G H → J.go i H
  stops : ∀ i H, xs.length ≤ i → G H → J.stop i H
  yields : ∀ i H x H', i < xs.length → G H → J.yld i H x H' → New H H' ∧ ∃ d, xs[i]? = some d ∧ F.den H' d x
  stays : ∀ H H', TF H H' → G H → G H'
section
variable {F : Fx}
theorem walk_list {a : Addr} {xs : List D} : WalkD F (Itl F.K a) xs (fun H => ∃ us, SqZ F.K H a us ∧ F.dens H xs us) where
  goes := fun i H hi ⟨us, h1, h2⟩ => by
    have hi' : i < us.length := by rw [← h2.length]; exact hi
    exact ⟨us, us[i], h1.l, List.getElem?_eq_getElem hi'⟩
  stops := fun i H hi ⟨us, h1, h2⟩ => ⟨us, h1.l, by rw [← h2.length]; exact hi⟩
  yields := fun i H x H' hi ⟨us, h1, h2⟩ ⟨e, q⟩ => by
    subst e
    obtain ⟨d, hd, dd⟩ := h2.getV (q us h1.l)
    exact ⟨New.refl _, d, hd, dd⟩
  stays := fun H H' t ⟨us, h1, h2⟩ => ⟨us, h1.tf t, h2.tf t⟩
theorem walk_tup {a : Addr} {xs : List D} : WalkD F (Itt F.K a) xs (fun H => ∃ us, SqT F.K H a us ∧ F.dens H xs us) where
  goes := fun i H hi ⟨us, h1, h2⟩ => by
    have hi' : i < us.length := by rw [← h2.length]; exact hi
    exact ⟨us, us[i], h1, List.getElem?_eq_getElem hi'⟩
  stops := fun i H hi ⟨us, h1, h2⟩ => ⟨us, h1, by rw [← h2.length]; exact hi⟩
  yields := fun i H x H' hi ⟨us, h1, h2⟩ ⟨e, q⟩ => by
    subst e
    obtain ⟨d, hd, dd⟩ := h2.getV (q us h1)
    exact ⟨New.refl _, d, hd, dd⟩
  stays := fun H H' t ⟨us, h1, h2⟩ => ⟨us, SqT.tf t h1, h2.tf t⟩
theorem walk_str {s : List Nat} : WalkD F (Its (T s)) (s.map fun c => D.str [c]) (fun _ => True) where
  goes := fun i H hi _ => by rw [List.length_map] at hi; exact hi
  stops := fun i H hi _ => by rw [List.length_map] at hi; exact hi
  yields := fun i H x H' hi _ ⟨e, c, ec, ex⟩ => by
    subst e ex
    refine ⟨New.refl _, .str [c], ?_, Den.str (s := [c]) (by rw [sizeLine_eq]; exact Nat.le_of_ble_eq_true rfl)⟩
    have : s[i]? = some c := by simpa [T] using ec
    rw [List.getElem?_map, this]
    rfl
  stays := fun _ _ _ _ => trivial
theorem walk_rng {lo : Int} {n : Nat} : WalkD F (Itr lo n) ((List.range n).map fun k : Nat => D.int (lo + (k : Int))) (fun _ => True) where
  goes := fun i H hi _ => by rw [List.length_map, List.length_range] at hi; exact hi
  stops := fun i H hi _ => by rw [List.length_map, List.length_range] at hi; exact hi
  yields := fun i H x H' hi _ ⟨e, ex⟩ => by
    subst e ex
    refine ⟨New.refl _, .int (lo + (i : Int)), ?_, .int _⟩
    have hi' : i < n := by simpa using hi
    rw [List.getElem?_map, List.getElem?_range hi']
    rfl
  stays := fun _ _ _ _ => trivial
theorem enumD_len : ∀ (xs : List D) (n : Nat), (enumD n xs).length = xs.length
  | [], _ => rfl
  | x :: xs, n => by simp [enumD, enumD_len xs]
theorem enumD_get : ∀ (xs : List D) (n i : Nat) (d : D), xs[i]? = some d → (enumD n xs)[i]? = some (.tup [.int ((n + i : Nat) : Int), d])
  | [], _, _, _, e => by simp at e
  | x :: xs, n, 0, d, e => by simp at e; subst e; simp [enumD]
  | x :: xs, n, i + 1, d, e => by
    have := enumD_get xs (n + 1) i d (by simpa using e)
    simp only [enumD, List.getElem?_cons_succ]
    rw [this]
    congr 4
    omega
theorem den_pair {P : Program} {w : World} {K : Frag} {H : Hp} {p : Addr} {x y : D} {u v : V} (hp : H p = none) (a : Den P w K H x u) (b : Den P w K H y v) : Den P w K (upd H p (.tup [u, v])) (.tup [x, y]) (.ref p) :=
  .tup (.of upd_same) (.cons (a.tf (New.upd _ hp).tf) (.cons (b.tf (New.upd _ hp).tf) .nil))
theorem walk_enumL {a : Addr} {xs : List D} : WalkD F (Ite F.K a) (enumD 0 xs) (fun H => ∃ us, SqZ F.K H a us ∧ F.dens H xs us) where
  goes := fun i H hi ⟨us, h1, h2⟩ => by
    rw [enumD_len] at hi
    have hi' : i < us.length := by rw [← h2.length]; exact hi
    exact ⟨us, us[i], h1.l, List.getElem?_eq_getElem hi'⟩
  stops := fun i H hi ⟨us, h1, h2⟩ => ⟨us, h1.l, by rw [enumD_len] at hi; rw [← h2.length]; exact hi⟩
  yields := fun i H x H' hi ⟨us, h1, h2⟩ ⟨p, y, ex, hp, e, q⟩ => by
    subst e ex
    obtain ⟨d, hd, dd⟩ := h2.getV (q us h1.l)
    refine ⟨New.upd _ hp, _, enumD_get xs 0 i d hd, ?_⟩
    rw [Nat.zero_add]
    exact den_pair hp (.int _) dd
  stays := fun H H' t ⟨us, h1, h2⟩ => ⟨us, h1.tf t, h2.tf t⟩
theorem walk_enumT {a : Addr} {xs : List D} : WalkD F (IteT F.K a) (enumD 0 xs) (fun H => ∃ us, SqT F.K H a us ∧ F.dens H xs us) where
  goes := fun i H hi ⟨us, h1, h2⟩ => by
    rw [enumD_len] at hi
    have hi' : i < us.length := by rw [← h2.length]; exact hi
    exact ⟨us, us[i], h1, List.getElem?_eq_getElem hi'⟩
  stops := fun i H hi ⟨us, h1, h2⟩ => ⟨us, h1, by rw [enumD_len] at hi; rw [← h2.length]; exact hi⟩
  yields := fun i H x H' hi ⟨us, h1, h2⟩ ⟨p, y, ex, hp, e, q⟩ => by
    subst e ex
    obtain ⟨d, hd, dd⟩ := h2.getV (q us h1)
    refine ⟨New.upd _ hp, _, enumD_get xs 0 i d hd, ?_⟩
    rw [Nat.zero_add]
    exact den_pair hp (.int _) dd
  stays := fun H H' t ⟨us, h1, h2⟩ => ⟨us, SqT.tf t h1, h2.tf t⟩
theorem walk_zipL {a b : Addr} {xs ys : List D} : WalkD F (Itz F.K a b) (List.zipWith (fun x y => D.tup [x, y]) xs ys) (fun H => ∃ us ws, SqZ F.K H a us ∧ F.dens H xs us ∧ SqZ F.K H b ws ∧ F.dens H ys ws) where
  goes := fun i H hi ⟨us, ws, h1, h2, h3, h4⟩ => by
    rw [List.length_zipWith] at hi
    have hi' : i < us.length := by rw [← h2.length]; omega
    have hi2 : i < ws.length := by rw [← h4.length]; omega
    exact ⟨us, ws, us[i], ws[i], h1.l, h3.l, List.getElem?_eq_getElem hi', List.getElem?_eq_getElem hi2⟩
  stops := fun i H hi ⟨us, ws, h1, h2, h3, h4⟩ => ⟨us, ws, h1.l, h3.l, by rw [List.length_zipWith] at hi; rw [← h2.length, ← h4.length]; omega⟩
  yields := fun i H x H' hi ⟨us, ws, h1, h2, h3, h4⟩ ⟨p, y, z, ex, hp, e, q, q2⟩ => by
    subst e ex
    obtain ⟨d, hd, dd⟩ := h2.getV (q us h1.l)
    obtain ⟨d2, hd2, dd2⟩ := h4.getV (q2 ws h3.l)
    refine ⟨New.upd _ hp, .tup [d, d2], ?_, den_pair hp dd dd2⟩
    rw [List.getElem?_zipWith, hd, hd2]
  stays := fun H H' t ⟨us, ws, h1, h2, h3, h4⟩ => ⟨us, ws, h1.tf t, h2.tf t, h3.tf t, h4.tf t⟩
theorem walk_zipT {a b : Addr} {xs ys : List D} : WalkD F (RZ.ItzT F.K a b) (List.zipWith (fun x y => D.tup [x, y]) xs ys) (fun H => ∃ us ws, SqT F.K H a us ∧ F.dens H xs us ∧ SqT F.K H b ws ∧ F.dens H ys ws) where
  goes := fun i H hi ⟨us, ws, h1, h2, h3, h4⟩ => by
    rw [List.length_zipWith] at hi
    have hi' : i < us.length := by rw [← h2.length]; omega
    have hi2 : i < ws.length := by rw [← h4.length]; omega
    exact ⟨us, ws, us[i], ws[i], h1, h3, List.getElem?_eq_getElem hi', List.getElem?_eq_getElem hi2⟩
  stops := fun i H hi ⟨us, ws, h1, h2, h3, h4⟩ => ⟨us, ws, h1, h3, by rw [List.length_zipWith] at hi; rw [← h2.length, ← h4.length]; omega⟩
  yields := fun i H x H' hi ⟨us, ws, h1, h2, h3, h4⟩ ⟨p, y, z, ex, hp, e, q, q2⟩ => by
    subst e ex
    obtain ⟨d, hd, dd⟩ := h2.getV (q us h1)
    obtain ⟨d2, hd2, dd2⟩ := h4.getV (q2 ws h3)
    refine ⟨New.upd _ hp, .tup [d, d2], ?_, den_pair hp dd dd2⟩
    rw [List.getElem?_zipWith, hd, hd2]
  stays := fun H H' t ⟨us, ws, h1, h2, h3, h4⟩ => ⟨us, ws, SqT.tf t h1, h2.tf t, SqT.tf t h3, h4.tf t⟩
end
section
variable {J : Jx}
def tI (J : Jx) (ik : IK) (its : List E) : TI := fun σ H R => ∃ env hp ρ, J.F.env ρ H env σ ∧ J.F.heap ρ hp H ∧
  Fin J.F J.Xs J.W ρ H ((evalEs J.g its env hp).bind fun ws h0 => walkGo ik ws h0) (fun xs ρ' _ H' => ∀ It G, WalkD J.F It xs G → G H' → R It H')
abbrev JI (J : Jx) (tg iter : Expr) (ik : IK) (its : List E) : Prop := PI J.X tg iter (tI J ik its)
theorem _root_.L2.PI.imp {X : Cx} {tg iter : Expr} {t t' : TI} (h : PI X tg iter t) (q : ∀ σ H R, t' σ H R → t σ H R) : PI X tg iter t' := ⟨fun pins s σ H R I z => h.run pins s σ H R I (q σ H R z)⟩
/-- what ends badly is no value -/
theorem ji_val {tg e : Expr} {ee : E} (h : JE J e ee) : JI J tg e .val [ee] := by
  refine ⟨fun pins s σ H R I z => ?_⟩
  obtain ⟨env, hp, ρ, he, hh, f⟩ := z
  simp only [evalEs, bind_assoc, Res.bind_ok] at f
  cases er : evalE J.g ee env hp with
  | bad => rw [er] at f; exact f.elim
  | exc c pl h1 =>
    refine (pi_list (tg := tg) h).run pins s σ H R I ⟨env, hp, ρ, he, hh, ?_⟩
    rw [er] at f ⊢
    exact f
  | ok v h1 =>
    rw [er] at f
    rw [Res.bind_ok] at f
    cases v with
    | ref n => exact f.elim
    | thk => exact f.elim
    | d x =>
      have f2 : Fin J.F J.Xs J.W ρ H (opt (itemsD x) fun xs => .ok xs h1) (fun xs ρ' _ H' => ∀ It G, WalkD J.F It xs G → G H' → R It H') := f
      obtain ⟨xs, ex, f3⟩ := Fin.opt f2
      have val : ∀ {Q : VK}, (∀ H' u, TF H H' → J.F.den H' x u → (∀ It G, WalkD J.F It xs G → G H' → R It H') → Q u H') → tE J ee σ H Q := fun q =>
        ⟨env, hp, ρ, he, hh, by rw [er]; exact fun ρ' H' x' y' u d => by cases d with | d d => exact q H' u x'.tf d (f3 ρ' H' x' y')⟩
      cases x <;> simp only [itemsD] at ex <;> cases ex
      · refine (pi_str (tg := tg) h).run pins s σ H R I (val fun H' u t d q => ?_)
        cases d
        exact ⟨_, rfl, q _ _ walk_str trivial⟩
      · refine (pi_tup (tg := tg) h).run pins s σ H R I (val fun H' u t d q => ?_)
        cases d with
        | @tup a us _ hs dd => exact ⟨a, rfl, ⟨us, hs⟩, q _ _ walk_tup ⟨us, hs, dd⟩⟩
      · refine (pi_list (tg := tg) h).run pins s σ H R I (val fun H' u t d q => ?_)
        cases d with
        | @lst a us _ hs dd => exact ⟨a, rfl, ⟨us, hs.l⟩, q _ _ walk_list ⟨us, hs, dd⟩⟩
/-- what is walked, and its one or two arguments -/
theorem tI_args {ik : IK} {es : List E} {σ : L2.St} {H : Hp} {R : It → Hp → Prop} (z : tI J ik es σ H R) : tEs J es σ H (fun us H1 => ∃ vs hp ρ, J.F.heap ρ hp H1 ∧ J.F.denPs ρ H1 vs us ∧
    Fin J.F J.Xs J.W ρ H1 (walkGo ik vs hp) (fun xs ρ' _ H' => ∀ It G, WalkD J.F It xs G → G H' → R It H')) := by
  obtain ⟨env, hp, ρ, he, hh, f⟩ := z
  exact ⟨env, hp, ρ, he, hh, (Fin.bind f).mono fun vs ρ1 h1 H1 x1 y1 z us ds => ⟨vs, h1, ρ1, y1, ds, z⟩⟩
theorem rng_some {a b : Int} {xs : List D} (h : rngD a b = some xs) : (-(2 ^ 62) ≤ a ∧ a < 2 ^ 62 ∧ -(2 ^ 62) ≤ b ∧ b < 2 ^ 62) ∧ xs = (List.range (b - a).toNat).map fun k : Nat => D.int (a + (k : Int)) := by
  unfold rngD at h
  split at h <;> cases h
  rename_i hc
  simp only [Bool.and_eq_true, decide_eq_true_eq] at hc
  exact ⟨⟨by omega, by omega, by omega, by omega⟩, rfl⟩
theorem ji_rng {tg a : Expr} {ea : E} {p pos : Pos} (hg : Gl J.X "range") (hm : J.X.mg "range" = none) (ha : JA J [a] [ea]) (hs : starEach [a] J.X.env = [(false, eval a J.X.env)]) : JI J tg (.Call (.Name "range" p) [a] [] pos) .rng [ea] := by
  refine (pi_range1 (tg := tg) hg hm ha hs).imp fun σ H R z => ?_
  obtain ⟨env, hp, ρ, he, hh, f⟩ := tI_args z
  refine ⟨env, hp, ρ, he, hh, f.mono fun vs ρ1 h1 H1 x1 y1 q us ds => ?_⟩
  obtain ⟨vs, hp, ρ, y, ds, f⟩ := q us ds
  match vs, ds, f with
  | [v], .cons d .nil, f =>
    obtain ⟨x, rfl, dx, g1⟩ := Fin.keep d f
    obtain ⟨i, ei, g2⟩ := Fin.opt g1
    obtain rfl := intD_some ei
    obtain ⟨xs, ex, g3⟩ := Fin.opt g2
    obtain ⟨⟨_, _, h1, h2⟩, rfl⟩ := rng_some ex
    cases dx
    refine ⟨i, rfl, h1, h2, ?_⟩
    have q := g3.here y
    rw [Int.sub_zero] at q
    exact q _ _ walk_rng trivial
  | [], _, f => exact f.elim
  | _ :: _ :: _, _, f => exact f.elim
theorem ji_rng2 {tg a b : Expr} {ea eb : E} {p pos : Pos} (hg : Gl J.X "range") (hm : J.X.mg "range" = none) (ha : JA J [a, b] [ea, eb]) (hs : starEach [a, b] J.X.env = [(false, eval a J.X.env), (false, eval b J.X.env)]) (hs2 : starEach [b] J.X.env = [(false, eval b J.X.env)]) :
    JI J tg (.Call (.Name "range" p) [a, b] [] pos) .rng2 [ea, eb] := by
  refine (pi_range2 (tg := tg) hg hm ha hs hs2).imp fun σ H R z => ?_
  obtain ⟨env, hp, ρ, he, hh, f⟩ := tI_args z
  refine ⟨env, hp, ρ, he, hh, f.mono fun vs ρ1 h1 H1 x1 y1 q us ds => ?_⟩
  obtain ⟨vs, hp, ρ, y, ds, f⟩ := q us ds
  match vs, ds, f with
  | [v, v2], .cons d (.cons d2 .nil), f =>
    obtain ⟨x, rfl, dx, g4⟩ := Fin.keep d f
    obtain ⟨x2, rfl, dx2, g5⟩ := Fin.keep d2 g4
    obtain ⟨i, ei, g6⟩ := Fin.opt g5
    obtain rfl := intD_some ei
    obtain ⟨j, ej, g7⟩ := Fin.opt g6
    obtain rfl := intD_some ej
    obtain ⟨xs, ex, g8⟩ := Fin.opt g7
    obtain ⟨hb, rfl⟩ := rng_some ex
    cases dx
    cases dx2
    exact ⟨i, j, rfl, hb, g8.here y _ _ walk_rng trivial⟩
  | [], _, f => exact f.elim
  | [_], _, f => exact f.elim
  | _ :: _ :: _ :: _, _, f => exact f.elim
def iEnumA (K : Frag) (ta : TA) : TI := fun σ H R => ta σ H fun vs H1 => ∃ a xs, vs = [.ref a] ∧ ((SqL K H1 a xs ∧ R (Ite K a) H1) ∨ (SqT K H1 a xs ∧ R (IteT K a) H1))
theorem pi_enumA {X : Cx} {e : Expr} {ta : TA} {p pos tpos : Pos} {elts : List Expr} {kk : Nat} (hg : Gl X "enumerate") (hm : X.mg "enumerate" = none) (ha : PA X [e] ta) (hs : starEach [e] X.env = [(false, eval e X.env)] := by rfl) :
    PI X (.Tuple elts kk tpos) (.Call (.Name "enumerate" p) [e] [] pos) (iEnumA X.K ta) := by
  refine ⟨fun pins s σ H R I h => ?_⟩
  refine PyProof.Rows.Call_ (ld_blt I hg hm PyProof.Rows.boot_enumerate (PyProof.Rows.callWith_type1 (L2.thn (ha.run pos pins s σ H _ I h) fun us s1 ⟨vs, H1, I1, r1, q1⟩ => ?_) hs rfl))
  obtain ⟨a, xs, ex, q1⟩ := q1
  subst ex
  cases r1 with
  | cons r rr =>
    cases rr
    cases r
    have fp : ∀ b ∈ [s1.heap.objs.size + 1, s1.heap.objs.size], FpOk X pins H1 b := fun b hb => by
      have e' : b = s1.heap.objs.size + 1 ∨ b = s1.heap.objs.size := by simpa using hb
      have hle : s1.heap.objs.size ≤ b := by
        rcases e' with z | z
        · rw [z]; exact Nat.le_add_right _ _
        · rw [z]; exact Nat.le_refl _
      exact I1.fpOk hle (I1.hok.fresh hle)
    rcases q1 with ⟨hq, q⟩ | ⟨hq, q⟩
    · obtain ⟨its, rv, p', hz⟩ := I1.list hq
      refine call_enumerate_list p'.isList fun h' he hit hsz hk => wpAny_pyIter_enum he ?_
      have I2 : Inv X pins σ H1 { s1 with heap := h' } := I1.kept (t' := s1.toks) hk
      exact ⟨s1.heap.objs.size + 1, [s1.heap.objs.size + 1, s1.heap.objs.size], _, _, H1, rfl, I2, turn_enum a (s1.heap.objs.size + 1) s1.heap.objs.size, ⟨⟨.none, he⟩, hit, Nat.succ_ne_self _⟩, fp, q⟩
    · obtain ⟨its, rv, p', hz⟩ := I1.tuple hq
      have hla : a < s1.heap.objs.size := let ⟨o, ho, _⟩ := p'; Heap.lt_size ho
      refine call_enumT p' fun h' he hit hsz hk => wpAny_pyIter_enum he ?_
      have I2 : Inv X pins σ H1 { s1 with heap := h' } := I1.kept (t' := s1.toks) hk
      exact ⟨s1.heap.objs.size + 1, [s1.heap.objs.size + 1, s1.heap.objs.size], _, _, H1, rfl, I2, turn_enumT a (s1.heap.objs.size + 1) s1.heap.objs.size, ⟨⟨.none, he⟩, hit, Nat.succ_ne_self _, Nat.ne_of_lt hla, Nat.ne_of_gt (Nat.lt_succ_of_lt hla)⟩, fp, q⟩
theorem ji_enum {e : Expr} {ee : E} {elts : List Expr} {kk : Nat} {p pos tpos : Pos} (hg : Gl J.X "enumerate") (hm : J.X.mg "enumerate" = none) (ha : JA J [e] [ee]) (hs : starEach [e] J.X.env = [(false, eval e J.X.env)]) :
    JI J (.Tuple elts kk tpos) (.Call (.Name "enumerate" p) [e] [] pos) .enum [ee] := by
  refine (pi_enumA hg hm ha hs).imp fun σ H R z => ?_
  obtain ⟨env, hp, ρ, he, hh, f⟩ := tI_args z
  refine ⟨env, hp, ρ, he, hh, f.mono fun vs ρ1 h1 H1 x1 y1 q us ds => ?_⟩
  obtain ⟨vs, hp, ρ, y, ds, f⟩ := q us ds
  match vs, ds, f with
  | [v], .cons d .nil, f =>
    obtain ⟨x, rfl, dx, g9⟩ := Fin.keep d f
    obtain ⟨xs, ex, g10⟩ := Fin.opt g9
    cases x <;> simp only [enumOf] at ex <;> cases ex
    · cases dx with
      | @tup a us _ hs dd => exact ⟨a, us, rfl, .inr ⟨hs, g10.here y _ _ walk_enumT ⟨us, hs, dd⟩⟩⟩
    · cases dx with
      | @lst a us _ hs dd => exact ⟨a, us, rfl, .inl ⟨hs.l, g10.here y _ _ walk_enumL ⟨us, hs, dd⟩⟩⟩
  | [], _, f => exact f.elim
  | _ :: _ :: _, _, f => exact f.elim
theorem ji_zip {e e2 : Expr} {ee ee2 : E} {elts : List Expr} {kk : Nat} {p pos tpos : Pos} (hg : Gl J.X "zip") (hm : J.X.mg "zip" = none) (ha : JA J [e, e2] [ee, ee2])
    (hs : starEach [e, e2] J.X.env = (false, eval e J.X.env) :: starEach [e2] J.X.env) (hpl : (backTo pos (starEach [e2] J.X.env)).any (·.1) = false) :
    JI J (.Tuple elts kk tpos) (.Call (.Name "zip" p) [e, e2] [] pos) .zip [ee, ee2] := by
  refine (RZ.pi_zipA hg hm ha hs hpl).imp fun σ H R z => ?_
  obtain ⟨env, hp, ρ, he, hh, f⟩ := tI_args z
  refine ⟨env, hp, ρ, he, hh, f.mono fun vs ρ1 h1 H1 x1 y1 q us ds => ?_⟩
  obtain ⟨vs, hp, ρ, y, ds, f⟩ := q us ds
  match vs, ds, f with
  | [v, v2], .cons d (.cons d2 .nil), f =>
    obtain ⟨x, rfl, dx, g11⟩ := Fin.keep d f
    obtain ⟨x2, rfl, dx2, g12⟩ := Fin.keep d2 g11
    obtain ⟨xs, ex, g13⟩ := Fin.opt g12
    cases x <;> cases x2 <;> simp only [zipD] at ex <;> cases ex
    · cases dx with
      | @tup a us _ hs dd =>
        cases dx2 with
        | @tup b ws _ hs2 dd2 => exact ⟨a, b, us, ws, rfl, .inr ⟨hs, hs2, g13.here y _ _ walk_zipT ⟨us, ws, hs, dd, hs2, dd2⟩⟩⟩
    · cases dx with
      | @lst a us _ hs dd =>
        cases dx2 with
        | @lst b ws _ hs2 dd2 => exact ⟨a, b, us, ws, rfl, .inl ⟨hs.l, hs2.l, g13.here y _ _ walk_zipL ⟨us, ws, hs, dd, hs2, dd2⟩⟩⟩
  | [], _, f => exact f.elim
  | [_], _, f => exact f.elim
  | _ :: _ :: _ :: _, _, f => exact f.elim
end
end Ev
end
section
/-! EvN: the rules of statements. -/
set_option autoImplicit false
set_option linter.all false
set_option maxRecDepth 100000
set_option maxHeartbeats 1000000
set_option Elab.async false
namespace Ev
open PySem PySem.Spec L2

section
variable {J : Jx}
/-- where a statement ends -/
abbrev stopK (J : Jx) (D : Ends) : Fl → List Addr → Heap → Hp → Prop := fun f ρ' _ H' => match f with
    | .next env' => ∀ σ', J.F.env ρ' H' env' σ' → D.nx σ' H'
    | .ret v => ∀ u, J.F.denP ρ' H' v u → D.rt u H'
theorem env_set {F : Fx} {ρ : List Addr} {H : Hp} {env : Env} {σ : L2.St} {i : Nat} {v : PV} {u : V} (he : F.env ρ H env σ) (d : F.denP ρ H v u) : F.env ρ H (setEnv env i v) (σ.set i (some u)) := by
  unfold setEnv
  refine ⟨by rw [List.length_set, List.length_set]; exact he.1, fun j n e => ?_⟩
  rw [List.getElem?_set] at e
  rw [List.getElem?_set]
  split at e
  · rename_i hij
    subst hij
    split at e
    · rename_i hl
      cases e
      rw [if_pos rfl, if_pos (by rw [← he.1]; exact hl)]
      exact ⟨u, rfl, d⟩
    · cases e
  · rename_i hij
    rw [if_neg hij]
    exact he.2 j n e
theorem env_sets {F : Fx} {ρ : List Addr} {H : Hp} : ∀ {is : List Nat} {xs : List D} {us : List V} {env env' : Env} {σ : L2.St}, F.env ρ H env σ → F.dens H xs us → setEnvs env is xs = some env' → ∃ σ', F.env ρ H env' σ' ∧ is.length = us.length ∧
    σ' = (List.zip is us).foldl (fun σ p => σ.set p.1 (some p.2)) σ
  | [], [], _, env, env', σ, he, .nil, e => by cases e; exact ⟨σ, he, rfl, rfl⟩
  | [], _ :: _, _, env, env', σ, he, d, e => by simp [setEnvs] at e
  | _ :: _, [], _, env, env', σ, he, d, e => by simp [setEnvs] at e
  | i :: is, x :: xs, _, env, env', σ, he, .cons d ds, e => by
    simp only [setEnvs] at e
    obtain ⟨σ', h1, h2, h3⟩ := env_sets (env_set (i := i) he (.d d)) ds e
    exact ⟨σ', h1, by simp [h2], by simp [h3]⟩
/-- targets -/
structure JG (J : Jx) (tg : Expr) (is : List Nat) : Prop where
  ex : ∃ g, PG J.X tg g ∧ ∀ (env env' : Env) (σ : L2.St) (H : Hp) (ρ : List Addr) (x : D) (u : V) (Q : L2.St → Hp → Prop), J.F.env ρ H env σ → J.F.den H x u → setTg env is x = some env' → (∀ σ', J.F.env ρ H env' σ' → (∀ j, j ∉ is → σ'[j]? = σ[j]?) → Q σ' H) → g u σ H Q
theorem jg_name {i : Nat} {x : Str} {pos : Pos} (ok : J.Ok) (hi : J.X.N[i]? = some x) (hx : Loc J.X.env.scope x) (hf : J.X.fn x = true ∨ J.X.env.scope.names.lookup x = some .local) : JG J (.Name x pos) [i] :=
  ⟨_, pg_name ok.nd hi hx hf, fun env env' σ H ρ x u Q he d e q => by
    cases e
    exact q _ (env_set he (.d d)) fun j hj => by rw [List.getElem?_set_ne]; exact fun z => hj (by simp [z])⟩
structure JGs (J : Jx) (tgs : List Expr) (is : List Nat) : Prop where
  ex : ∃ g, PGs J.X tgs g ∧ ∀ (env env' : Env) (σ : L2.St) (H : Hp) (ρ : List Addr) (xs : List D) (us : List V) (Q : L2.St → Hp → Prop), J.F.env ρ H env σ → J.F.dens H xs us → setEnvs env is xs = some env' → (∀ σ', J.F.env ρ H env' σ' → (∀ j, j ∉ is → σ'[j]? = σ[j]?) → Q σ' H) → g us σ H Q
theorem jgs_nil : JGs J [] [] := ⟨_, pgs_nil, fun env env' σ H ρ xs us Q he d e q => by
  cases xs with
  | nil => cases d; cases e; exact ⟨rfl, q _ he fun _ _ => rfl⟩
  | cons _ _ => simp [setEnvs] at e⟩
theorem jgs_cons {i : Nat} {x : Str} {pos : Pos} {es : List Expr} {is : List Nat} (ok : J.Ok) (hi : J.X.N[i]? = some x) (hx : Loc J.X.env.scope x) (hf : J.X.fn x = true ∨ J.X.env.scope.names.lookup x = some .local) (h : JGs J es is)
    (hs : (assignEach (.Name x pos :: es) J.X.env).map (·.2) = assign (.Name x pos) J.X.env :: (assignEach es J.X.env).map (·.2)) : JGs J (.Name x pos :: es) (i :: is) := by
  obtain ⟨g, hg, q⟩ := h.ex
  refine ⟨_, pgs_cons (pg_name ok.nd hi hx hf) hg hs, fun env env' σ H ρ xs us Q he d e k => ?_⟩
  cases xs with
  | nil => simp [setEnvs] at e
  | cons y ys =>
    cases d with
    | cons d ds => exact ⟨_, _, rfl, q _ env' _ H ρ ys _ Q (env_set he (.d d)) ds e fun σ' h1 h2 => k σ' h1 fun j hj => by
      rw [List.mem_cons, not_or] at hj
      rw [h2 j hj.2, List.getElem?_set_ne (Ne.symm hj.1)]⟩
theorem jg_tup {es : List Expr} {i j : Nat} {is : List Nat} {k : Nat} {pos : Pos} (hc : J.X.calm = true) (h : JGs J es (i :: j :: is)) (hn : (assignEach es J.X.env).length = is.length + 2) (hst : (assignEach es J.X.env).findIdx? (·.1) = none) : JG J (.Tuple es k pos) (i :: j :: is) := by
  obtain ⟨g, hg, q⟩ := h.ex
  refine ⟨_, pg_tup hc hg hn hst, fun env env' σ H ρ x u Q he d e k => ?_⟩
  cases x <;> simp only [setTg] at e <;> (first | (cases e; done) | skip)
  cases d with
  | @tup a us _ hs ds =>
    refine ⟨a, us, rfl, hs, ?_, q _ env' _ H ρ _ us Q he ds e k⟩
    obtain ⟨σ', _, h2, _⟩ := env_sets he ds e
    rw [← h2]
    rfl
/-! ### small statements -/
theorem js_asg {i : Nat} {x : Str} {e : Expr} {ee : E} {p pos : Pos} (ok : J.Ok) (hi : J.X.N[i]? = some x) (hx : Loc J.X.env.scope x) (he : JE J e ee) (hs : swapsWith e (some (.Name x p)) pos.line J.X.env = pure false) (hf : J.X.fn x = true ∨ J.X.env.scope.names.lookup x = some .local) :
    JS J (.Assign [.Name x p] e pos) (.asg i ee) := by
  refine (ps_set ok.nd hi hx he hs hf).imp fun D σ H h => ?_
  obtain ⟨env, hp, ρ, he, hh, f⟩ := h
  unfold evalS at f
  exact tE_then he hh f fun v ρ1 h1 H1 u x1 y1 d1 f1 => f1.here y1 _ (env_set (J.F.env_ext x1 he) d1)
theorem js_asgT {is : List Nat} {i j : Nat} {tg e : Expr} {ee : E} {pos : Pos} (he : JE J e ee) (hg : JG J tg (i :: j :: is)) (hs : swapsWithSole [tg] e pos.line J.X.env = pure false) (hw : swappedStores [tg] e J.X.env = pure none)
    (h1 : (assignEach [tg] J.X.env).map (·.2) = [assign tg J.X.env]) : JS J (.Assign [tg] e pos) (.asgT (i :: j :: is) ee) := by
  obtain ⟨g, hg, q⟩ := hg.ex
  refine (ps_asg he hg hs hw h1).imp fun D σ H h => ?_
  obtain ⟨env, hp, ρ, he, hh, f⟩ := h
  unfold evalS at f
  refine tE_then he hh f fun v ρ1 h1 H1 u x1 y1 d1 f1 => ?_
  obtain ⟨x, rfl, dx, f2⟩ := Fin.keep d1 f1
  obtain ⟨xs, ex, f3⟩ := Fin.opt f2
  obtain rfl := tupD_some ex
  obtain ⟨env', e', f4⟩ := Fin.opt f3
  exact q env env' σ H1 ρ1 _ u D.nx (J.F.env_ext x1 he) dx e' fun σ' h' _ => f4.here y1 σ' h'
theorem js_par {i j : Nat} {x y : Str} {a b : Expr} {ea eb : E} {px py pt pos : Pos} {kt k2 : Nat} {pt2 : Pos} (ok : J.Ok) (hc : J.X.calm = true) (hi : J.X.N[i]? = some x) (hj : J.X.N[j]? = some y) (hij : i ≠ j)
    (hx : J.X.env.scope.names.lookup x = some .local) (hy : J.X.env.scope.names.lookup y = some .local) (ha : JA J [a, b] [ea, eb])
    (hw : swappedStores [.Tuple [.Name x px, .Name y py] kt pt] (.Tuple [a, b] k2 pt2) J.X.env = pure (some [x, y]))
    (hs : swapsWithSole [.Tuple [.Name x px, .Name y py] kt pt] (.Tuple [a, b] k2 pt2) pos.line J.X.env = pure false) :
    JS J (.Assign [.Tuple [.Name x px, .Name y py] kt pt] (.Tuple [a, b] k2 pt2) pos) (.par i j ea eb) := by
  refine (ps_par hc ok.nd hi hj hij hx hy ha hw hs).imp fun D σ H h => ?_
  obtain ⟨env, hp, ρ, he, hh, f⟩ := h
  unfold evalS at f
  have f' : Fin J.F J.Xs J.W ρ H ((evalEs J.g [ea, eb] env hp).bind fun vs h2 => match vs with | [v, u] => .ok (.next (setEnv (setEnv env i v) j u)) h2 | _ => .bad) (stopK J D) := by
    have e : ((evalEs J.g [ea, eb] env hp).bind fun vs h2 => match vs with | [v, u] => Res.ok (Fl.next (setEnv (setEnv env i v) j u)) h2 | _ => .bad) = ((evalE J.g ea env hp).bind fun v h1 => (evalE J.g eb env h1).bind fun u h2 => .ok (.next (setEnv (setEnv env i v) j u)) h2) := by
      simp only [evalEs, bind_assoc, Res.bind_ok]
    rw [e]; exact f
  refine ⟨env, hp, ρ, he, hh, (Fin.bind f').mono fun vs ρ1 h1 H1 x1 y1 q us ds => ?_⟩
  cases ds with
  | nil => exact q.elim
  | cons d ds =>
    cases ds with
    | nil => exact q.elim
    | cons d2 ds =>
      cases ds with
      | cons _ _ => exact q.elim
      | nil => exact ⟨_, _, rfl, q.here y1 _ (env_set (env_set (J.F.env_ext x1 he) d) d2)⟩
open PyProof.Rows in
/-- three names at once: the last one is stored first -/
theorem ps_par3 {X : Cx} {i j k : Nat} {x y z : Str} {a b c : Expr} {ta : TA} {px py pz pt pos : Pos} {kt k2 : Nat} {pt2 : Pos} (hc : X.calm = true) (hN : X.N.Nodup) (hi : X.N[i]? = some x) (hj : X.N[j]? = some y) (hk : X.N[k]? = some z)
    (hx : X.env.scope.names.lookup x = some .local) (hy : X.env.scope.names.lookup y = some .local) (hz : X.env.scope.names.lookup z = some .local) (ha : PA X [a, b, c] ta)
    (hw : swappedStores [.Tuple [.Name x px, .Name y py, .Name z pz] kt pt] (.Tuple [a, b, c] k2 pt2) X.env = pure (some [x, y, z]))
    (hs : swapsWithSole [.Tuple [.Name x px, .Name y py, .Name z pz] kt pt] (.Tuple [a, b, c] k2 pt2) pos.line X.env = pure false) :
    PS X (.Assign [.Tuple [.Name x px, .Name y py, .Name z pz] kt pt] (.Tuple [a, b, c] k2 pt2) pos) (fun D σ H => ta σ H fun vs H1 => ∃ p q r, vs = [p, q, r] ∧ D.nx (((σ.set k (some r)).set j (some q)).set i (some p)) H1) := by
  constructor
  intro pins s σ H D I h
  rw [exec_Assign_arm]
  refine wpAny_bind (wpAny_standAt ?_)
  rw [hs]
  refine wpAny_bind (wpAny_pure ?_)
  rw [if_neg (by decide)]
  refine wpAny_bind (PyProof.Rows.Tuple_ (thn (ha.run _ pins s σ H _ I h) fun us s1 ⟨vs, H1, J1, r1, h1⟩ => ?_))
  obtain ⟨p, q, r, ev, hd⟩ := h1
  cases ev
  obtain ⟨t1, t2, t3, rfl, R1, R2, R3⟩ : ∃ t1 t2 t3, us = [t1, t2, t3] ∧ RelV p t1 ∧ RelV q t2 ∧ RelV r t3 := by
    cases r1 with
    | cons a1 r2 =>
      cases r2 with
      | cons a2 r3 =>
        cases r3 with
        | cons a3 r4 =>
          cases r4
          exact ⟨_, _, _, rfl, a1, a2, a3⟩
  refine wpAny_newObj_type ?_ (by show 3 ≤ sizeLine; decide)
  have J2 : L2.Inv X pins σ H1 { s1 with heap := s1.heap.push { cls := .type "tuple", data := .seq [t1, t2, t3].toArray } } := J1.kept (t' := s1.toks) fun b o e => Heap.get?_push_of_some _ e
  rw [hw]
  refine wpAny_bind (wpAny_pure ?_)
  show wpAny (model X.prog X.w) X.A (do rule "assign.swapped-stores"; let items ← unpackItems (.ref s1.heap.objs.size) 3 none; assignInOrder [fun v => bindName X.env z v, fun v => bindName X.env y v, fun v => bindName X.env x v] items.reverse; pure Flow.next) _ _ _
  refine wpAny_bind (wpAny_rule (wpAny_bind (unpackItems_tuple (items := #[t1, t2, t3]) (I.ok.hd hc) (IsTup.new s1.heap _) fun h' hx' => ?_)))
  have J3 := J2.kept (h' := h') (t' := s1.toks) fun b o e => hx' b o (Nat.ne_of_lt (Heap.lt_size e)) e
  show wpAny _ _ (assignInOrder [fun v => bindName X.env z v, fun v => bindName X.env y v, fun v => bindName X.env x v] [t3, t2, t1] >>= fun _ => pure Flow.next) _ _ _
  refine wpAny_bind (assignInOrder_cons (wpAny_bindName (store_ok J3 hN hk (.inl hz) R3 (fun s2 J4 => ?_) (.inr hz))))
  refine assignInOrder_cons (wpAny_bindName (store_ok J4 hN hj (.inl hy) R2 (fun s3 J5 => ?_) (.inr hy)))
  refine assignInOrder_cons (wpAny_bindName (store_ok J5 hN hi (.inl hx) R1 (fun s4 J6 => assignInOrder_nil (wpAny_pure ?_)) (.inr hx)))
  exact ⟨_, H1, J6, hd⟩
theorem js_par3 {i j k : Nat} {x y z : Str} {a b c : Expr} {ea eb ec : E} {px py pz pt pos : Pos} {kt k2 : Nat} {pt2 : Pos} (ok : J.Ok) (hc : J.X.calm = true) (hi : J.X.N[i]? = some x) (hj : J.X.N[j]? = some y) (hk : J.X.N[k]? = some z)
    (hx : J.X.env.scope.names.lookup x = some .local) (hy : J.X.env.scope.names.lookup y = some .local) (hz : J.X.env.scope.names.lookup z = some .local) (ha : JA J [a, b, c] [ea, eb, ec])
    (hw : swappedStores [.Tuple [.Name x px, .Name y py, .Name z pz] kt pt] (.Tuple [a, b, c] k2 pt2) J.X.env = pure (some [x, y, z]))
    (hs : swapsWithSole [.Tuple [.Name x px, .Name y py, .Name z pz] kt pt] (.Tuple [a, b, c] k2 pt2) pos.line J.X.env = pure false) :
    JS J (.Assign [.Tuple [.Name x px, .Name y py, .Name z pz] kt pt] (.Tuple [a, b, c] k2 pt2) pos) (.par3 i j k ea eb ec) := by
  refine (ps_par3 hc ok.nd hi hj hk hx hy hz ha hw hs).imp fun D σ H h => ?_
  obtain ⟨env, hp, ρ, he, hh, f⟩ := h
  unfold evalS at f
  have f' : Fin J.F J.Xs J.W ρ H ((evalEs J.g [ea, eb, ec] env hp).bind fun vs h2 => match vs with | [v, u, w] => .ok (.next (setEnv (setEnv (setEnv env k w) j u) i v)) h2 | _ => .bad) (stopK J D) := by
    have e : ((evalEs J.g [ea, eb, ec] env hp).bind fun vs h2 => match vs with | [v, u, w] => Res.ok (Fl.next (setEnv (setEnv (setEnv env k w) j u) i v)) h2 | _ => .bad) =
        ((evalE J.g ea env hp).bind fun v h1 => (evalE J.g eb env h1).bind fun u h2 => (evalE J.g ec env h2).bind fun w h3 => .ok (.next (setEnv (setEnv (setEnv env k w) j u) i v)) h3) := by
      simp only [evalEs, bind_assoc, Res.bind_ok]
    rw [e]; exact f
  refine ⟨env, hp, ρ, he, hh, (Fin.bind f').mono fun vs ρ1 h1 H1 x1 y1 q us ds => ?_⟩
  cases ds with
  | nil => exact q.elim
  | cons d ds =>
    cases ds with
    | nil => exact q.elim
    | cons d2 ds =>
      cases ds with
      | nil => exact q.elim
      | cons d3 ds =>
        cases ds with
        | cons _ _ => exact q.elim
        | nil => exact ⟨_, _, _, rfl, q.here y1 _ (env_set (env_set (env_set (J.F.env_ext x1 he) d3) d2) d)⟩
theorem js_sets {o i e : Expr} {eo ei ee : E} {p pos : Pos} (he : JE J e ee) (ho : JE J o eo) (hi : JE J i ei)
    (ha : ∀ v, assign (.Subscript o i p) J.X.env v = (do
      let ov ← holding [v] (eval o J.X.env)
      let iv ← holding [v, ov] (eval i J.X.env)
      standAt p
      holding [v, ov, iv] (setItem ov iv v)
      release [v, ov, iv] []))
    (hs : swapsWithSole [.Subscript o i p] e pos.line J.X.env = pure false) (hw : swappedStores [.Subscript o i p] e J.X.env = pure none)
    (h1 : (assignEach [.Subscript o i p] J.X.env).map (·.2) = [assign (.Subscript o i p) J.X.env]) : JS J (.Assign [.Subscript o i p] e pos) (.sets eo ei ee) := by
  refine (ps_asg he (pg_sub ho hi set_all ha) hs hw h1).imp fun D σ H h => ?_
  obtain ⟨env, hp, ρ, he, hh, f⟩ := h
  unfold evalS at f
  refine tE_then he hh f fun v ρ1 h1 H1 u x1 y1 d1 f1 => tE_then (J.F.env_ext x1 he) y1 f1 fun ov ρ2 h2 H2 uo x2 y2 d2 f2 => tE_then (J.F.env_ext (x1.trans x2) he) y2 f2 fun iv ρ3 h3 H3 ui x3 y3 d3 f3 => ?_
  obtain ⟨x, rfl, dx, f4⟩ := Fin.keep (d1.ext (x2.trans x3)) f3
  obtain ⟨y, rfl, dy, f5⟩ := Fin.keep d3 f4
  refine ⟨ov, y, x, h3, ρ3, y3, d2.ext x3, dy, dx, (Fin.bind f5).mono fun _ ρ4 h4 H4 x4 y4 q => ?_⟩
  exact q.here y4 σ (J.F.env_ext (x1.trans (x2.trans (x3.trans x4))) he)
theorem js_expr {e : Expr} {ee : E} {pos : Pos} (he : JE J e ee) (hs : swapsWith e none pos.line J.X.env = pure false) : JS J (.Expr e pos) (.expr ee) := by
  refine (ps_expr he hs).imp fun D σ H h => ?_
  obtain ⟨env, hp, ρ, he, hh, f⟩ := h
  unfold evalS at f
  exact tE_then he hh f fun v ρ1 h1 H1 u x1 y1 d1 f1 => f1.here y1 σ (J.F.env_ext x1 he)
/-- a text that stands alone -/
theorem js_doc {x : Str} {k : Nat} {p pos : Pos} : JS J (.Expr (.Constant (.str x) k p) pos) (.expr (.lit .non)) := by
  refine ps_doc.imp fun D σ H h => ?_
  obtain ⟨env, hp, ρ, he, hh, f⟩ := h
  unfold evalS evalE at f
  rw [Res.bind_ok] at f
  exact f.here hh σ he
theorem js_ret {e : Expr} {ee : E} {pos : Pos} (he : JE J e ee) : JS J (.Return (some e) pos) (.ret ee) := by
  refine (ps_ret he).imp fun D σ H h => ?_
  obtain ⟨env, hp, ρ, he, hh, f⟩ := h
  unfold evalS at f
  exact tE_then he hh f fun v ρ1 h1 H1 u x1 y1 d1 f1 => f1.here y1 u d1
theorem js_retN {pos : Pos} : JS J (.Return none pos) (.ret (.lit .non)) := by
  refine ps_retN.imp fun D σ H h => ?_
  obtain ⟨env, hp, ρ, he, hh, f⟩ := h
  unfold evalS evalE at f
  rw [Res.bind_ok] at f
  exact f.here hh .non (.d .non)
theorem js_if {c : Expr} {ec : E} {a b : List Stmt} {sa sb : List S} {pos : Pos} (hc : JT J c ec) (ha : JSs J a sa) (hb : JSs J b sb) : JS J (.If c a b pos) (.ite ec sa sb) := by
  refine (ps_if hc ha hb).imp fun D σ H h => ?_
  obtain ⟨env, hp, ρ, he, hh, f⟩ := h
  unfold evalS at f
  rw [evalB_test] at f
  refine tT_then he hh f fun t ρ1 h1 H1 x1 y1 f1 => ?_
  cases t
  · exact ⟨env, h1, ρ1, J.F.env_ext x1 he, y1, f1⟩
  · exact ⟨env, h1, ρ1, J.F.env_ext x1 he, y1, f1⟩
theorem jss_nil : JSs J [] [] := by
  refine pss_nil.imp fun D σ H h => ?_
  obtain ⟨env, hp, ρ, he, hh, f⟩ := h
  unfold evalSs at f
  exact f.here hh σ he
theorem jss_cons {a : Stmt} {as : List Stmt} {s : S} {ss : List S} (h1 : JS J a s) (h2 : JSs J as ss) : JSs J (a :: as) (s :: ss) := by
  refine (pss_cons h1 h2).imp fun D σ H h => ?_
  obtain ⟨env, hp, ρ, he, hh, f⟩ := h
  unfold evalSs at f
  refine ⟨env, hp, ρ, he, hh, (Fin.bind f).mono fun r ρ1 h1 H1 x1 y1 q => ?_⟩
  cases r with
  | next env' => exact fun σ' he' => ⟨env', h1, ρ1, he', y1, q⟩
  | ret v => exact q.here y1
theorem jss_one {a : Stmt} {s : S} (h1 : JS J a s) : JSs J [a] [s] := jss_cons h1 jss_nil
/-! ### loops -/
theorem js_for {tg iter : Expr} {is : List Nat} {ik : IK} {its : List E} {body : List Stmt} {ss : List S} {pos : Pos} (ok : J.Ok) (hc : J.X.calm = true) (hi : JI J tg iter ik its) (hg : JG J tg is) (hb : JSs J body ss)
    (hs : ∀ x, foldedSetIterable iter J.X.env x = pure x) : JS J (.For tg iter body [] pos) (.for is ik its ss) := by
  obtain ⟨g, hg, qg⟩ := hg.ex
  refine (ps_for ok.po hc hi hg hb hs).imp fun D σ H h => ?_
  obtain ⟨env, hp, ρ, he, hh, f⟩ := h
  unfold evalS at f
  rw [← bind_assoc] at f
  refine ⟨env, hp, ρ, he, hh, (Fin.bind f).mono fun xs ρ1 h1 H1 x1 y1 q It G wk hG => ?_⟩
  refine ⟨fun i m σ H => m = xs.length - i ∧ G H ∧ ∃ env hp ρ, J.F.env ρ H env σ ∧ J.F.heap ρ hp H ∧
    Fin J.F J.Xs J.W ρ H (forGo (fun x env h => opt (setTg env is x) fun env' => evalSs J.g ss env' h) (xs.drop i) env hp) (stopK J D), ⟨xs.length, rfl, hG, env, h1, ρ1, J.F.env_ext x1 he, y1, q⟩, ?_⟩
  rintro i m σ H ⟨em, hG, env, hp, ρ, he, hh, f⟩
  by_cases hi : i < xs.length
  · refine .inr ⟨wk.goes i H hi hG, fun σ' H' => G H' ∧ ∃ env hp ρ, J.F.env ρ H' env σ' ∧ J.F.heap ρ hp H' ∧
      Fin J.F J.Xs J.W ρ H' (forGo (fun x env h => opt (setTg env is x) fun env' => evalSs J.g ss env' h) (xs.drop (i + 1)) env hp) (stopK J D), fun σ' H' ⟨hG', r⟩ => ⟨xs.length - (i + 1), by omega, rfl, hG', r⟩, fun x H' hy => ?_⟩
    obtain ⟨nw, d, ed, dd⟩ := wk.yields i H x H' hi hG hy
    have edrop : xs.drop i = d :: xs.drop (i + 1) := by
      rw [List.drop_eq_getElem_cons hi]
      rw [List.getElem?_eq_getElem hi] at ed
      cases ed
      rfl
    rw [edrop] at f
    simp only [forGo] at f
    have f1 := Fin.ext (Ext.nw nw) (Fin.bind f)
    obtain ⟨env', e', f2⟩ := Fin.opt f1
    refine qg env env' σ H' ρ d x _ (J.F.env_ext (Ext.nw nw) he) dd e' fun σ' he' _ => ?_
    refine ⟨env', hp, ρ, he', HeapOk.new nw hh, f2.mono fun r ρ2 h2 H2 x2 y2 q => ?_⟩
    cases r with
    | next env2 => exact fun σ2 he2 => ⟨wk.stays _ _ x2.tf (wk.stays _ _ nw.tf hG), env2, h2, ρ2, he2, y2, q⟩
    | ret v => exact q.here y2
  · refine .inl ⟨wk.stops i H (by omega) hG, ?_⟩
    rw [List.drop_eq_nil_of_le (by omega)] at f
    exact f.here hh σ he
theorem js_while {c : Expr} {ec : E} {body : List Stmt} {ss : List S} {pos : Pos} (ok : J.Ok) (hc : JT J c ec) (hb : JSs J body ss) : JS J (.While c body [] pos) (.while ec ss) := by
  refine (ps_while ok.po hc hb).imp fun D σ H h => ?_
  obtain ⟨env, hp, ρ, he, hh, f⟩ := h
  unfold evalS at f
  refine ⟨fun m σ H => ∃ env hp ρ, J.F.env ρ H env σ ∧ J.F.heap ρ hp H ∧ Fin J.F J.Xs J.W ρ H (whileGo (fun env h => evalE J.g ec env h) (fun env h => evalSs J.g ss env h) m env hp) (stopK J D), ⟨J.g.fuel, env, hp, ρ, he, hh, f⟩, ?_⟩
  rintro m σ H ⟨env, hp, ρ, he, hh, f⟩
  cases m with
  | zero => exact f.elim
  | succ m =>
    simp only [whileGo] at f
    rw [evalB_test] at f
    refine tT_then he hh f fun t ρ1 h1 H1 x1 y1 f1 => ?_
    cases t
    · exact f1.here y1 σ (J.F.env_ext x1 he)
    · rw [if_pos rfl]
      rw [if_pos rfl] at f1
      refine ⟨fun σ' H' => ∃ env hp ρ, J.F.env ρ H' env σ' ∧ J.F.heap ρ hp H' ∧ Fin J.F J.Xs J.W ρ H' (whileGo (fun env h => evalE J.g ec env h) (fun env h => evalSs J.g ss env h) m env hp) (stopK J D), fun σ' H' r => ⟨m, by omega, r⟩, ?_⟩
      refine ⟨env, h1, ρ1, J.F.env_ext x1 he, y1, (Fin.bind f1).mono fun r ρ2 h2 H2 x2 y2 q => ?_⟩
      cases r with
      | next env2 => exact fun σ2 he2 => ⟨env2, h2, ρ2, he2, y2, q⟩
      | ret v => exact q.here y2
end
end Ev
end
section
/-! EvO: the rules of comprehensions. -/
set_option autoImplicit false
set_option linter.all false
set_option maxRecDepth 100000
set_option maxHeartbeats 1000000
set_option Elab.async false
namespace Ev
open PySem PySem.Spec L2

/-- a block's surroundings: nothing may be raised in it -/
abbrev Jx.blk (J : Jx) (X' : Cx) : Jx := ⟨X', J.g, J.tv, J.xp, J.Xs, fun _ _ _ => False⟩
section
variable {F : Fx} {Xs Xs' : Exs} {W W' : Value → Option Addr → Hp → Prop} {ρ : List Addr} {H : Hp} {α : Type}
theorem Fin.nox {r : Res α} {k : α → List Addr → Heap → Hp → Prop} (h : Fin F Xs W ρ H r.nox k) : Fin F Xs' W' ρ H r k := by
  cases r with
  | ok a h1 => exact h
  | exc c pl h1 => exact h.elim
  | bad => exact h.elim
theorem Fin.nox_bind {β : Type} {r : Res α} {f : α → Heap → Res β} {k : β → List Addr → Heap → Hp → Prop} (h : Fin F Xs W ρ H (r.nox.bind f) k) : Fin F Xs' W' ρ H r (fun a ρ' h' H' => Fin F Xs W ρ' H' (f a h') k) := by
  cases r with
  | ok a h1 => exact fun ρ' H' x y => Fin.ext x h
  | exc c pl h1 => exact h.elim
  | bad => exact h.elim
end
theorem env_wipe {F : Fx} {ρ : List Addr} {H : Hp} {env : Env} {σ : L2.St} (he : F.env ρ H env σ) : ∀ vs : List Nat, F.env ρ H (wipeE env vs) (wipe σ vs)
  | [] => he
  | v :: vs => by
    have ih := env_wipe he vs
    unfold wipeE wipe
    refine ⟨by rw [List.length_set, List.length_set]; exact ih.1, fun i n e => ?_⟩
    rw [List.getElem?_set] at e
    split at e
    · split at e <;> cases e
    · rename_i hv
      rw [List.getElem?_set_ne hv]
      exact ih.2 i n e
theorem wipe_at {σ : L2.St} {i : Nat} : ∀ {vs : List Nat}, i ∈ vs → i < σ.length → (wipe σ vs)[i]? = some none
  | v :: vs, h, l => by
    unfold wipe
    by_cases hi : v = i
    · subst hi
      rw [List.getElem?_set_self (by rw [wipe_length]; exact l)]
    · rw [List.getElem?_set_ne hi]
      exact wipe_at ((List.mem_cons.mp h).resolve_left (Ne.symm hi)) l
theorem wipe_same {σ σ2 : L2.St} {vs is : List Nat} (hl : σ2.length = σ.length) (h : ∀ j, j ∉ is → σ2[j]? = (wipe σ vs)[j]?) (hs : ∀ j ∈ is, j ∈ vs) : wipe σ2 vs = wipe σ vs := by
  apply List.ext_getElem?
  intro j
  by_cases hj : j ∈ vs
  · by_cases hlt : j < σ.length
    · rw [wipe_at hj (by rw [hl]; exact hlt), wipe_at hj hlt]
    · rw [List.getElem?_eq_none (by rw [wipe_length, hl]; omega), List.getElem?_eq_none (by rw [wipe_length]; omega)]
  · rw [wipe_out hj, h j fun z => hj (hs j z)]
theorem env_len {F : Fx} {ρ : List Addr} {H : Hp} {env : Env} {σ : L2.St} (he : F.env ρ H env σ) : env.length = σ.length := he.1
theorem setEnvs_len : ∀ {is : List Nat} {xs : List D} {env env' : Env}, setEnvs env is xs = some env' → env'.length = env.length
  | [], [], _, _, e => by cases e; rfl
  | [], _ :: _, _, _, e => by simp [setEnvs] at e
  | _ :: _, [], _, _, e => by simp [setEnvs] at e
  | i :: is, x :: xs, env, env', e => by
    simp only [setEnvs] at e
    rw [setEnvs_len e]
    simp [setEnv]
theorem setTg_len {is : List Nat} {x : D} {env env' : Env} (e : setTg env is x = some env') : env'.length = env.length := by
  unfold setTg at e
  split at e
  · cases e; simp [setEnv]
  · split at e
    · exact setEnvs_len e
    · cases e
section
variable {J : Jx}
abbrev JTs (J : Jx) (ifs : List Expr) (es : List E) : Prop := PTs J.X ifs (tTs J es)
theorem _root_.L2.PTs.imp {X : Cx} {e : List Expr} {t t' : TT} (h : PTs X e t) (q : ∀ σ H Q, t' σ H Q → t σ H Q) : PTs X e t' := ⟨fun pins s σ H Q I z => h.run pins s σ H Q I (q σ H Q z)⟩
theorem jts_nil : JTs J [] [] := pts_nil.imp fun σ H Q h => by
  obtain ⟨env, hp, ρ, he, hh, f⟩ := h
  unfold evalT at f
  exact f.here hh
theorem jts_one {c : Expr} {e : E} (h : JT J c e) : JTs J [c] [e] := (pts_one h).imp fun σ H Q h => by
  obtain ⟨env, hp, ρ, he, hh, f⟩ := h
  refine ⟨env, hp, ρ, he, hh, ?_⟩
  have e1 : evalT J.g [e] env hp = evalB J.g e env hp := by
    unfold evalT evalB
    congr 1
    funext v h1
    unfold test
    cases view v h1 with
    | none => rfl
    | some x =>
      simp only
      cases truD x with
      | none => rfl
      | some b => cases b <;> simp [evalT]
  rw [← e1]
  exact f
theorem Ext.side {ρ1 ρ : List Addr} {H1 H : Hp} {D : Addr} {o : HO} (x : Ext ρ1 ρ H1 H) (h : H1 D = none) (t : TF H (upd H D o)) : Ext ρ1 ρ H1 (upd H D o) :=
  ⟨x.pre, x.tf.trans t, fun b o' n e => by rw [upd_ne (ne_of_none e h)]; exact x.out b o' n e, x.new⟩
theorem HeapOk.side {P : Program} {w : World} {K : Frag} {tb : List (Addr × Str)} {ρ : List Addr} {hp : Heap} {H : Hp} {D : Addr} {o : HO} (y : HeapOk P w K tb ρ hp H) (h : D ∉ ρ) (nt : NotTab H D) (t : TF H (upd H D o)) : HeapOk P w K tb ρ hp (upd H D o) := by
  refine ⟨tabs_upd nt y.tabs, y.nd, y.len, fun n c a h1 h2 => ?_⟩
  have hb : a ≠ D := fun z => h (by rw [← z]; exact List.mem_of_getElem? h2)
  have q := y.at_ n c a h1 h2
  cases c with
  | lst xs => obtain ⟨us, q1, q2⟩ := q; exact ⟨us, by rw [upd_ne hb]; exact q1, q2.tf t⟩
  | dct ks vs => obtain ⟨q0, o', ws, q1, q2, q3⟩ := q; exact ⟨q0, o', ws, by rw [upd_ne hb]; exact q1, q2, q3.tf t⟩
  | rws ns => obtain ⟨as, q1, q2, q3⟩ := q; exact ⟨as, by rw [upd_ne hb]; exact q1, q2, q3⟩
  | dead => obtain ⟨o', u, q1⟩ := q; exact ⟨o', u, by rw [upd_ne hb]; exact q1⟩
theorem Ext.not_new {ρ ρ' : List Addr} {H H' : Hp} {D : Addr} {o : HO} (x : Ext ρ ρ' H H') (h : D ∉ ρ) (e : H D = some o) : D ∉ ρ' := fun m => by
  have := x.new D m h
  rw [e] at this; cases this
/-- what is known of an end -/
theorem Fin.of_ok {F : Fx} {Xs : Exs} {W : Value → Option Addr → Hp → Prop} {ρ : List Addr} {H : Hp} {α : Type} {r : Res α} {a : α} {h1 : Heap} (e : r = .ok a h1) : Fin F Xs W ρ H r (fun a' ρ' h' H' => a' = a ∧ h' = h1 ∧ Ext ρ ρ' H H' ∧ F.heap ρ' h1 H') := by
  subst e
  exact fun ρ' H' x y => ⟨rfl, rfl, x, y⟩
theorem opt_ok {α β : Type} {o : Option β} {r : β → Res α} {a : α} {h : Heap} (e : opt o r = .ok a h) : ∃ x, o = some x ∧ r x = .ok a h := by
  cases o with
  | none => cases e
  | some x => exact ⟨x, rfl, e⟩
theorem bind_ok {α β : Type} {r : Res α} {f : α → Heap → Res β} {b : β} {h : Heap} (e : r.bind f = .ok b h) : ∃ a h1, r = .ok a h1 ∧ f a h1 = .ok b h := by
  cases r with
  | ok a h1 => exact ⟨a, h1, rfl, e⟩
  | exc _ _ _ => cases e
  | bad => cases e
theorem keep_ok {α : Type} {v : PV} {r : D → Res α} {a : α} {h : Heap} (e : keep v r = .ok a h) : ∃ x, v = .d x ∧ r x = .ok a h := by
  cases v with
  | d x => exact ⟨x, rfl, e⟩
  | ref _ => cases e
  | thk => cases e
/-- what a comprehension does with an item -/
abbrev compF (J : Jx) (ifs : List E) (elt : E) (env : Env) (is : List Nat) : D → Heap → Res (Option D) := fun x h => opt (setTg env is x) fun env' =>
      (evalT J.g ifs env' h).bind fun b h' => if b then (evalE J.g elt env' h').bind fun v h'' => keep v fun y => .ok (some y) h'' else .ok none h'
/-- the loop of a comprehension: the new list at D, what is in it already, what comes -/
theorem comp_core {ifs : List E} {elt : E} {vs is : List Nat} {g : TG} {J' : Jx} (hF : J'.F = J.F) (hG : J'.g = J.g) (hs : ∀ j ∈ is, j ∈ vs)
    (qg : ∀ (env env' : Env) (σ : L2.St) (H : Hp) (ρ : List Addr) (x : D) (u : V) (Q : L2.St → Hp → Prop), J.F.env ρ H env σ → J.F.den H x u → setTg env is x = some env' → (∀ σ', J.F.env ρ H env' σ' → (∀ j, j ∉ is → σ'[j]? = σ[j]?) → Q σ' H) → g u σ H Q)
    {It : It} {G : Hp → Prop} {xs : List D} (wk : WalkD J.F It xs G) {env : Env} {σ : L2.St} {ρ1 ρ0 : List Addr} {H1 H0 : Hp} {D : Addr} (hD : H1 D = none) (x0 : Ext ρ1 ρ0 H1 H0) (hDρ0 : D ∉ ρ0) {hp h2 : Heap} (y0 : J.F.heap ρ0 hp H0) (he : J.F.env ρ0 H0 env σ)
    {ys dn0 : List Ev.D} {us0 : List V} (er : compGo (compF J ifs elt (wipeE env vs) is) xs hp = .ok ys h2) (eD : H0 D = some (.lst us0)) (dd0 : J.F.dens H0 dn0 us0) (hz : dn0.length + ys.length ≤ sizeLine) (hG0 : G H0) {Post : Hp → Prop}
    (fin : ∀ ρ2 H2 us, D ∉ ρ2 → Ext ρ1 ρ2 H1 H2 → J.F.heap ρ2 h2 H2 → H2 D = some (.lst us) → J.F.dens H2 (dn0 ++ ys) us → Post H2) :
    ∃ W : Nat → Nat → Hp → Prop, (∃ m, W 0 m H0) ∧ ∀ i m H, W i m H → (It.stop i H ∧ Post H) ∨ (It.go i H ∧ ∃ Nx : Hp → Prop, (∀ H', Nx H' → ∃ m', m' < m ∧ W (i + 1) m' H') ∧
      ∀ x H', It.yld i H x H' → g x (wipe σ vs) H' fun σ2 H2 => wipe σ2 vs = wipe σ vs ∧ tTs J' ifs σ2 H2 fun b H3 =>
        if b = true then tE J' elt σ2 H3 fun y H4 => ∃ acc, H4 D = some (.lst acc) ∧ acc.length < sizeLine ∧ Nx (upd H4 D (.lst (acc ++ [y]))) else Nx H3) := by
  refine ⟨fun i m H => m = xs.length - i ∧ G H ∧ ∃ hp ρ dn us ys', Ext ρ1 ρ H1 H ∧ TF H0 H ∧ ρ0 <+: ρ ∧ D ∉ ρ ∧ J.F.heap ρ hp H ∧ compGo (compF J ifs elt (wipeE env vs) is) (xs.drop i) hp = .ok ys' h2 ∧ dn ++ ys' = dn0 ++ ys ∧ H D = some (.lst us) ∧ J.F.dens H dn us,
    ⟨xs.length, rfl, hG0, hp, ρ0, dn0, us0, ys, x0, TF.refl _, List.prefix_refl _, hDρ0, y0, er, rfl, eD, dd0⟩, ?_⟩
  rintro i m H ⟨em, hG2, hp2, ρ2, dn, us, ys', x2, t2, p2, hDρ, y2, er2, edn, eD2, dd⟩
  by_cases hi : i < xs.length
  · refine .inr ⟨wk.goes i H hi hG2, fun H' => G H' ∧ ∃ hp ρ dn us ys', Ext ρ1 ρ H1 H' ∧ TF H0 H' ∧ ρ0 <+: ρ ∧ D ∉ ρ ∧ J.F.heap ρ hp H' ∧ compGo (compF J ifs elt (wipeE env vs) is) (xs.drop (i + 1)) hp = .ok ys' h2 ∧ dn ++ ys' = dn0 ++ ys ∧ H' D = some (.lst us) ∧ J.F.dens H' dn us,
      fun H' r => ⟨xs.length - (i + 1), by omega, rfl, r⟩, fun x H' hy => ?_⟩
    obtain ⟨nw, d, ed, dd2⟩ := wk.yields i H x H' hi hG2 hy
    have edrop : xs.drop i = d :: xs.drop (i + 1) := by
      rw [List.drop_eq_getElem_cons hi]
      rw [List.getElem?_eq_getElem hi] at ed
      cases ed
      rfl
    rw [edrop] at er2
    simp only [compGo] at er2
    obtain ⟨oy, h3, e1, e2⟩ := bind_ok er2
    obtain ⟨ys2, h4, e3, e4⟩ := bind_ok e2
    obtain ⟨env', e5, e6⟩ := opt_ok e1
    obtain ⟨b, h5, e7, e8⟩ := bind_ok e6
    have x3 := x2.trans (Ext.nw nw)
    have t3 := t2.trans nw.tf
    have y3 := HeapOk.new nw y2
    have hew : J.F.env ρ2 H' (wipeE env vs) (wipe σ vs) := by
      have hw := env_wipe he vs
      refine ⟨hw.1, fun i n e => ?_⟩
      obtain ⟨u, q1, q2⟩ := hw.2 i n e
      refine ⟨u, q1, ?_⟩
      cases n with
      | exn pl => exact J.F.xp.mono t3 q2
      | v y =>
        cases q2 with
        | d h => exact .d (h.tf t3)
        | ref h => exact .ref (pre_get p2 h)
        | thk => exact .thk
    refine qg (wipeE env vs) env' (wipe σ vs) H' ρ2 d x _ hew dd2 e5 fun σ2 he2 ho => ⟨?_, ?_⟩
    · refine wipe_same ?_ ho hs
      have l1 := env_len he2
      have l2 := env_len hew
      have l3 := setTg_len e5
      rw [← l1, l3, l2, wipe_length]
    · refine ⟨env', hp2, ρ2, by rw [hF]; exact he2, by rw [hF]; exact y3, ?_⟩
      rw [hG]
      refine (Fin.of_ok e7).mono fun b' ρ5 h5' H5 x5 _ ⟨eb, eh, _, y5⟩ => ?_
      subst eb eh
      rw [hF] at y5
      have eD5 := x5.lst hDρ (nw D _ eD2)
      have hDρ5 := x5.not_new hDρ (nw D _ eD2)
      cases b'
      · rw [if_neg (by decide)] at e8 ⊢
        cases e8
        cases e4
        exact ⟨wk.stays _ _ (nw.tf.trans x5.tf) hG2, _, ρ5, dn, us, ys', x3.trans x5, t3.trans x5.tf, p2.trans x5.pre, hDρ5, y5, e3, edn, eD5, dd.tf (nw.tf.trans x5.tf)⟩
      · rw [if_pos rfl] at e8 ⊢
        obtain ⟨v, h6, e9, e10⟩ := bind_ok e8
        obtain ⟨yv, rfl, e11⟩ := keep_ok e10
        cases e11
        cases e4
        refine ⟨env', _, ρ5, by rw [hF]; exact J.F.env_ext x5 he2, by rw [hF]; exact y5, ?_⟩
        rw [hG]
        refine (Fin.of_ok e9).mono fun v' ρ6 h6' H6 x6 _ ⟨ev, eh6, _, y6⟩ u du => ?_
        subst ev eh6
        rw [hF] at y6 du
        have eD6 := x6.lst hDρ5 eD5
        have hDρ6 := x6.not_new hDρ5 eD5
        have t6 : TF H6 (upd H6 D (.lst (us ++ [u]))) := TF.lst eD6
        cases du with
        | d du =>
          refine ⟨us, eD6, ?_, wk.stays _ _ ((nw.tf.trans x5.tf).trans (x6.tf.trans t6)) hG2, _, ρ6, dn ++ [yv], us ++ [u], ys2, ((x3.trans x5).trans x6).side hD t6, (t3.trans x5.tf).trans (x6.tf.trans t6), (p2.trans x5.pre).trans x6.pre, hDρ6, y6.side hDρ6 (NotTab.lst eD6) t6, e3, by simpa using edn, upd_same, ?_⟩
          · rw [← dd.length]
            have := congrArg List.length edn
            simp at this
            omega
          · exact ((dd.tf ((nw.tf.trans x5.tf).trans x6.tf)).snoc du).tf t6
  · refine .inl ⟨wk.stops i H (by omega) hG2, ?_⟩
    rw [List.drop_eq_nil_of_le (by omega)] at er2
    cases er2
    rw [List.append_nil] at edn
    subst edn
    exact fin ρ2 H us hDρ x2 y2 eD2 dd
/-- the reading of a comprehension -/
theorem tLc_of {ik : IK} {its ifs : List E} {elt : E} {vs is : List Nat} {g : TG} {J' : Jx} (hF : J'.F = J.F) (hG : J'.g = J.g) (hs : ∀ j ∈ is, j ∈ vs)
    (qg : ∀ (env env' : Env) (σ : L2.St) (H : Hp) (ρ : List Addr) (x : D) (u : V) (Q : L2.St → Hp → Prop), J.F.env ρ H env σ → J.F.den H x u → setTg env is x = some env' → (∀ σ', J.F.env ρ H env' σ' → (∀ j, j ∉ is → σ'[j]? = σ[j]?) → Q σ' H) → g u σ H Q)
    {σ : L2.St} {H : Hp} {Q : VK} {env : Env} {hp : Heap} {ρ : List Addr} (he : J.F.env ρ H env σ) (hh : J.F.heap ρ hp H)
    (f : Fin J.F J.Xs J.W ρ H ((evalEs J.g its env hp).bind fun ws h0 => walkGo ik ws h0) fun xs ρ1 h1 H1 => ∃ ys h2, compGo (compF J ifs elt (wipeE env vs) is) xs h1 = .ok ys h2 ∧ ys.length ≤ sizeLine ∧
      ∀ D ρ2 H2 us, H1 D = none → D ∉ ρ2 → Ext ρ1 ρ2 H1 H2 → J.F.heap ρ2 h2 H2 → H2 D = some (.lst us) → J.F.dens H2 ys us → Q (.ref D) H2) :
    tLc (tI J ik its) g (tTs J' ifs) (tE J' elt) vs σ H Q := by
  refine ⟨env, hp, ρ, he, hh, f.mono fun xs ρ1 h1 H1 x1 y1 z It G wk hG1 D hD => ?_⟩
  obtain ⟨ys, h2, er, hz, fin⟩ := z
  have n1 := New.upd (.lst []) hD
  have hDρ1 : D ∉ ρ1 := fun m => (y1.ne m hD) rfl
  exact comp_core hF hG hs qg wk hD (Ext.nw n1) hDρ1 (y1.new n1) (J.F.env_ext (x1.trans (Ext.nw n1)) he) er upd_same .nil (by simpa using hz) (wk.stays _ _ n1.tf hG1) fun ρ2 H2 us a b c d e => fin D ρ2 H2 us hD a b c d e
/-- what the end of a comprehension gives -/
theorem comp_end {mu : Bool} {ik : IK} {its ifs : List E} {elt : E} {vs is : List Nat} {σ : L2.St} {H : Hp} {R : VK} {k : PV → List Addr → Heap → Hp → Prop} {env : Env} {hp : Heap} {ρ : List Addr} (he : J.F.env ρ H env σ) (hh : J.F.heap ρ hp H)
    (f : Fin J.F J.Xs J.W ρ H (evalE J.g (.comp mu elt vs is ik its ifs) env hp) k)
    (q : ∀ ys h2 ρ1 H1 D ρ2 H2 us, Ext ρ ρ1 H H1 → Fin J.F J.Xs J.W ρ1 H1 (if mu then .ok (.ref h2.length) (h2 ++ [.lst ys]) else .ok (.d (.lst ys)) h2) k → H1 D = none → D ∉ ρ2 → Ext ρ1 ρ2 H1 H2 → J.F.heap ρ2 h2 H2 → H2 D = some (.lst us) → J.F.dens H2 ys us → R (.ref D) H2) :
    Fin J.F J.Xs J.W ρ H ((evalEs J.g its env hp).bind fun ws h0 => walkGo ik ws h0) fun xs ρ1 h1 H1 => ∃ ys h2, compGo (compF J ifs elt (wipeE env vs) is) xs h1 = .ok ys h2 ∧ ys.length ≤ sizeLine ∧
      ∀ D ρ2 H2 us, H1 D = none → D ∉ ρ2 → Ext ρ1 ρ2 H1 H2 → J.F.heap ρ2 h2 H2 → H2 D = some (.lst us) → J.F.dens H2 ys us → R (.ref D) H2 := by
  unfold evalE at f
  rw [← bind_assoc] at f
  refine (Fin.bind f).mono fun xs ρ1 h1 H1 x1 y1 z => ?_
  have z' : Fin J.F J.Xs J.W ρ1 H1 ((compGo (compF J ifs elt (wipeE env vs) is) xs h1).nox.bind fun ys h2 => need (fits ys) (if mu then .ok (.ref h2.length) (h2 ++ [.lst ys]) else .ok (.d (.lst ys)) h2)) k := z
  clear z
  have z := z'
  clear z'
  generalize compGo (compF J ifs elt (wipeE env vs) is) xs h1 = r at z ⊢
  cases r with
  | bad => exact z.elim
  | exc c pl h2 => exact z.elim
  | ok ys h2 =>
    rw [Res.nox_ok, Res.bind_ok] at z
    obtain ⟨hz, z⟩ := Fin.need z
    exact ⟨ys, h2, rfl, fits_le hz, fun D ρ2 H2 us a b c d e f => q ys h2 ρ1 H1 D ρ2 H2 us x1 z a b c d e f⟩
/-- as a cell -/
theorem comp_cell {mu : Bool} {σ : L2.St} {H1 H2 : Hp} {R : VK} {ys : List D} {h2 : Heap} {ρ1 ρ2 : List Addr} {D : Addr} {us : List V} (e : mu = true)
    (f : Fin J.F J.Xs J.W ρ1 H1 (if mu then .ok (.ref h2.length) (h2 ++ [.lst ys]) else .ok (.d (.lst ys)) h2) (fun v ρ' _ H' => ∀ u, J.F.denP ρ' H' v u → R u H'))
    (hD : H1 D = none) (hDρ : D ∉ ρ2) (x : Ext ρ1 ρ2 H1 H2) (y : J.F.heap ρ2 h2 H2) (eD : H2 D = some (.lst us)) (dd : J.F.dens H2 ys us) : R (.ref D) H2 := by
  subst e
  rw [if_pos rfl] at f
  refine f (ρ2 ++ [D]) H2 ⟨x.pre.trans (List.prefix_append _ _), x.tf, x.out, fun a m n => ?_⟩ ⟨y.tabs, List.nodup_append.mpr ⟨y.nd, by simp, fun a ha b hb => by simp at hb; subst hb; exact fun z => hDρ (z ▸ ha)⟩, by simp [y.len], fun n c a e1 e2 => ?_⟩ _ (.ref ?_)
  · rcases List.mem_append.mp m with m | m
    · exact x.new a m n
    · simp at m; rw [m]; exact hD
  · by_cases hn : n < h2.length
    · rw [List.getElem?_append_left hn] at e1
      rw [List.getElem?_append_left (by rw [y.len]; exact hn)] at e2
      have q := y.at_ n c a e1 e2
      cases c with
      | rws ns =>
        obtain ⟨as, q1, q2, q3⟩ := q
        exact ⟨as, q1, q2, fun i m e => let ⟨b, e1, e2⟩ := q3 i m e; ⟨b, e1, pre_get (List.prefix_append _ _) e2⟩⟩
      | lst _ => exact q
      | dct _ _ => exact q
      | dead => exact q
    · have en : n = h2.length := by
        have := (List.getElem?_eq_some_iff.mp e1).1
        simp at this
        omega
      subst en
      rw [List.getElem?_append_right (Nat.le_refl _)] at e1
      rw [← y.len, List.getElem?_append_right (Nat.le_refl _)] at e2
      simp at e1 e2
      subst e1 e2
      exact ⟨us, eD, dd⟩
  · rw [← y.len]
    exact List.getElem?_concat_length
/-- as data -/
theorem comp_data {mu : Bool} {σ : L2.St} {H1 H2 : Hp} {R : VK} {ys : List D} {h2 : Heap} {ρ1 ρ2 : List Addr} {D : Addr} {us : List V} (e : mu = false)
    (f : Fin J.F J.Xs J.W ρ1 H1 (if mu then .ok (.ref h2.length) (h2 ++ [.lst ys]) else .ok (.d (.lst ys)) h2) (fun v ρ' _ H' => ∀ u, J.F.denP ρ' H' v u → R u H'))
    (hD : H1 D = none) (hDρ : D ∉ ρ2) (x : Ext ρ1 ρ2 H1 H2) (y : J.F.heap ρ2 h2 H2) (eD : H2 D = some (.lst us)) (dd : J.F.dens H2 ys us) : KQ R (.ref D) H2 := by
  subst e
  rw [if_neg (by decide)] at f
  refine ⟨D, us, rfl, eD, fun o => ?_⟩
  have t : TF H2 (upd H2 D (.frz o (.lst us))) := TF.lst eD
  exact f ρ2 _ (x.side hD t) (y.side hDρ (NotTab.lst eD) t) _ (.d (.lst (.inl ⟨o, upd_same⟩) (dd.tf t)))
end
/-- the surroundings of a comprehension's block -/
abbrev Jx.blkC (J : Jx) (scope : Scope) (s : Shared) (H : Hp) (C : Addr) (cl : List (Str × Addr)) (fp : List Addr) : Jx := J.blk (J.X.blk s H scope (compEnvC scope cl C J.X.env) fp)
section
variable {J : Jx}
structure JGc (J : Jx) (scope : Scope) (tg : Expr) (is : List Nat) : Prop where
  ex : ∃ g, (∀ (s : Shared) (H : Hp) (C : Addr) (cl : List (Str × Addr)) (fp : List Addr), PG (J.blkC scope s H C cl fp).X tg g) ∧
    ∀ (env env' : Env) (σ : L2.St) (H : Hp) (ρ : List Addr) (x : D) (u : V) (Q : L2.St → Hp → Prop), J.F.env ρ H env σ → J.F.den H x u → setTg env is x = some env' → (∀ σ', J.F.env ρ H env' σ' → (∀ j, j ∉ is → σ'[j]? = σ[j]?) → Q σ' H) → g u σ H Q
/-- [elt for tg in iter if ..] as data -/
theorem je_lc {elt tg iter : Expr} {ifs : List Expr} {scope : Scope} {own : List (Str × Nat)} {pos : Pos} {ik : IK} {its eifs : List E} {ee : E} {is : List Nat} (ok : J.Ok) (hc : J.X.calm = true) (hi : JI J tg iter ik its) (hb : BlkOk J.X.N J.X.env.scope scope own)
    (hg : JGc J scope tg is) (hsub : ∀ j ∈ is, j ∈ own.map (·.2))
    (ht : ∀ (s : Shared) (H : Hp) (C : Addr) (cl : List (Str × Addr)) (fp : List Addr), JTs (J.blkC scope s H C cl fp) ifs eifs)
    (he : ∀ (s : Shared) (H : Hp) (C : Addr) (cl : List (Str × Addr)) (fp : List Addr), JE (J.blkC scope s H C cl fp) elt ee) (hs : ∀ x, foldedSetIterable iter J.X.env x = pure x) :
    JE J (.ListComp elt [⟨tg, iter, ifs, 0⟩] scope pos) (.comp false ee (own.map (·.2)) is ik its eifs) := by
  obtain ⟨g, hg1, qg⟩ := hg.ex
  refine (PE.known (pe_lc (tt := tTs (J.blk J.X) eifs) (te := tE (J.blk J.X) ee) hc ok.nd hi hb hg1 (fun s H C cl fp => ht s H C cl fp) (fun s H C cl fp => he s H C cl fp) hs)).imp fun σ H Q h => ?_
  obtain ⟨env, hp, ρ, he, hh, f⟩ := h
  refine tLc_of (J := J) (J' := J.blk J.X) rfl rfl hsub qg he hh (comp_end he hh f fun ys h2 ρ1 H1 D ρ2 H2 us _ z a b c d e f => comp_data (σ := σ) rfl z a b c d e f)
/-- .. as a cell -/
theorem je_lcM {elt tg iter : Expr} {ifs : List Expr} {scope : Scope} {own : List (Str × Nat)} {pos : Pos} {ik : IK} {its eifs : List E} {ee : E} {is : List Nat} (ok : J.Ok) (hc : J.X.calm = true) (hi : JI J tg iter ik its) (hb : BlkOk J.X.N J.X.env.scope scope own)
    (hg : JGc J scope tg is) (hsub : ∀ j ∈ is, j ∈ own.map (·.2))
    (ht : ∀ (s : Shared) (H : Hp) (C : Addr) (cl : List (Str × Addr)) (fp : List Addr), JTs (J.blkC scope s H C cl fp) ifs eifs)
    (he : ∀ (s : Shared) (H : Hp) (C : Addr) (cl : List (Str × Addr)) (fp : List Addr), JE (J.blkC scope s H C cl fp) elt ee) (hs : ∀ x, foldedSetIterable iter J.X.env x = pure x) :
    JE J (.ListComp elt [⟨tg, iter, ifs, 0⟩] scope pos) (.comp true ee (own.map (·.2)) is ik its eifs) := by
  obtain ⟨g, hg1, qg⟩ := hg.ex
  refine (pe_lc (tt := tTs (J.blk J.X) eifs) (te := tE (J.blk J.X) ee) hc ok.nd hi hb hg1 (fun s H C cl fp => ht s H C cl fp) (fun s H C cl fp => he s H C cl fp) hs).imp fun σ H Q h => ?_
  obtain ⟨env, hp, ρ, he, hh, f⟩ := h
  refine tLc_of (J := J) (J' := J.blk J.X) rfl rfl hsub qg he hh (comp_end he hh f fun ys h2 ρ1 H1 D ρ2 H2 us _ z a b c d e f => comp_cell (σ := σ) rfl z a b c d e f)
end
end Ev
end
section
/-! EvP: comprehensions with two clauses; a name's comprehension. -/
set_option autoImplicit false
set_option linter.all false
set_option maxRecDepth 100000
set_option maxHeartbeats 1000000
set_option Elab.async false
namespace Ev
open PySem PySem.Spec L2

section
variable {J : Jx}
abbrev comp2F (J : Jx) (c1 : List E) (k2 : IK) (i2 c2 : List E) (elt : E) (env : Env) (t1 t2 : List Nat) : D → Heap → Res (List D) := fun x h => opt (setTg env t1 x) fun env1 => (evalT J.g c1 env1 h).bind fun b h' => if b then
        (evalEs J.g i2 env1 h').bind fun us h3 => (walkGo k2 us h3).bind fun ys h'' => compGo (compF J c2 elt (wipeE env1 t2) t2) ys h''
      else .ok [] h'
theorem tLc2_of {ik k2 : IK} {its c1 i2 c2 : List E} {elt : E} {vs t1 t2 : List Nat} {g g1 : TG} {J' : Jx} (hF : J'.F = J.F) (hG : J'.g = J.g) (hs : ∀ j ∈ t1, j ∈ vs)
    (qg : ∀ (env env' : Env) (σ : L2.St) (H : Hp) (ρ : List Addr) (x : D) (u : V) (Q : L2.St → Hp → Prop), J.F.env ρ H env σ → J.F.den H x u → setTg env t1 x = some env' → (∀ σ', J.F.env ρ H env' σ' → (∀ j, j ∉ t1 → σ'[j]? = σ[j]?) → Q σ' H) → g u σ H Q)
    (qg1 : ∀ (env env' : Env) (σ : L2.St) (H : Hp) (ρ : List Addr) (x : D) (u : V) (Q : L2.St → Hp → Prop), J.F.env ρ H env σ → J.F.den H x u → setTg env t2 x = some env' → (∀ σ', J.F.env ρ H env' σ' → (∀ j, j ∉ t2 → σ'[j]? = σ[j]?) → Q σ' H) → g1 u σ H Q)
    {σ : L2.St} {H : Hp} {Q : VK} {env : Env} {hp : Heap} {ρ : List Addr} (he : J.F.env ρ H env σ) (hh : J.F.heap ρ hp H)
    (f : Fin J.F J.Xs J.W ρ H ((evalEs J.g its env hp).bind fun ws h0 => walkGo ik ws h0) fun xs ρ1 h1 H1 => ∃ ys h2, comp2Go (comp2F J c1 k2 i2 c2 elt (wipeE env vs) t1 t2) xs h1 = .ok ys h2 ∧ ys.length ≤ sizeLine ∧
      ∀ D ρ2 H2 us, H1 D = none → D ∉ ρ2 → Ext ρ1 ρ2 H1 H2 → J.F.heap ρ2 h2 H2 → H2 D = some (.lst us) → J.F.dens H2 ys us → Q (.ref D) H2) :
    tLc2 (tI J ik its) g (tTs J' c1) (tI J' k2 i2) g1 (tTs J' c2) (tE J' elt) vs t2 σ H Q := by
  refine ⟨env, hp, ρ, he, hh, f.mono fun xs ρ1 h1 H1 x1 y1 z It G wk hG1 D hD => ?_⟩
  obtain ⟨ys, h2, er, hz, fin⟩ := z
  have n1 := New.upd (.lst []) hD
  have hDρ1 : D ∉ ρ1 := fun m => (y1.ne m hD) rfl
  refine ⟨fun i m H => m = xs.length - i ∧ G H ∧ ∃ hp ρ dn us ys', Ext ρ1 ρ H1 H ∧ D ∉ ρ ∧ J.F.heap ρ hp H ∧ comp2Go (comp2F J c1 k2 i2 c2 elt (wipeE env vs) t1 t2) (xs.drop i) hp = .ok ys' h2 ∧ dn ++ ys' = ys ∧ H D = some (.lst us) ∧ J.F.dens H dn us,
    ⟨xs.length, rfl, wk.stays _ _ n1.tf hG1, h1, ρ1, [], [], ys, Ext.nw n1, hDρ1, y1.new n1, er, rfl, upd_same, .nil⟩, ?_⟩
  rintro i m H ⟨em, hG2, hp2, ρ2, dn, us, ys', x2, hDρ, y2, er2, edn, eD2, dd⟩
  by_cases hi : i < xs.length
  · refine .inr ⟨wk.goes i H hi hG2, fun H' => G H' ∧ ∃ hp ρ dn us ys', Ext ρ1 ρ H1 H' ∧ D ∉ ρ ∧ J.F.heap ρ hp H' ∧ comp2Go (comp2F J c1 k2 i2 c2 elt (wipeE env vs) t1 t2) (xs.drop (i + 1)) hp = .ok ys' h2 ∧ dn ++ ys' = ys ∧ H' D = some (.lst us) ∧ J.F.dens H' dn us,
      fun H' r => ⟨xs.length - (i + 1), by omega, rfl, r⟩, fun x H' hy => ?_⟩
    obtain ⟨nw, d, ed, dd2⟩ := wk.yields i H x H' hi hG2 hy
    have edrop : xs.drop i = d :: xs.drop (i + 1) := by
      rw [List.drop_eq_getElem_cons hi]
      rw [List.getElem?_eq_getElem hi] at ed
      cases ed
      rfl
    rw [edrop] at er2
    simp only [comp2Go] at er2
    obtain ⟨oy, h3, e1, e2⟩ := bind_ok er2
    obtain ⟨ys2, h4, e3, e4⟩ := bind_ok e2
    cases e4
    obtain ⟨env', e5, e6⟩ := opt_ok e1
    obtain ⟨b, h5, e7, e8⟩ := bind_ok e6
    have x3 := x2.trans (Ext.nw nw)
    have y3 := HeapOk.new nw y2
    have hew : J.F.env ρ2 H' (wipeE env vs) (wipe σ vs) := J.F.env_ext (x1.trans x3) (env_wipe he vs)
    refine qg (wipeE env vs) env' (wipe σ vs) H' ρ2 d x _ hew dd2 e5 fun σ2 he2 ho => ⟨?_, ?_⟩
    · refine wipe_same ?_ ho hs
      have l1 := env_len he2
      have l2 := env_len hew
      have l3 := setTg_len e5
      rw [← l1, l3, l2, wipe_length]
    · refine ⟨env', hp2, ρ2, by rw [hF]; exact he2, by rw [hF]; exact y3, ?_⟩
      rw [hG]
      refine (Fin.of_ok e7).mono fun b' ρ5 h5' H5 x5 _ ⟨eb, eh, _, y5⟩ => ?_
      subst eb eh
      rw [hF] at y5
      have eD5 := x5.lst hDρ (nw D _ eD2)
      have hDρ5 := x5.not_new hDρ (nw D _ eD2)
      cases b'
      · rw [if_neg (by decide)] at e8 ⊢
        cases e8
        exact ⟨wk.stays _ _ (nw.tf.trans x5.tf) hG2, _, ρ5, dn, us, ys2, x3.trans x5, hDρ5, y5, e3, by simpa using edn, eD5, dd.tf (nw.tf.trans x5.tf)⟩
      · rw [if_pos rfl] at e8 ⊢
        obtain ⟨as, h6, e9, e10⟩ := bind_ok e8
        obtain ⟨zs, h7, e11, e12⟩ := bind_ok e10
        have e13 := (congrArg (fun r => Res.bind r fun ws h0 => walkGo k2 ws h0) e9).trans ((Res.bind_ok as h6 _).trans e11)
        have he5 := J.F.env_ext x5 he2
        refine ⟨env', _, ρ5, by rw [hF]; exact he5, by rw [hF]; exact y5, ?_⟩
        rw [hG]
        refine (Fin.of_ok e13).mono fun zs' ρ7 h7' H7 x7 _ ⟨ez, eh7, _, y7⟩ It2 G2 wk2 hG7 => ?_
        subst ez eh7
        rw [hF] at y7 wk2
        have eD7 := x7.lst hDρ5 eD5
        have hDρ7 := x7.not_new hDρ5 eD5
        have x9 := (x3.trans x5).trans x7
        have tt := (nw.tf.trans x5.tf).trans x7.tf
        refine comp_core hF hG (fun j hj => hj) qg1 wk2 hD x9 hDρ7 y7 (J.F.env_ext x7 he5) e12 eD7 (dd.tf tt) ?_ hG7 fun ρ8 H8 us8 a b c e f => ?_
        · have := congrArg List.length edn
          simp at this
          omega
        · refine ⟨wk.stays _ _ b.tf hG1, h3, ρ8, dn ++ oy, us8, ys2, b, a, c, e3, by simpa using edn, e, f⟩
  · refine .inl ⟨wk.stops i H (by omega) hG2, ?_⟩
    rw [List.drop_eq_nil_of_le (by omega)] at er2
    cases er2
    rw [List.append_nil] at edn
    subst edn
    exact fin D ρ2 H us hD hDρ x2 y2 eD2 dd
theorem comp2_end {mu : Bool} {ik k2 : IK} {its c1 i2 c2 : List E} {elt : E} {vs t1 t2 : List Nat} {σ : L2.St} {H : Hp} {R : VK} {k : PV → List Addr → Heap → Hp → Prop} {env : Env} {hp : Heap} {ρ : List Addr} (he : J.F.env ρ H env σ) (hh : J.F.heap ρ hp H)
    (f : Fin J.F J.Xs J.W ρ H (evalE J.g (.comp2 mu elt vs t1 ik its c1 t2 k2 i2 c2) env hp) k)
    (q : ∀ ys h2 ρ1 H1 D ρ2 H2 us, Ext ρ ρ1 H H1 → Fin J.F J.Xs J.W ρ1 H1 (if mu then .ok (.ref h2.length) (h2 ++ [.lst ys]) else .ok (.d (.lst ys)) h2) k → H1 D = none → D ∉ ρ2 → Ext ρ1 ρ2 H1 H2 → J.F.heap ρ2 h2 H2 → H2 D = some (.lst us) → J.F.dens H2 ys us → R (.ref D) H2) :
    Fin J.F J.Xs J.W ρ H ((evalEs J.g its env hp).bind fun ws h0 => walkGo ik ws h0) fun xs ρ1 h1 H1 => ∃ ys h2, comp2Go (comp2F J c1 k2 i2 c2 elt (wipeE env vs) t1 t2) xs h1 = .ok ys h2 ∧ ys.length ≤ sizeLine ∧
      ∀ D ρ2 H2 us, H1 D = none → D ∉ ρ2 → Ext ρ1 ρ2 H1 H2 → J.F.heap ρ2 h2 H2 → H2 D = some (.lst us) → J.F.dens H2 ys us → R (.ref D) H2 := by
  unfold evalE at f
  rw [← bind_assoc] at f
  refine (Fin.bind f).mono fun xs ρ1 h1 H1 x1 y1 z => ?_
  have z' : Fin J.F J.Xs J.W ρ1 H1 ((comp2Go (comp2F J c1 k2 i2 c2 elt (wipeE env vs) t1 t2) xs h1).nox.bind fun ys h2 => need (fits ys) (if mu then .ok (.ref h2.length) (h2 ++ [.lst ys]) else .ok (.d (.lst ys)) h2)) k := z
  clear z
  have z := z'
  clear z'
  generalize comp2Go (comp2F J c1 k2 i2 c2 elt (wipeE env vs) t1 t2) xs h1 = r at z ⊢
  cases r with
  | bad => exact z.elim
  | exc c pl h2 => exact z.elim
  | ok ys h2 =>
    rw [Res.nox_ok, Res.bind_ok] at z
    obtain ⟨hz, z⟩ := Fin.need z
    exact ⟨ys, h2, rfl, fits_le hz, fun D ρ2 H2 us a b c d e f => q ys h2 ρ1 H1 D ρ2 H2 us x1 z a b c d e f⟩
/-- a statement's end: the list that was stored becomes known -/
theorem _root_.L2.PS.known {X : Cx} {st : Stmt} {t : TS} (h : PS X st t) : PS X st (fun D σ H => t { D with nx := fun σ' H' => ∃ a us, H' a = some (.lst us) ∧ ∀ o, D.nx σ' (upd H' a (.frz o (.lst us))) } σ H) :=
  ⟨fun pins s σ H D I z => L2.thn (h.run pins s σ H _ I z) fun fl s' q => by
    cases fl with
    | next =>
      obtain ⟨σ', H', I', a, us, e, k⟩ := q
      obtain ⟨o, I2⟩ := I'.known e
      exact ⟨σ', _, I2, k o⟩
    | ret v => exact q
    | brk => exact q
    | cont => exact q⟩
variable {elt tg iter tg1 iter1 : Expr} {ifs ifs1 : List Expr} {scope : Scope} {own : List (Str × Nat)} {pos spos py : Pos} {ik k2 : IK} {its eifs i2 c2 : List E} {ee : E} {is t2 : List Nat} {i : Nat} {y : Str}
theorem je_lc2 (ok : J.Ok) (hc : J.X.calm = true) (hi : JI J tg iter ik its) (hb : BlkOk J.X.N J.X.env.scope scope own)
    (hg : JGc J scope tg is) (hsub : ∀ j ∈ is, j ∈ own.map (·.2)) (hg1 : JGc J scope tg1 t2) (hv : ∀ j ∈ t2, j ∈ own.map (·.2))
    (ht : ∀ (s : Shared) (H : Hp) (C : Addr) (cl : List (Str × Addr)) (fp : List Addr), JTs (J.blkC scope s H C cl fp) ifs eifs)
    (hi1 : ∀ (s : Shared) (H : Hp) (C : Addr) (cl : List (Str × Addr)) (fp : List Addr), JI (J.blkC scope s H C cl fp) tg1 iter1 k2 i2)
    (ht1 : ∀ (s : Shared) (H : Hp) (C : Addr) (cl : List (Str × Addr)) (fp : List Addr), JTs (J.blkC scope s H C cl fp) ifs1 c2)
    (he : ∀ (s : Shared) (H : Hp) (C : Addr) (cl : List (Str × Addr)) (fp : List Addr), JE (J.blkC scope s H C cl fp) elt ee) (hs : ∀ x, foldedSetIterable iter J.X.env x = pure x) (hs1 : ∀ env x, foldedSetIterable iter1 env x = pure x) :
    JE J (.ListComp elt [⟨tg, iter, ifs, 0⟩, ⟨tg1, iter1, ifs1, 0⟩] scope pos) (.comp2 false ee (own.map (·.2)) is ik its eifs t2 k2 i2 c2) := by
  obtain ⟨g, hg, qg⟩ := hg.ex
  obtain ⟨g1, hg1, qg1⟩ := hg1.ex
  refine (PE.known (pe_lc2 (tt := tTs (J.blk J.X) eifs) (te := tE (J.blk J.X) ee) (wi1 := tI (J.blk J.X) k2 i2) (tt1 := tTs (J.blk J.X) c2) hc ok.nd hi hb hv hg (fun s H C cl fp => ht s H C cl fp) (fun s H C cl fp => hi1 s H C cl fp) hg1 (fun s H C cl fp => ht1 s H C cl fp) (fun s H C cl fp => he s H C cl fp) hs hs1)).imp fun σ H Q h => ?_
  obtain ⟨env, hp, ρ, he, hh, f⟩ := h
  exact tLc2_of (J := J) (J' := J.blk J.X) rfl rfl hsub qg qg1 he hh (comp2_end he hh f fun ys h2 ρ1 H1 D ρ2 H2 us _ z a b c d e f => comp_data (σ := σ) rfl z a b c d e f)
/-- name = [..] on one line -/
theorem js_setLc (ok : J.Ok) (hc : J.X.calm = true) (hy : J.X.N[i]? = some y) (hyl : J.X.env.scope.names.lookup y = some .local) (hsw : swapsWith (.ListComp elt [⟨tg, iter, ifs, 0⟩] scope pos) (some (.Name y py)) spos.line J.X.env = pure true)
    (hi : JI J tg iter ik its) (hb : BlkOk J.X.N J.X.env.scope scope own)
    (hg : JGc J scope tg is) (hsub : ∀ j ∈ is, j ∈ own.map (·.2))
    (ht : ∀ (s : Shared) (H : Hp) (C : Addr) (cl : List (Str × Addr)) (fp : List Addr), JTs (J.blkC scope s H C cl fp) ifs eifs)
    (he : ∀ (s : Shared) (H : Hp) (C : Addr) (cl : List (Str × Addr)) (fp : List Addr), JE (J.blkC scope s H C cl fp) elt ee) (hs : ∀ x, foldedSetIterable iter J.X.env x = pure x) :
    JS J (.Assign [.Name y py] (.ListComp elt [⟨tg, iter, ifs, 0⟩] scope pos) spos) (.asg i (.comp false ee (own.map (·.2)) is ik its eifs)) := by
  obtain ⟨g, hg1, qg⟩ := hg.ex
  refine (PS.known (ps_setLc (tt := tTs (J.blk J.X) eifs) (te := tE (J.blk J.X) ee) hc ok.nd hy hyl hsw hi hb hg1 (fun s H C cl fp => ht s H C cl fp) (fun s H C cl fp => he s H C cl fp) hs)).imp fun D σ H h => ?_
  obtain ⟨env, hp, ρ, he, hh, f⟩ := h
  unfold evalS at f
  have f0 := (Fin.bind f).mono (k' := fun v ρ' h' H' => ∀ u, J.F.denP ρ' H' v u → D.nx (σ.set i (some u)) H') fun v ρ1 h1 H1 x1 y1 z u d => z.here y1 _ (env_set (J.F.env_ext x1 he) d)
  refine tLc_of (J := J) (J' := J.blk J.X) rfl rfl hsub qg he hh ?_
  refine (comp_end (R := fun v H2 => KQ (fun u H' => D.nx (σ.set i (some u)) H') v H2) he hh f0 fun ys h2 ρ1 H1 D' ρ2 H2 us _ z a b c d e f => comp_data (σ := σ) (R := fun u H' => D.nx (σ.set i (some u)) H') rfl z a b c d e f).mono fun xs ρ1 h1 H1 x1 y1 ⟨ys, h2, e1, e2, e3⟩ => ⟨ys, h2, e1, e2, fun D' ρ2 H2 us a b c d e f => ?_⟩
  obtain ⟨a', us', e4, e5, e6⟩ := e3 D' ρ2 H2 us a b c d e f
  cases e4
  exact ⟨D', us', e5, e6⟩
theorem js_setLcM (ok : J.Ok) (hc : J.X.calm = true) (hy : J.X.N[i]? = some y) (hyl : J.X.env.scope.names.lookup y = some .local) (hsw : swapsWith (.ListComp elt [⟨tg, iter, ifs, 0⟩] scope pos) (some (.Name y py)) spos.line J.X.env = pure true)
    (hi : JI J tg iter ik its) (hb : BlkOk J.X.N J.X.env.scope scope own)
    (hg : JGc J scope tg is) (hsub : ∀ j ∈ is, j ∈ own.map (·.2))
    (ht : ∀ (s : Shared) (H : Hp) (C : Addr) (cl : List (Str × Addr)) (fp : List Addr), JTs (J.blkC scope s H C cl fp) ifs eifs)
    (he : ∀ (s : Shared) (H : Hp) (C : Addr) (cl : List (Str × Addr)) (fp : List Addr), JE (J.blkC scope s H C cl fp) elt ee) (hs : ∀ x, foldedSetIterable iter J.X.env x = pure x) :
    JS J (.Assign [.Name y py] (.ListComp elt [⟨tg, iter, ifs, 0⟩] scope pos) spos) (.asg i (.comp true ee (own.map (·.2)) is ik its eifs)) := by
  obtain ⟨g, hg1, qg⟩ := hg.ex
  refine (ps_setLc (tt := tTs (J.blk J.X) eifs) (te := tE (J.blk J.X) ee) hc ok.nd hy hyl hsw hi hb hg1 (fun s H C cl fp => ht s H C cl fp) (fun s H C cl fp => he s H C cl fp) hs).imp fun D σ H h => ?_
  obtain ⟨env, hp, ρ, he, hh, f⟩ := h
  unfold evalS at f
  have f0 := (Fin.bind f).mono (k' := fun v ρ' h' H' => ∀ u, J.F.denP ρ' H' v u → D.nx (σ.set i (some u)) H') fun v ρ1 h1 H1 x1 y1 z u d => z.here y1 _ (env_set (J.F.env_ext x1 he) d)
  refine tLc_of (J := J) (J' := J.blk J.X) rfl rfl hsub qg he hh ?_
  exact comp_end (R := fun u H' => D.nx (σ.set i (some u)) H') he hh f0 fun ys h2 ρ1 H1 D' ρ2 H2 us _ z a b c d e f => comp_cell (σ := σ) (R := fun u H' => D.nx (σ.set i (some u)) H') rfl z a b c d e f
theorem js_setLc2 (ok : J.Ok) (hc : J.X.calm = true) (hy : J.X.N[i]? = some y) (hyl : J.X.env.scope.names.lookup y = some .local) (hsw : swapsWith (.ListComp elt [⟨tg, iter, ifs, 0⟩, ⟨tg1, iter1, ifs1, 0⟩] scope pos) (some (.Name y py)) spos.line J.X.env = pure true)
    (hi : JI J tg iter ik its) (hb : BlkOk J.X.N J.X.env.scope scope own)
    (hg : JGc J scope tg is) (hsub : ∀ j ∈ is, j ∈ own.map (·.2)) (hg1 : JGc J scope tg1 t2) (hv : ∀ j ∈ t2, j ∈ own.map (·.2))
    (ht : ∀ (s : Shared) (H : Hp) (C : Addr) (cl : List (Str × Addr)) (fp : List Addr), JTs (J.blkC scope s H C cl fp) ifs eifs)
    (hi1 : ∀ (s : Shared) (H : Hp) (C : Addr) (cl : List (Str × Addr)) (fp : List Addr), JI (J.blkC scope s H C cl fp) tg1 iter1 k2 i2)
    (ht1 : ∀ (s : Shared) (H : Hp) (C : Addr) (cl : List (Str × Addr)) (fp : List Addr), JTs (J.blkC scope s H C cl fp) ifs1 c2)
    (he : ∀ (s : Shared) (H : Hp) (C : Addr) (cl : List (Str × Addr)) (fp : List Addr), JE (J.blkC scope s H C cl fp) elt ee) (hs : ∀ x, foldedSetIterable iter J.X.env x = pure x) (hs1 : ∀ env x, foldedSetIterable iter1 env x = pure x) :
    JS J (.Assign [.Name y py] (.ListComp elt [⟨tg, iter, ifs, 0⟩, ⟨tg1, iter1, ifs1, 0⟩] scope pos) spos) (.asg i (.comp2 false ee (own.map (·.2)) is ik its eifs t2 k2 i2 c2)) := by
  obtain ⟨g, hg, qg⟩ := hg.ex
  obtain ⟨g1, hg1, qg1⟩ := hg1.ex
  refine (PS.known (ps_setLc2 (tt := tTs (J.blk J.X) eifs) (te := tE (J.blk J.X) ee) (wi1 := tI (J.blk J.X) k2 i2) (tt1 := tTs (J.blk J.X) c2) hc ok.nd hy hyl hsw hi hb hv hg (fun s H C cl fp => ht s H C cl fp) (fun s H C cl fp => hi1 s H C cl fp) hg1 (fun s H C cl fp => ht1 s H C cl fp) (fun s H C cl fp => he s H C cl fp) hs hs1)).imp fun D σ H h => ?_
  obtain ⟨env, hp, ρ, he, hh, f⟩ := h
  unfold evalS at f
  have f0 := (Fin.bind f).mono (k' := fun v ρ' h' H' => ∀ u, J.F.denP ρ' H' v u → D.nx (σ.set i (some u)) H') fun v ρ1 h1 H1 x1 y1 z u d => z.here y1 _ (env_set (J.F.env_ext x1 he) d)
  refine tLc2_of (J := J) (J' := J.blk J.X) rfl rfl hsub qg qg1 he hh ?_
  refine (comp2_end (R := fun v H2 => KQ (fun u H' => D.nx (σ.set i (some u)) H') v H2) he hh f0 fun ys h2 ρ1 H1 D' ρ2 H2 us _ z a b c d e f => comp_data (σ := σ) (R := fun u H' => D.nx (σ.set i (some u)) H') rfl z a b c d e f).mono fun xs ρ1 h1 H1 x1 y1 ⟨ys, h2, e1, e2, e3⟩ => ⟨ys, h2, e1, e2, fun D' ρ2 H2 us a b c d e f => ?_⟩
  obtain ⟨a', us', e4, e5, e6⟩ := e3 D' ρ2 H2 us a b c d e f
  cases e4
  exact ⟨D', us', e5, e6⟩
end
end Ev
end
section
/-! EvQ: calls. -/
set_option autoImplicit false
set_option linter.all false
set_option maxRecDepth 100000
set_option maxHeartbeats 1000000
set_option Elab.async false
namespace Ev
open PySem PySem.Spec PyProof.Rows L2

/-- room for k calls, and no guard stands -/
structure Fit (k : Nat) (A : Around) : Prop where
  room : Room k A
  gd : A.guards = some []
theorem Fit.deeper {k : Nat} {A : Around} (r : Fit (k + 1) A) (env : PySem.Env) : Fit k (A.deeper env) := ⟨r.room.deeper env, r.gd⟩
theorem Fit.mono {j k : Nat} {A : Around} (r : Fit k A) (h : j ≤ k) : Fit j A := ⟨r.room.mono h, r.gd⟩

/-- what a def does, where there is room -/
structure Does (P : Program) (w : World) (K : Frag) (mg : Str → Option Value) (base : PySem.Heap) (k : Nat) (f : Addr) (fd : FuncData) (ps : List Str) (sp : Sp) : Prop where
  len : ∀ vs H Q E, sp vs H Q E → vs.length = ps.length
  run : ∀ (A : Around) (outer : List PySem.Env) (s : Shared) (H : Hp) (args : Args) (us : List Value) (vs : List V) (Q : VK) (E : XK), Fit k A → Env0 P w K mg base A outer s H → BindsTo s fd args (ps.zip us) → Vals vs us → sp vs H Q E →
    codeAny (model P w) A (.call (.ref f) args) (CR (L2.CX P w) outer P w H s Q E) s

/-! ### leaving a call -/
section
variable {F : Fx} {Xs : Exs} {W : Value → Option Addr → Hp → Prop} {ρ : List Addr} {H : Hp}
theorem take_pre {α : Type} {l l' : List α} (h : l <+: l') : l'.take l.length = l := by
  obtain ⟨r, rfl⟩ := h
  simp
/-- back to the first cells -/
theorem HeapOk.back {P : Program} {w : World} {K : Frag} {tb : List (Addr × Str)} {ρ ρ' : List Addr} {h : Heap} {H' : Hp} (p : ρ <+: ρ') (y : HeapOk P w K tb ρ' h H') (c : (h.take ρ.length).all (fineC ρ.length) = true) : HeapOk P w K tb ρ (h.take ρ.length) H' := by
  have hl : ρ.length ≤ h.length := by rw [← y.len]; exact p.length_le
  refine ⟨y.tabs, (y.nd.sublist (p.sublist)), by rw [List.length_take]; omega, fun n cl a h1 h2 => ?_⟩
  have hn : n < ρ.length := (List.getElem?_eq_some_iff.mp h2).1
  have cl' : fineC ρ.length cl = true := List.all_eq_true.mp c cl (List.mem_of_getElem? h1)
  rw [List.getElem?_take, if_pos hn] at h1
  have q := y.at_ n cl a h1 (pre_get p h2)
  cases cl with
  | rws ns =>
    obtain ⟨as, q1, q2, q3⟩ := q
    refine ⟨as, q1, q2, fun i m e => ?_⟩
    obtain ⟨b, e1, e2⟩ := q3 i m e
    have hm : m < ρ.length := by
      have := List.all_eq_true.mp (show (ns.all fun m => decide (m < ρ.length)) = true from cl') m (List.mem_of_getElem? e)
      exact of_decide_eq_true this
    refine ⟨b, e1, ?_⟩
    obtain ⟨r, rfl⟩ := p
    rw [List.getElem?_append_left hm] at e2
    exact e2
  | lst _ => exact q
  | dct _ _ => exact q
  | dead => exact q
theorem Ext.back {ρ ρ' : List Addr} {H H' : Hp} (x : Ext ρ ρ' H H') : Ext ρ ρ H H' := ⟨List.prefix_refl _, x.tf, x.out, fun _ h n => absurd h n⟩
theorem Fin.leave {r : Res PV} {hp : Heap} {Q : VK} (y : F.heap ρ hp H) (h : Fin F Xs W ρ H (Ev.leave hp.length r) (fun v ρ' _ H' => ∀ u, F.denP ρ' H' v u → Q u H')) :
    Fin F Xs W ρ H r (fun v ρ' _ H' => ∀ u, F.denP ρ' H' v u → Q u H') := by
  cases r with
  | bad => exact h.elim
  | exc c pl h1 =>
    obtain ⟨hc, h2⟩ := Fin.need (r := .exc c pl (h1.take hp.length)) h
    rw [← y.len] at hc h2
    exact fun ρ' H' cls d x z e => h2 ρ H' cls d x.back (HeapOk.back x.pre z hc) e
  | ok v h1 =>
    intro ρ' H' x z u d
    obtain ⟨hc, h2⟩ := Fin.need h
    rw [← y.len] at hc h2
    have back := HeapOk.back x.pre z hc
    cases v with
    | thk => exact h2.elim
    | d v => exact h2 ρ H' x.back back u (by cases d with | d d => exact .d d)
    | ref m =>
      cases d with
      | @ref _ a ha =>
        unfold leaveV at h2
        simp only at h2
        split at h2
        · rename_i hm
          refine h2 ρ H' x.back back _ (.ref ?_)
          obtain ⟨r, rfl⟩ := x.pre
          rw [List.getElem?_append_left hm] at ha
          exact ha
        · rename_i hm
          split at h2
          · rename_i cl e
            obtain ⟨hf, h3⟩ := Fin.need h2
            have hl : ρ.length ≤ h1.length := by rw [← z.len]; exact x.pre.length_le
            have na : a ∉ ρ := fun hm' => by
              obtain ⟨i, hi⟩ := List.getElem?_of_mem hm'
              have h4 := pre_get x.pre hi
              obtain ⟨l1, g1⟩ := List.getElem?_eq_some_iff.mp h4
              obtain ⟨l2, g2⟩ := List.getElem?_eq_some_iff.mp ha
              have := (List.getElem_inj z.nd).mp (g1.trans g2.symm)
              have := (List.getElem?_eq_some_iff.mp hi).1
              omega
            refine h3 (ρ ++ [a]) H' ⟨List.prefix_append _ _, x.tf, x.out, fun b m n => ?_⟩ ?_ _ (.ref ?_)
            · rcases List.mem_append.mp m with m | m
              · exact absurd m n
              · simp at m
                subst m
                exact x.new _ (List.mem_of_getElem? ha) n
            · have len2 : (h1.take ρ.length).length = ρ.length := by rw [List.length_take]; omega
              refine ⟨z.tabs, List.nodup_append.mpr ⟨back.nd, by simp, fun b hb c hc => by simp at hc; subst hc; exact fun e => na (e ▸ hb)⟩, by simp [len2], fun n c b e1 e2 => ?_⟩
              by_cases hn : n < ρ.length
              · rw [List.getElem?_append_left (by omega)] at e1
                rw [List.getElem?_append_left hn] at e2
                have q := back.at_ n c b e1 e2
                cases c with
                | rws ns =>
                  obtain ⟨as, q1, q2, q3⟩ := q
                  exact ⟨as, q1, q2, fun i m e => let ⟨b, e1, e2⟩ := q3 i m e; ⟨b, e1, pre_get (List.prefix_append _ _) e2⟩⟩
                | lst _ => exact q
                | dct _ _ => exact q
                | dead => exact q
              · have en : n = ρ.length := by
                  have := (List.getElem?_eq_some_iff.mp e2).1
                  simp at this
                  omega
                subst en
                rw [List.getElem?_append_right (by omega)] at e1
                rw [List.getElem?_append_right (Nat.le_refl _)] at e2
                simp [len2] at e1 e2
                subst e1 e2
                have q := z.at_ m cl a e ha
                cases cl with
                | rws ns =>
                  obtain ⟨as, q1, q2, q3⟩ := q
                  refine ⟨as, q1, q2, fun i k e => ?_⟩
                  obtain ⟨b, e1, e2⟩ := q3 i k e
                  have hk : k < ρ.length := by
                    have := List.all_eq_true.mp (show (ns.all fun m => decide (m < ρ.length)) = true from hf) k (List.mem_of_getElem? e)
                    exact of_decide_eq_true this
                  refine ⟨b, e1, ?_⟩
                  obtain ⟨r, rfl⟩ := x.pre
                  rw [List.getElem?_append_left hk] at e2
                  exact pre_get (List.prefix_append _ _) e2
                | lst _ => exact q
                | dct _ _ => exact q
                | dead => exact q
            · exact List.getElem?_concat_length
          · exact h2.elim
end
/-! ### what is promised of the i-th def, by the evaluator -/
def spC (P : Program) (w : World) (K : Frag) (tb : List (Addr × Str)) (Xs : Exs) (call : List PV → Heap → Res PV) (np : Nat) : Sp := fun vs H Q E => vs.length = np ∧ ∃ (tv : V) (pvs : List PV) (hp : Heap) (ρ : List Addr), HeapOk P w K tb ρ hp H ∧
  Paired2 (DenP P w K tv ρ H) pvs vs ∧ Fin ⟨P, w, K, tv, XP.no tb⟩ Xs E ρ H (call pvs hp) (fun v ρ' _ H' => ∀ u, DenP P w K tv ρ' H' v u → Q u H')
/-- a def as a body finds it -/
structure Callee (J : Jx) (x : Str) (i np : Nat) : Prop where
  ex : ∃ (k : Nat) (f : Addr) (fd : FuncData) (ps : List Str), Does J.X.prog J.X.w J.X.K J.X.mg J.X.base k f fd ps (spC J.X.prog J.X.w J.X.K J.xp.tb J.Xs (J.g.call i) np) ∧ Fit k J.X.A ∧ J.X.mg x = some (.ref f) ∧ PySem.W.keepIn J.X.K (.ref f) = true ∧ Binds J.X.K fd ps []
section
variable {J : Jx}
theorem run_does {P : Program} {k : Nat} {f : Addr} {fd : FuncData} {ps : List Str} {sp : Sp} {pins : List (Addr × Obj)} {σ : L2.St} {H : Hp} {s : Shared} {Q : VK} {us : List Value} {vs : List V} (ok : J.Ok) (F : Does J.X.prog J.X.w J.X.K J.X.mg J.X.base k f fd ps sp) (hr : Fit k J.X.A) (hb : Binds J.X.K fd ps [])
    (I : Inv J.X pins σ H s) (r : Vals vs us) (h : sp vs H Q J.W) : wpAny (model J.X.prog J.X.w) J.X.A (PySem.call (.ref f) us) (EP J.X pins σ Q) J.X.xe s := by
  have hl : (us ++ ([] : List Value)).length = ps.length := by rw [List.append_nil, ← r.length]; exact F.len _ _ _ _ h
  have b := hb s us I.kIn hl
  rw [List.append_nil] at b
  refine wpAny_call (codeAny_mono (F.run J.X.A J.X.stack s H ⟨us, []⟩ us vs Q J.W hr I.env0 b r h) fun r s' hq => ?_)
  match r, hq with
  | .error e, hq => exact passes_call ok.tk (fun _ _ _ _ h => h) pins σ H s e s' I hq
  | .ok (.ret u), hq => exact I.after hq
  | .ok .next, hq => exact False.elim hq
  | .ok .brk, hq => exact False.elim hq
  | .ok .cont, hq => exact False.elim hq
theorem paired_len {R : PV → V → Prop} {xs : List PV} {us : List V} (h : Paired2 R xs us) : xs.length = us.length := by
  induction h with
  | nil => rfl
  | cons _ _ ih => simp [ih]
theorem je_call {a : Expr} {as : List Expr} {es : List E} {x : Str} {i np : Nat} {p pos : Pos} (ok : J.Ok) (hg : Gl J.X x) (hc : Callee J x i np) (hdb : (x == ("__debug__" : Str)) = false) (ha : JA J (a :: as) es) (hn : (a :: as).length = np) (hlen : es.length = np)
    (hs : starEach (a :: as) J.X.env = (false, eval a J.X.env) :: starEach as J.X.env) (hpl : (backTo pos (starEach as J.X.env)).any (·.1) = false) : JE J (.Call (.Name x p) (a :: as) [] pos) (.call i es) := by
  obtain ⟨k, f, fd, ps, D, hr, hm, hk, hb⟩ := hc.ex
  refine ⟨fun pins s σ H Q I h => ?_⟩
  have R : tEs J es σ H fun us H1 => spC J.X.prog J.X.w J.X.K J.xp.tb J.Xs (J.g.call i) np us H1 Q J.W := by
    obtain ⟨env, hp, ρ, he, hh, f⟩ := h
    unfold evalE at f
    have lenE : ∀ (es : List E) (h : Heap) (vs : List PV) (h' : Heap), evalEs J.g es env h = .ok vs h' → vs.length = es.length := by
      intro es
      induction es with
      | nil => intro h vs h' e; unfold evalEs at e; cases e; rfl
      | cons e es ih =>
        intro h vs h' q
        unfold evalEs at q
        obtain ⟨v, h1, q1, q2⟩ := bind_ok q
        obtain ⟨ws, h2, q3, q4⟩ := bind_ok q2
        cases q4
        simp [ih _ _ _ q3]
    refine ⟨env, hp, ρ, he, hh, ?_⟩
    generalize er : evalEs J.g es env hp = r at f
    cases r with
    | bad => exact f.elim
    | exc c pl h1 => exact f
    | ok vs h1 =>
      intro ρ' H' x y us ds
      have hl := lenE es hp vs h1 er
      rw [Res.bind_ok] at f
      exact ⟨by rw [← paired_len ds, hl, hlen], J.tv, vs, h1, ρ', y, ds, Fin.ext x f⟩
  refine wpAny_Call_Name_kw (ld_glob I hg hm ?_ hdb)
  refine PySem.W.callWith_K (h₀ := J.X.base) I.ok.mod.kin hk (L2.thn (ha.run pos pins s σ H _ I R) fun us s1 ⟨vs, H1, I1, r, q⟩ => ⟨I1.kIn, ?_⟩) hs hpl
  exact run_does (P := J.X.prog) ok D hr hb I1 r q
theorem je_call0 {x : Str} {i : Nat} {p pos : Pos} (ok : J.Ok) (hg : Gl J.X x) (hc : Callee J x i 0) (hdb : (x == ("__debug__" : Str)) = false) : JE J (.Call (.Name x p) [] [] pos) (.call i []) := by
  obtain ⟨k, f, fd, ps, D, hr, hm, hk, hb⟩ := hc.ex
  refine ⟨fun pins s σ H Q I h => ?_⟩
  obtain ⟨env, hp, ρ, he, hh, f1⟩ := h
  unfold evalE evalEs at f1
  refine wpAny_Call_Name_kw (ld_glob I hg hm ?_ hdb)
  exact PySem.W.callWith_K0 I.kIn hk (run_does (P := J.X.prog) (us := []) (vs := []) ok D hr hb I .nil ⟨rfl, J.tv, [], hp, ρ, hh, .nil, f1⟩)
end
/-! ### a def by its body -/
/-- the surroundings of the body of a def at level n + 1 -/
abbrev bodyJ (P : Program) (w : World) (K : Frag) (mg : Str → Option Value) (base : PySem.Heap) (tb : List (Addr × Str)) (Xs : Exs) (N : List Str) (qual : Str) (scope : Scope) (f : Addr) (cdv : Value) (A : Around) (outer : List PySem.Env) (s : Shared) (H : Hp) (E : XK) (g : G) (tv : V) : Jx :=
  ⟨cxOf (L2.CX P w) P w K mg base N qual scope f cdv A outer s H E, g, tv, XP.no tb, Xs, E⟩
theorem start_env {F : Fx} {ρ : List Addr} {H : Hp} {N : List Str} {pvs : List PV} {vs : List V} (d : F.denPs ρ H pvs vs) (hl : vs.length ≤ N.length) : F.env ρ H (pvs.map (fun v => some (.v v)) ++ List.replicate (N.length - pvs.length) none) (L2.start N vs) := by
  have hpl := paired_len d
  refine ⟨by unfold L2.start; simp; omega, fun i n e => ?_⟩
  unfold L2.start
  by_cases hi : i < pvs.length
  · rw [List.getElem?_append_left (by simpa using hi), List.getElem?_map] at e
    rw [List.getElem?_append_left (by simp; omega), List.getElem?_map]
    have get : ∀ {xs : List PV} {us : List V} {i : Nat} {x : PV}, Paired2 (F.denP ρ H) xs us → xs[i]? = some x → ∃ u, us[i]? = some u ∧ F.denP ρ H x u := by
      intro xs us i x h
      induction h generalizing i with
      | nil => intro e; simp at e
      | cons a _ ih =>
        intro e
        cases i with
        | zero => simp at e; subst e; exact ⟨_, rfl, a⟩
        | succ i => simpa using ih (by simpa using e)
    rw [List.getElem?_eq_getElem hi] at e
    simp at e
    obtain ⟨u, h1, h2⟩ := get d (List.getElem?_eq_getElem hi)
    rw [h1]
    refine ⟨u, rfl, ?_⟩
    subst e
    exact h2
  · rw [List.getElem?_append_right (by simp; omega), List.getElem?_replicate] at e
    split at e <;> cases e
theorem does_of {P : Program} {w : World} {K : Frag} {mg : Str → Option Value} {base : PySem.Heap} {tb : List (Addr × Str)} {Xs : Exs} {p : Prog} {n i k : Nat} {d : Def} {f : Addr} {name qual : Str} {params : Arguments} {body : List Stmt} {scope : Scope} {dV kV doc pm cdv ct oc : Value} {an od : Option Addr}
    {osl : Array (Option Value)} {N ps : List Str} (lk : K.lookup f = some ⟨oc, od, .func (PySem.W.fnOf name qual params body scope dV kV doc pm an cdv ct), osl⟩) (hcd : PySem.W.codeIn K cdv qual = true) (S : FnScope N ps scope)
    (hd : p.defs i = some d) (hps : ps.length = d.ps) (hns : N.length = d.ns)
    (hbody : ∀ (A : Around) (outer : List PySem.Env) (s : Shared) (H : Hp) (E : XK) (b : Nat) (tv : V), Fit k (A.deeper (envOfC qual scope s.heap.objs.size f cdv)) →
      (bodyJ P w K mg base tb Xs N qual scope f cdv A outer s H E (gAt p n (fun _ => .bad) b) tv).Ok → JSs (bodyJ P w K mg base tb Xs N qual scope f cdv A outer s H E (gAt p n (fun _ => .bad) b) tv) body d.body) :
    Does P w K mg base (k + 1) f (PySem.W.fnOf name qual params body scope dV kV doc pm an cdv ct) ps (spC P w K tb Xs (callN p (n + 1) i) d.ps) := by
  refine ⟨fun vs H Q E h => by rw [hps]; exact h.1, fun A outer s H args us vs Q E hr e0 hb r hsp => ?_⟩
  obtain ⟨hl0, tv, pvs, hp, ρ, hh, dd, fi⟩ := hsp
  have hl : vs.length = ps.length := by rw [hps]; exact hl0
  have KX : K.In s.heap := e0.mod.kin.keeps fun b o e => (e0.bs b o e).1
  have lim : s.heap.NoLimit := e0.mod.nolimit.keeps fun b o e => (e0.bs b o e).1
  have hkind : ∀ y ∈ ps.zip us, scope.names.lookup y.1 = some .local ∨ (scope.names.lookup y.1 = some .cell ∧ ((cellsFrom (s.heap.objs.size + 1) scope.names []).lookup y.1).isSome = true) := by
    rintro ⟨y, v⟩ hy
    exact (S.par y (List.of_mem_zip hy).1).elim .inl fun q => .inr ⟨q, PySem.W.cellsFrom_some _ _ _ (.inl q)⟩
  refine codeAny_call_function hr.room.depth (KX _ _ lk) rfl S.co S.gen rfl (PySem.W.codeRec_of KX hcd) (hb _ _ _ _ ?_)
  refine wpAny_newFunctionEnv_cells S.kind hkind fun env he s1 x => ?_
  subst he
  refine ⟨lim.keeps x.toInCall.keep, codeAny_func ?_⟩
  have hr' := hr.deeper (envOfC qual scope s.heap.objs.size f cdv)
  have ok : (bodyJ P w K mg base tb Xs N qual scope f cdv A outer s H E (gAt p n (fun _ => .bad) hp.length) tv).Ok :=
    ⟨passes_of rfl, S.nd, hr'.gd, by have := hr'.room.un; show (A.deeper _).units + 200 < cLine; omega, takes_of rfl rfl rfl rfl⟩
  have bd := hbody A outer s H E hp.length tv hr' ok
  have I : Inv (cxOf (L2.CX P w) P w K mg base N qual scope f cdv A outer s H E) [] (L2.start N vs) H s1 := inv_start S hr.room.hd e0 hl r x
  have hlp := paired_len dd
  have hNl : ps.length ≤ N.length := by
    have := congrArg List.length S.pre
    rw [List.length_take] at this
    omega
  have rd : tS1 (bodyJ P w K mg base tb Xs N qual scope f cdv A outer s H E (gAt p n (fun _ => .bad) hp.length) tv) (evalSs (gAt p n (fun _ => .bad) hp.length) d.body) { nx := fun _ H' => Q .non H', rt := Q } (L2.start N vs) H := by
    refine ⟨startEnv d pvs, hp, ρ, ?_, hh, ?_⟩
    · have e1 : startEnv d pvs = pvs.map (fun v => some (.v v)) ++ List.replicate (N.length - pvs.length) none := by
        unfold startEnv
        rw [hns, ← hps, hlp, hl]
      rw [e1]
      exact start_env (F := ⟨P, w, K, tv, XP.no tb⟩) dd (by omega)
    · have e1 : callN p (n + 1) i pvs hp = leave hp.length (fin (evalSs (gAt p n (fun _ => .bad) hp.length) d.body (startEnv d pvs) hp)) := by
        unfold callN
        simp only [hd]
        rw [if_pos (by rw [hlp, hl, hps])]
        rfl
      rw [e1] at fi
      have f1 := Fin.leave (F := ⟨P, w, K, tv, XP.no tb⟩) hh fi
      unfold fin at f1
      refine (Fin.bind f1).mono fun fl ρ1 h1 H1 x1 y1 q => ?_
      cases fl with
      | next env' => exact fun σ' he' => Fin.here q y1 .non (.d .non)
      | ret v => exact fun u du => Fin.here q y1 u du
  refine wpAny_mono (bd.run [] s1 (L2.start N vs) H _ I rd) (fun fl s' hs => ?_) fun e s' hs => hs
  have done : ∀ {σ' : L2.St} {H' : Hp} {v : V} {u : Value}, Inv (cxOf (L2.CX P w) P w K mg base N qual scope f cdv A outer s H E) [] σ' H' s' → RelV v u → Q v H' → CE outer P w H s Q u s' :=
    fun {σ' H' v u} J rv q => ⟨v, H', J.os, J.bare, J.base, J.hok, rv, q⟩
  match fl, hs with
  | .ret u, ⟨v, σ', H', J, rv, q⟩ => exact done J rv q
  | .next, ⟨σ', H', J, q⟩ => exact done (v := V.non) (u := Value.none) J rfl q
  | .brk, ⟨_, _, _, q⟩ => exact False.elim q
  | .cont, ⟨_, _, _, q⟩ => exact False.elim q
/-- at level 0 nothing is promised -/
theorem does_zero {P : Program} {w : World} {K : Frag} {mg : Str → Option Value} {base : PySem.Heap} {tb : List (Addr × Str)} {Xs : Exs} {p : Prog} {i k np : Nat} {f : Addr} {fd : FuncData} {ps : List Str} :
    Does P w K mg base k f fd ps (spC P w K tb Xs (callN p 0 i) np) := by
  have no : ∀ vs H Q E, ¬ spC P w K tb Xs (callN p 0 i) np vs H Q E := fun vs H Q E h => by
    obtain ⟨_, _, _, _, _, _, _, f⟩ := h
    exact f
  exact ⟨fun vs H Q E h => absurd h (no vs H Q E), fun A outer s H args us vs Q E _ _ _ _ h => absurd h (no vs H Q E)⟩
end Ev
end
section
/-! EvLa: lambdas without parameters, or with one that has a number as its default: made. -/
set_option autoImplicit false
set_option linter.all false
set_option maxRecDepth 100000
set_option maxHeartbeats 2000000
set_option Elab.async false
namespace Ev
open PySem PySem.Spec PyProof.Rows L2 LamX

/-- the parameter that has a default, if there is one -/
abbrev Dp := Option (Str × Int)
/-- the parameters' text -/
def paramOf (a : Arguments) : Option Dp := match a with
  | ⟨[], [], none, [], [], none, []⟩ => some none
  | ⟨[], [y], none, [], [], none, [.Constant (.int z) _ _]⟩ => some (some (y.arg, z))
  | _ => none
abbrev laFd (qual : Str) (params : Arguments) (body : Expr) (scope : Scope) (cl : List (Str × Addr)) (dV pm cdv ct : Value) : FuncData :=
  { name := "<lambda>", qualname := qual, params := params, body := .expr body, scope := scope, globals := mainGlobals, closure := cl, defaults := dV, kwdefaults := .none, doc := .none, pyModule := pm, annotations := none, code := cdv, closureTuple := ct, builtins := builtinsNs }
abbrev laObj (qual : Str) (params : Arguments) (body : Expr) (scope : Scope) (cl : List (Str × Addr)) (dV pm cdv ct : Value) : Obj := { cls := .type "function", data := .func (laFd qual params body scope cl dV pm cdv ct) }
/-- what stands behind the defaults -/
def DefAt (h : PySem.Heap) (dV : Value) : Dp → Prop
  | none => dV = .none
  | some (_, z) => ∃ T o t n, dV = .ref T ∧ h.get? T = some o ∧ o.data = .seq #[.int z t] n
theorem DefAt.keeps {h h' : PySem.Heap} {dV : Value} {dp : Dp} (d : DefAt h dV dp) (k : ∀ b o, h.get? b = some o → h'.get? b = some o) : DefAt h' dV dp := by
  cases dp with
  | none => exact d
  | some p =>
    obtain ⟨T, o, t, n, e1, e2, e3⟩ := d
    exact ⟨T, o, t, n, e1, k _ _ e2, e3⟩
def bindsOf (dp : Dp) (t : Tok) : List (Str × Value) := match dp with
  | none => []
  | some (y, z) => [(y, .int z t)]
/-- what is found among the first ones is found among more -/
theorem among_more {pos : Pos} {c : Value} : ∀ (l m : List Value), codeAmong pos l = some c → codeAmong pos (l ++ m) = some c := by
  intro l m
  fun_induction codeAmong pos l with
  | case1 line _ col _ d rest h =>
    intro e
    simp only [List.cons_append, codeAmong, h, if_true]
    exact e
  | case2 line _ col _ d rest h ih =>
    intro e
    simp only [List.cons_append, codeAmong, h]
    exact ih e
  | case3 => intro e; cases e
section
variable {M : Model} {A : Around} {E : Value → Shared → Prop} {s : Shared} {qual : Str} {params : Arguments} {body : Expr} {scope : Scope} {env : PySem.Env} {c P : Addr} {ps : Array Value} {pos : Pos} {firstLine : Nat} {mg : Str → Option Value} {clos : List (Str × Addr)} {dV : Value} {Q : Value → Shared → Prop}
/-- the function object: its code object is new, or found -/
theorem la_tail (hcl : closureFor scope env = pure clos) (hge0 : env.globals = mainGlobals) (hg : s.heap.Ns mainGlobals mg) (hcode : env.code = .ref c) (C : PySem.W.CodeHd s.heap c P) (hP : s.heap.get? P = some (PySem.W.tabObj ps)) (ht : TriplesOk ps.toList) (hgP : mainGlobals ≠ P) (hb : s.heap.BuiltinsAt mg P)
    (hnew : codeAmong pos ps.toList = none → ∀ c' ctv h' tk, Heap.ExtBut P s.heap h' → s.heap.objs.size ≤ c' → c' < h'.objs.size → h'.CodeRec (.ref c') qual → h'.get? P = some (PySem.W.tabObj (ps ++ #[rawInt pos.line, rawInt pos.col, .ref c'])) →
      Q (.ref h'.objs.size) { s with heap := h'.push (laObj qual params body scope clos dV ((mg "__name__").getD .none) (.ref c') ctv), toks := tk })
    (hhit : ∀ cv, codeAmong pos ps.toList = some cv → ∀ (ctv : Value) (h' : PySem.Heap) (tk : Tok), (∀ b o, s.heap.get? b = some o → h'.get? b = some o) → s.heap.objs.size ≤ h'.objs.size →
      Q (.ref h'.objs.size) { s with heap := h'.push (laObj qual params body scope clos dV ((mg "__name__").getD .none) cv ctv), toks := tk }) :
    wpAny M A (makeTail "<lambda>" qual params (.expr body) scope env dV .none none pos firstLine) Q E s := by
  obtain ⟨bm, ob, hbm, hne0, _, hneP, hbo, hcls, hdict, hdata⟩ := hb
  -- behind the closure's tuple, at s1
  have go : ∀ (ctv : Value) (s1 : Shared), s1.gens = s.gens → s1.drawn = s.drawn → s1.os = s.os → (∀ b o, s.heap.get? b = some o → s1.heap.get? b = some o) → s.heap.objs.size ≤ s1.heap.objs.size →
      wpAny M A (do
        let code ← functionCode env pos firstLine "<lambda>" qual params scope (.expr body)
        let bl ← builtinsFor mainGlobals env.builtins
        let m ← nsGet mainGlobals "__name__"
        let doc ← (pure Value.none : Sem Value)
        newObj (.type "function") (.func { name := "<lambda>", qualname := qual, params := params, body := .expr body, scope := scope, globals := mainGlobals, closure := clos, closureTuple := ctv, code := code, builtins := bl, defaults := dV, kwdefaults := .none, annotations := none, pyModule := m.getD .none, doc := doc })) Q E s1 := by
    intro ctv s1 e1 e2 e3 k ksz
    obtain ⟨hp1, g1, d1, t1, o1⟩ := s1
    dsimp only at e1 e2 e3 k ksz
    subst e1 e2 e3
    have C1 := C.keeps k
    have hP1 := k _ _ hP
    cases hc : codeAmong pos ps.toList with
    | none =>
      refine wpAny_bind (wpAny_functionCodeX hcode (C1.code hP1 ht) (C1.tab hP1) hc fun c' h' tk hx hge hlt _ hrec htb _ => ?_)
      have hx' : Heap.ExtBut P s.heap h' := fun b o hb' e => hx b o hb' (k b o e)
      have hg' := hg.extBut hx' hgP
      refine wpAny_bind (wpAny_builtinsFor hg' hbm hne0 (hx' _ _ hneP hbo) hcls hdict hdata ?_)
      refine wpAny_bind (wpAny_nsGet hg' ?_)
      exact wpAny_bind (wpAny_pure (wpAny_newObj_type (hnew hc c' _ h' tk hx' (Nat.le_trans ksz hge) hlt hrec htb.2) (by size_fits)))
    | some cv =>
      refine wpAny_bind (wpAny_functionCode_hit hcode (C1.code hP1 ht) hc ?_)
      have hg' := hg.keeps k
      refine wpAny_bind (wpAny_builtinsFor hg' hbm hne0 (k _ _ hbo) hcls hdict hdata ?_)
      refine wpAny_bind (wpAny_nsGet hg' ?_)
      exact wpAny_bind (wpAny_pure (wpAny_newObj_type (hhit cv hc _ hp1 t1 k ksz) (by size_fits)))
  unfold makeTail
  rw [hcl, hge0]
  refine wpAny_bind (wpAny_pure ?_)
  cases clos with
  | nil =>
    simp only [List.isEmpty_nil, if_true]
    exact wpAny_bind (wpAny_pure (go .none s rfl rfl rfl (fun _ _ e => e) (Nat.le_refl _)))
  | cons q r =>
    simp only [List.isEmpty_cons, Bool.false_eq_true, if_false]
    exact wpAny_bind (wpAny_newTextTuple (go _ _ rfl rfl rfl (fun b o e => Heap.get?_push_of_some _ e) (by show _ ≤ (s.heap.push _).objs.size; rw [Heap.size_push]; omega)))
end

theorem ExtN.tf {H H' : Hp} (e : ExtN H H') : TF H H' := ⟨fun b xs h => e b _ h (fun ps z => nomatch z), fun b o u h => e b _ h (fun ps z => nomatch z)⟩
theorem ExtN.ext {ρ : List Addr} {H H' : Hp} (e : ExtN H H') (t : ∀ b ps, H b = some (.tbl ps) → ∃ ps', H' b = some (.tbl ps')) : Ext ρ ρ H H' :=
  ⟨List.prefix_refl _, ExtN.tf e, fun b o _ h => by
    by_cases z : ∃ ps, o = .tbl ps
    · obtain ⟨ps, rfl⟩ := z
      obtain ⟨ps', h'⟩ := t b ps h
      exact ⟨_, h', fun n => absurd rfl (n ps)⟩
    · exact ⟨o, e b o h fun ps q => z ⟨ps, q⟩, fun _ => rfl⟩, fun _ h n => absurd h n⟩
theorem HeapOk.extN {P : Program} {w : World} {K : Frag} {tb : List (Addr × Str)} {ρ : List Addr} {h : Heap} {H H' : Hp} (y : HeapOk P w K tb ρ h H) (e : ExtN H H') (t : Tabs tb H') : HeapOk P w K tb ρ h H' := by
  refine ⟨t, y.nd, y.len, fun n c a h1 h2 => ?_⟩
  have q := y.at_ n c a h1 h2
  cases c with
  | lst xs =>
    obtain ⟨us, q1, q2⟩ := q
    exact ⟨us, e _ _ q1 (fun ps z => nomatch z), q2.tf (ExtN.tf e)⟩
  | dct ks vs =>
    obtain ⟨q0, o, ws, q1, q2, q3⟩ := q
    exact ⟨q0, o, ws, e _ _ q1 (fun ps z => nomatch z), q2, q3.tf (ExtN.tf e)⟩
  | rws ns =>
    obtain ⟨as, q1, q2, q3⟩ := q
    exact ⟨as, e _ _ q1 (fun ps z => nomatch z), q2, q3⟩
  | dead =>
    obtain ⟨o, u, q1⟩ := q
    exact ⟨o, u, e _ _ q1 (fun ps z => nomatch z)⟩
/-- the defaults' tuple is out of the reach of what is tracked -/
def DefOk (H : Hp) (X : Cx) (dV : Value) : Dp → Prop
  | none => True
  | some _ => ∀ T, dV = .ref T → H T = none ∧ T ∉ frs X.stack
section
variable {X : Cx} {pins : List (Addr × Obj)} {σ : L2.St} {H : Hp} {s : Shared}
theorem nofr (I : Inv X pins σ H s) : ∀ f, s.heap.objs.size ≤ f → f ∉ frs X.stack := fun f hf z => by
  rcases List.mem_cons.mp (I.stkSub _ z) with e | e
  · have h1 := I.lt
    rw [← e] at h1
    exact Nat.lt_irrefl _ (Nat.lt_of_lt_of_le h1 hf)
  · exact I.nofs hf e
/-- the lambda is made -/
theorem la_make0 {tb : List (Addr × Str)} {c P : Addr} {params : Arguments} {body : Expr} {scope : Scope} {pos : Pos} {dp : Dp} {dV : Value} {E : Value → Shared → Prop} {Q : Value → Shared → Prop} (I : Inv X pins σ H s) (TB : TabB X.base X.mg c P) (hcode : X.env.code = .ref c)
    (hm : (P, X.env.qual ++ "<lambda>") ∈ tb) (hu : ∀ p ∈ tb, p.1 = P → p.2 = X.env.qual ++ "<lambda>") (hT : Tabs tb H) (hfree : ∀ y ∈ scope.names, y.2 = .free → ∃ c, X.env.cells.lookup y.1 = some c) (hD : DefAt s.heap dV dp) (hO : DefOk H X dV dp)
    (h : ∀ (f c' : Addr) (pm ctv : Value) (H1 : Hp) (s' : Shared) (ps1 : Array Value), Inv X pins σ H1 s' → ExtN H H1 → (∀ b ps, H b = some (.tbl ps) → ∃ ps', H1 b = some (.tbl ps')) → Tabs tb H1 →
      s'.heap.get? f = some (laObj (X.env.qual ++ "<lambda>") params body scope (cloFrom X.env.cells scope.names []) dV pm (.ref c') ctv) → DefAt s'.heap dV dp → DefOk H1 X dV dp → H1 f = none → f ∉ frs X.stack → H1 P = some (.tbl ps1) → codeAmong pos ps1.toList = some (.ref c') → Q (.ref f) s') :
    wpAny (model X.prog X.w) X.A (makeTail "<lambda>" (X.env.qual ++ "<lambda>") params (.expr body) scope X.env dV .none none pos pos.line) Q E s := by
  obtain ⟨ps, hP, ht, ha⟩ := hT _ hm
  have bP : s.heap.BuiltinsAt X.mg P := TB.bm.keeps I.bk
  have hP' : s.heap.get? P = some { cls := .none, data := .fields ps } := I.hok P _ hP
  refine la_tail (mg := X.mg) (c := c) (P := P) (ps := ps) (closure_ok hfree) I.ok.glob (I.mod.glob.keeps I.bk) hcode (TB.code.keeps I.bk) hP' ht TB.gP bP (fun hc c' ctv h' tk hx hge hlt hrec htb => ?_) (fun cv hc ctv h' tk hx hsz => ?_)
  · obtain ⟨c2, oc, vs, t, e2, hoc, hd, hv⟩ := hrec
    cases e2
    have hsz : s.heap.objs.size ≤ h'.objs.size := Nat.le_trans hge (Nat.le_of_lt hlt)
    have nC : H c' = none := I.hok.fresh hge
    have kN : ∀ b o, b ≠ P → s.heap.get? b = some o → (h'.push (laObj (X.env.qual ++ "<lambda>") params body scope (cloFrom X.env.cells scope.names []) dV ((X.mg "__name__").getD .none) (.ref c') ctv)).get? b = some o := fun b o hb e => Heap.get?_push_of_some _ (hx b o hb e)
    have I1 := inv_table (t' := tk) (q := X.env.qual ++ "<lambda>") (more := #[rawInt pos.line, rawInt pos.col, .ref c']) (h' := h'.push (laObj (X.env.qual ++ "<lambda>") params body scope (cloFrom X.env.cells scope.names []) dV ((X.mg "__name__").getD .none) (.ref c') ctv)) I hP
      kN (Heap.get?_push_of_some _ htb) hge ⟨oc, vs, t, Heap.get?_push_of_some _ hoc, hd, hv⟩
    have hE : ExtN H (upd (upd H P (.tbl (ps ++ #[rawInt pos.line, rawInt pos.col, .ref c']))) c' (CodeO c' (X.env.qual ++ "<lambda>"))) := fun b o e n => by
      rw [upd_ne (ne_of_none e nC), upd_ne (fun z => n ps (Option.some.inj (e.symm.trans (by rw [z]; exact hP))))]
      exact e
    have eL : (ps ++ #[rawInt pos.line, rawInt pos.col, .ref c']).toList = ps.toList ++ [rawInt pos.line, rawInt pos.col, .ref c'] := by simp
    have atP : upd (upd H P (.tbl (ps ++ #[rawInt pos.line, rawInt pos.col, .ref c']))) c' (CodeO c' (X.env.qual ++ "<lambda>")) P = some (.tbl (ps ++ #[rawInt pos.line, rawInt pos.col, .ref c'])) := by rw [upd_ne (ne_of_none hP nC), upd_same]
    refine h h'.objs.size c' ((X.mg "__name__").getD .none) ctv _ _ _ I1 hE (fun b qs e => ?_) (fun p hp => ?_) (Heap.get?_push_size _ rfl) ?_ ?_ ?_ (nofr I _ hsz) atP (by rw [eL]; exact PySem.codeAmong_snoc _ ht hc)
    · by_cases hb : b = P
      · exact ⟨_, by rw [hb]; exact atP⟩
      · exact ⟨qs, by rw [upd_ne (ne_of_none e nC), upd_ne hb]; exact e⟩
    · by_cases hb : p.1 = P
      · rw [hu p hp hb, hb]
        refine ⟨_, atP, by rw [eL]; exact PySem.TriplesOk_snoc _ _ _ _ ht, fun p' cv hcv => ?_⟩
        rw [eL] at hcv
        rcases among_app _ ht hcv with z | z
        · obtain ⟨c0, e1, e2⟩ := ha p' cv z
          exact ⟨c0, e1, hE _ _ e2 codeO_ne⟩
        · exact ⟨c', z, upd_same⟩
      · obtain ⟨ps', a1, a2, a3⟩ := hT p hp
        refine ⟨ps', by rw [upd_ne (ne_of_none a1 nC), upd_ne hb]; exact a1, a2, fun p' cv hcv => ?_⟩
        obtain ⟨c0, e1, e2⟩ := a3 p' cv hcv
        exact ⟨c0, e1, hE _ _ e2 codeO_ne⟩
    · cases dp with
      | none => exact hD
      | some p =>
        obtain ⟨T, o, t', n', e1, e2, e3⟩ := hD
        refine ⟨T, o, t', n', e1, kN T o (fun z => ?_) e2, e3⟩
        rw [z, hP'] at e2
        cases e2
        cases e3
    · cases dp with
      | none => exact trivial
      | some p =>
        intro T e
        obtain ⟨h1, h2⟩ := hO T e
        obtain ⟨T', o, t', n', e1, e2, e3⟩ := hD
        rw [e] at e1
        cases e1
        refine ⟨?_, h2⟩
        rw [upd_ne (fun z => by rw [z] at e2; exact Nat.lt_irrefl _ (Nat.lt_of_lt_of_le (Heap.lt_size e2) hge)), upd_ne (fun z => by rw [z, hP] at h1; cases h1)]
        exact h1
    · have n1 : h'.objs.size ≠ c' := Nat.ne_of_gt hlt
      have n2 : h'.objs.size ≠ P := Nat.ne_of_gt (Nat.lt_of_lt_of_le (Heap.lt_size hP') hsz)
      rw [upd_ne n1, upd_ne n2]
      exact I.hok.fresh hsz
  · obtain ⟨c', e, hco⟩ := ha pos cv hc
    subst e
    have k : ∀ b o, s.heap.get? b = some o → (h'.push (laObj (X.env.qual ++ "<lambda>") params body scope (cloFrom X.env.cells scope.names []) dV ((X.mg "__name__").getD .none) (.ref c') ctv)).get? b = some o := fun b o e => Heap.get?_push_of_some _ (hx b o e)
    have I1 : Inv X pins σ H { s with heap := h'.push (laObj (X.env.qual ++ "<lambda>") params body scope (cloFrom X.env.cells scope.names []) dV ((X.mg "__name__").getD .none) (.ref c') ctv), toks := tk } := I.kept k
    exact h h'.objs.size c' ((X.mg "__name__").getD .none) ctv H _ ps I1 (ExtN.refl H) (fun b qs e => ⟨qs, e⟩) hT (Heap.get?_push_size _ rfl) (hD.keeps k) hO (I.hok.fresh hsz) (nofr I _ hsz) hP hc
theorem la_make {tb : List (Addr × Str)} {c P : Addr} {params : Arguments} {body : Expr} {scope : Scope} {pos : Pos} {dp : Dp} {E : Value → Shared → Prop} {Q : Value → Shared → Prop} (I : Inv X pins σ H s) (TB : TabB X.base X.mg c P) (hcode : X.env.code = .ref c)
    (hm : (P, X.env.qual ++ "<lambda>") ∈ tb) (hu : ∀ p ∈ tb, p.1 = P → p.2 = X.env.qual ++ "<lambda>") (hT : Tabs tb H) (hfree : ∀ y ∈ scope.names, y.2 = .free → ∃ c, X.env.cells.lookup y.1 = some c) (hpar : paramOf params = some dp)
    (h : ∀ (f c' : Addr) (dV pm ctv : Value) (H1 : Hp) (s' : Shared) (ps1 : Array Value), Inv X pins σ H1 s' → ExtN H H1 → (∀ b ps, H b = some (.tbl ps) → ∃ ps', H1 b = some (.tbl ps')) → Tabs tb H1 →
      s'.heap.get? f = some (laObj (X.env.qual ++ "<lambda>") params body scope (cloFrom X.env.cells scope.names []) dV pm (.ref c') ctv) → DefAt s'.heap dV dp → DefOk H1 X dV dp → H1 f = none → f ∉ frs X.stack → H1 P = some (.tbl ps1) → codeAmong pos ps1.toList = some (.ref c') → Q (.ref f) s') :
    wpAny (model X.prog X.w) X.A (eval (.Lambda params body scope pos) X.env) Q E s := by
  rw [arm_eval_Lambda]
  unfold paramOf at hpar
  split at hpar
  · cases hpar
    show wpAny _ _ (do let dv ← evalAll []; let kdv ← holding dv (evalAllOpt []); makeFunction "<lambda>" (X.env.qual ++ "<lambda>") _ (.expr body) scope X.env dv kdv [] pos pos.line) Q E s
    refine wpAny_bind (wpAny_pure (wpAny_bind (wpAny_holding (wpAny_pure ?_))))
    rw [makeFunction_eq]
    simp only [List.zip_nil_right, List.filterMap_nil, List.isEmpty_nil, if_true, pure_bind]
    exact la_make0 (dp := none) I TB hcode hm hu hT hfree rfl trivial fun f c' pm ctv H1 s' ps1 => h f c' .none pm ctv H1 s' ps1
  · rename_i y z k cp
    cases hpar
    show wpAny _ _ (do let dv ← evalAll [eval (.Constant (.int z) k cp) X.env]; let kdv ← holding dv (evalAllOpt []); makeFunction "<lambda>" (X.env.qual ++ "<lambda>") _ (.expr body) scope X.env dv kdv [] pos pos.line) Q E s
    refine wpAny_bind (wpAny_bind (thn ((pe_int (X := X) (i := z) (j := k) (pos := cp)).run pins s σ H (fun v H1 => v = .int z ∧ H1 = H) I ⟨rfl, rfl⟩) fun u s1 ⟨v, H1, I1, r1, ev, eH⟩ => ?_))
    subst ev
    subst eH
    obtain ⟨t, rfl⟩ : ∃ t, u = Value.int z t := r1
    refine wpAny_bind (wpAny_holding (wpAny_pure ?_))
    refine wpAny_pure (wpAny_bind (wpAny_holding (wpAny_pure ?_)))
    rw [makeFunction_eq]
    simp only [List.zip_nil_right, List.filterMap_nil, List.isEmpty_nil, List.isEmpty_cons, Bool.false_eq_true, if_false, if_true, pure_bind]
    refine wpAny_bind (wpAny_newTextTuple ?_)
    obtain ⟨hp, g, d, tk, os⟩ := s1
    have k1 : ∀ b o, hp.get? b = some o → (hp.push { cls := .type "tuple", data := .seq [Value.int z t].toArray }).get? b = some o := fun b o e => Heap.get?_push_of_some _ e
    have I2 : Inv X pins σ H1 ⟨hp.push { cls := .type "tuple", data := .seq [Value.int z t].toArray }, g, d, tk, os⟩ := I1.kept (t' := tk) k1
    refine la_make0 (dp := some (y.arg, z)) I2 TB hcode hm hu hT hfree ⟨_, _, t, _, rfl, Heap.get?_push_at rfl rfl, rfl⟩ (fun T e => ?_) fun f c' pm ctv H1 s' ps1 => h f c' _ pm ctv H1 s' ps1
    cases e
    exact ⟨I1.hok.fresh (Nat.le_refl _), nofr I1 _ (Nat.le_refl _)⟩
  · cases hpar
end
end Ev
end
section
/-! EvLb: lambdas: the body, the call in the def that got it, the def called with a lambda. -/
set_option autoImplicit false
set_option linter.all false
set_option maxRecDepth 100000
set_option maxHeartbeats 2000000
set_option Elab.async false
namespace Ev
open PySem PySem.Spec PyProof.Rows L2 LamX

/-- the lambda's names: its parameter is none of the maker's names -/
structure LaS (N : List Str) (sc scope : Scope) (dp : Dp) : Prop where
  kind : scope.kind = .function
  co : scope.isCoroutine = false
  gen : scope.isGenerator = false
  nocell : ∀ y ∈ scope.names, y.2 ≠ .cell
  loc : ∀ y ∈ scope.names, y.2 = .local → y.1 ∉ N
  free : ∀ y ∈ scope.names, y.2 = .free → sc.names.lookup y.1 = some .cell ∨ sc.names.lookup y.1 = some .free
  par : ∀ y z, dp = some (y, z) → scope.names.lookup y = some .local
def laSB (N : List Str) (sc scope : Scope) (dp : Dp) : Bool :=
  decide (scope.kind = .function) && !scope.isCoroutine && !scope.isGenerator && (scope.names.all fun y => !decide (y.2 = .cell) && (!decide (y.2 = .local) || !N.contains y.1) && (!decide (y.2 = .free) || decide (sc.names.lookup y.1 = some .cell) || decide (sc.names.lookup y.1 = some .free))) &&
    (match dp with | none => true | some p => decide (scope.names.lookup p.1 = some .local))
theorem laS_by {N : List Str} {sc scope : Scope} {dp : Dp} (h : laSB N sc scope dp = true) : LaS N sc scope dp := by
  unfold laSB at h
  simp only [Bool.and_eq_true, Bool.or_eq_true, Bool.not_eq_true', decide_eq_true_eq, decide_eq_false_iff_not, List.all_eq_true] at h
  obtain ⟨⟨⟨⟨h1, h2⟩, h3⟩, h4⟩, h5⟩ := h
  refine ⟨h1, h2, h3, fun y hy => (h4 y hy).1.1, fun y hy e m => ?_, fun y hy e => ?_, fun y z e => ?_⟩
  · rcases (h4 y hy).1.2 with q | q
    · exact q e
    · have : N.contains y.1 = true := by simpa using m
      rw [this] at q; cases q
  · rcases (h4 y hy).2 with (q | q) | q
    · exact absurd e q
    · exact .inl q
    · exact .inr q
  · subst e
    simpa using h5
theorem LaS.has {X : Cx} {N : List Str} {scope : Scope} {dp : Dp} (L : LaS N X.env.scope scope dp) (ok : X.Ok) : ∀ y ∈ scope.names, y.2 = .free → ∃ c, X.env.cells.lookup y.1 = some c := fun y hy e => by
  rcases L.free y hy e with k | k
  · exact ok.has _ (.inl k)
  · exact ok.has _ (.inr k)
section
variable {X : Cx} {pins : List (Addr × Obj)} {σ : L2.St} {H HZ : Hp} {s s1 : Shared}
/-- the body is entered -/
theorem la_start {A : Around} {outer : List PySem.Env} {E : XK} {scope : Scope} {dp : Dp} {f c' : Addr} {h₁ : PySem.Heap} {tk : Nat} {t : Tok} (I : Inv X pins σ H s) (L : LaS X.N X.env.scope scope dp) (e0 : Env0 X.prog X.w X.K X.mg X.base A outer s1 HZ) (hd : A.handled = none)
    (un : Un (frs X.stack) [] H HZ s.heap s1.heap) (hns : h₁.Ns s1.heap.objs.size fun y => (bindsOf dp t).reverse.lookup y) (kp : ∀ b o, s1.heap.get? b = some o → h₁.get? b = some o) :
    Inv (lamCx X A outer s1 HZ E scope f c') [] σ HZ { s1 with heap := h₁, toks := tk } := by
  have hfree := L.has I.ok
  have cm : ∀ {y c}, (cloFrom X.env.cells scope.names []).lookup y = some c → X.env.cells.lookup y = some c := fun {y c} e => by
    rcases cloFrom_mem (PySem.mem_of_lookup e) with hm | ⟨h1, h2⟩
    · cases hm
    · obtain ⟨c1, hc⟩ := hfree _ h1 rfl
      have hc : X.env.cells.lookup y = some c1 := hc
      have e2 : c = c1 := by rw [h2, hc] <;> rfl
      rw [e2]
      exact hc
  have look : ∀ {y}, scope.names.lookup y = some .free → ∃ c, (cloFrom X.env.cells scope.names []).lookup y = some c := fun {y} hl =>
    mem_lookup (cloFrom_has (cells := X.env.cells) (acc := []) (PySem.mem_of_lookup hl))
  have cellK : ∀ {c : Addr} {v : Option Value}, H c = none → s.heap.IsCell c v → h₁.IsCell c v := fun {c v} n ⟨o, ho, hd⟩ => by
    obtain ⟨sl, q⟩ := un.any ho n (by simp)
    exact ⟨_, kp _ _ q, hd⟩
  have noA : ∀ b : Addr, b ∉ (lamCx X A outer s1 HZ E scope f c').ex := fun b z => absurd (show b ∈ ([] : List Addr) from z) (by simp)
  refine ⟨⟨e0.mod, L.kind, rfl, rfl, Nat.le_refl _, fun y z c e1 e2 => I.ok.inj y z c (cm e1) (cm e2), fun y hy => ?_, fun y c z _ => ?_, fun _ => hd, Around.frames_deeper e0.frames, .inr ⟨rfl, rfl⟩, fun b z => absurd z (noA b), e0.bs, e0.bsz, fun b _ _ => noA b,
      fun b z => absurd z (noA b), e0.funs, e0.frf⟩,
    rfl, e0.bare, Un.kept kp, ⟨_, hns, fun i y v e1 e2 e3 => ?_⟩, fun y c e => ?_, e0.hok.fresh (Nat.le_refl _), fun y c e => ?_, fun q hq => absurd (show q ∈ ([] : List (Addr × Obj)) ++ [] from hq) (by simp), e0.hok.kept kp, I.len⟩
  · have hy : scope.names.lookup y = some .cell ∨ scope.names.lookup y = some .free := hy
    rcases hy with hy | hy
    · exact absurd rfl (L.nocell _ (PySem.mem_of_lookup hy))
    · exact look hy
  · have z : false = true := z
    cases z
  · have e3 : Vis scope y := e3
    rcases e3 with k | k | k
    · exact absurd (List.mem_of_getElem? (show X.N[i]? = some y from e1)) (L.loc _ (PySem.mem_of_lookup k) rfl)
    · exact absurd rfl (L.nocell _ (PySem.mem_of_lookup k))
    · obtain ⟨m, hn, hl⟩ := I.loc
      have hvis : Vis X.env.scope y := (L.free _ (PySem.mem_of_lookup k) rfl).elim (fun k => .inr (.inl k)) (fun k => .inr (.inr k))
      obtain ⟨w', r, q⟩ := hl i y v e1 e2 hvis
      obtain ⟨c2, h2⟩ := look k
      refine ⟨w', r, .inr ⟨.inr k, c2, h2, ?_⟩⟩
      have c1 := cm h2
      rcases q with ⟨k', _⟩ | ⟨_, c3, e', z⟩
      · have k' : X.env.scope.names.lookup y = some .local := k'
        rcases L.free _ (PySem.mem_of_lookup k) rfl with k2 | k2 <;> rw [show X.env.scope.names.lookup y = _ from k2] at k' <;> cases k'
      · rw [c1] at e'
        cases e'
        exact cellK (I.freeC y _ c1) z
  · obtain ⟨w', z⟩ := I.cell y c (cm e)
    exact ⟨w', cellK (I.freeC y c (cm e)) z⟩
  · obtain ⟨v, o, ho, hd⟩ := I.cell y c (cm e)
    exact un.free c o ho (I.freeC y c (cm e)) (by simp)
end
/-- the surroundings of the lambda's body -/
abbrev lamJ (J : Jx) (A : Around) (outer : List PySem.Env) (s : Shared) (H : Hp) (E : XK) (scope : Scope) (f c' : Addr) : Jx := ⟨lamCx J.X A outer s H E scope f c', J.g, .ref f, XP.no J.xp.tb, J.Xs, E⟩
/-- the surroundings of a def that got a lambda, within a try too -/
abbrev gotJ (P : Program) (w : World) (K : Frag) (mg : Str → Option Value) (base : PySem.Heap) (tb : List (Addr × Str)) (Xs : Exs) (A : Around) (outer : List PySem.Env) (s : Shared) (H : Hp) (f : Addr) (Ng : List Str) (qg : Str) (sg : Scope) (g : Addr) (cdg : Value) (Eg : XK) (gZ : G)
    (W : XK) (pn : List (Addr × Obj)) (xe : Value → Shared → Prop) : Jx := ⟨(cxOf (L2.CX P w) P w K mg base Ng qg sg g cdg A outer s H Eg).tr pn xe, gZ, .ref f, XP.no tb, Xs, W⟩
/-- the lambda at f does th -/
def ActOk (P : Program) (w : World) (K : Frag) (mg : Str → Option Value) (base : PySem.Heap) (tb : List (Addr × Str)) (Xs : Exs) (k : Nat) (A : Around) (outer : List PySem.Env) (s : Shared) (H : Hp) (f : Addr) (th : Heap → Res PV) : Prop :=
  ∀ (Ng : List Str) (qg : Str) (sg : Scope) (g : Addr) (cdg : Value) (Eg : XK) (gZ : G) (a : Str), gZ.act = th → Ng[0]? = some a → Vis sg a → (a == ("__debug__" : Str)) = false → (a == ("__classdict__" : Str)) = false → Fit (k + 1) (A.deeper (envOfC qg sg s.heap.objs.size g cdg)) →
    ∀ (W : XK) (pn : List (Addr × Obj)) (xe : Value → Shared → Prop), (gotJ P w K mg base tb Xs A outer s H f Ng qg sg g cdg Eg gZ W pn xe).Ok → ∀ p1 p2 : Pos, JE (gotJ P w K mg base tb Xs A outer s H f Ng qg sg g cdg Eg gZ W pn xe) (.Call (.Name a p1) [] [] p2) (.act 0)
theorem bind_one {s1 : Shared} {q : Str} {y : Arg} {z : Int} {cp : Pos} {kn : Nat} {body : Expr} {scope : Scope} {cl : List (Str × Addr)} {dV pm cdv ctv : Value} {T : Addr} {o : Obj} {t : Tok} {n : Nat} (e1 : dV = .ref T) (e2 : s1.heap.get? T = some o) (e3 : o.data = .seq #[.int z t] n) :
    BindsTo s1 (laFd q ⟨[], [y], none, [], [], none, [.Constant (.int z) kn cp]⟩ body scope cl dV pm cdv ctv) ⟨[], []⟩ [(y.arg, .int z t)] := by
  subst e1
  refine BindsTo.of_defaults (T := T) (o := o) (items := #[.int z t]) (n := n) rfl e2 e3 rfl ?_
  obtain ⟨nm, an, ap⟩ := y
  simp [List.lookup]
section
variable {J : Jx}
theorem dataE_get {env : Env} {i : Nat} {n : NV} (h : (dataE env)[i]? = some (some n)) : ∃ x, n = .v (.d x) ∧ env[i]? = some (some (.v (.d x))) := by
  unfold dataE at h
  rw [List.getElem?_map] at h
  cases e : env[i]? with
  | none => rw [e] at h; cases h
  | some o =>
    rw [e] at h
    simp only [Option.map_some, Option.some.injEq] at h
    unfold dataN at h
    split at h
    · cases h; exact ⟨_, rfl, rfl⟩
    · cases h
theorem act_ok {pins : List (Addr × Obj)} {σ : L2.St} {H : Hp} {s : Shared} {params : Arguments} {body : Expr} {scope : Scope} {dp : Dp} {dV pm ctv : Value} {f c' P : Addr} {ps1 : Array Value} {pos : Pos} {ρ : List Addr} {env : Env} {e : E} {k : Nat}
    (ok0 : J.Ok) (I : Inv J.X pins σ H s) (L : LaS J.X.N J.X.env.scope scope dp) (hpar : paramOf params = some dp) (hf : s.heap.get? f = some (laObj (J.X.env.qual ++ "<lambda>") params body scope (cloFrom J.X.env.cells scope.names []) dV pm (.ref c') ctv)) (hD : DefAt s.heap dV dp) (hO : DefOk H J.X dV dp) (hfn : H f = none) (hfr : f ∉ frs J.X.stack)
    (hP : H P = some (.tbl ps1)) (hc : codeAmong pos ps1.toList = some (.ref c')) (hq : (P, J.X.env.qual ++ "<lambda>") ∈ J.xp.tb) (he : J.F.env ρ H env σ)
    (hbody : ∀ (A : Around) (outer : List PySem.Env) (s : Shared) (H : Hp) (E : XK), Fit k (A.deeper (lamEnv J.X scope s.heap.objs.size f c')) → (lamJ J A outer s H E scope f c').Ok → JE (lamJ J A outer s H E scope f c') body e) :
    ActOk J.X.prog J.X.w J.X.K J.X.mg J.X.base J.xp.tb J.Xs k J.X.A J.X.stack s H f (fun h' => evalE J.g e (dataE env) h') := by
  intro Ng qg sg g cdg Eg gZ a hact hN hv hd hcd hr W pn xe ok p1 p2
  refine ⟨fun pinsZ sZ σZ HZ Q IZ h => ?_⟩
  obtain ⟨envZ, hpZ, ρZ, heZ, hhZ, fi⟩ := h
  unfold evalE at fi
  split at fi
  · rename_i e0
    have hs : σZ[0]? = some (some (V.ref f)) := by
      unfold slotOf at e0
      split at e0
      · rename_i v e1
        cases e0
        obtain ⟨u, h1, h2⟩ := heZ.2 0 _ e1
        cases h2
        exact h1
      · cases e0
    rw [show (gotJ J.X.prog J.X.w J.X.K J.X.mg J.X.base J.xp.tb J.Xs J.X.A J.X.stack s H f Ng qg sg g cdg Eg gZ W pn xe).g.act = _ from hact] at fi
    refine wpAny_Call_Name_kw (L2.thn ((pe_var (pos := p1) (i := 0) hN hv hd hcd).run pinsZ sZ σZ HZ (fun v H1 => v = .ref f ∧ H1 = HZ) IZ ⟨.ref f, hs, rfl, rfl⟩) fun u s1 ⟨v, H1, I1, r1, q1⟩ => ?_)
    obtain ⟨ev, eH⟩ := q1
    subst ev
    subst eH
    obtain rfl : u = Value.ref f := r1
    have un : Un (frs J.X.stack) [] H H1 s.heap s1.heap := I1.base
    have of1 : s1.heap.get? f = some (laObj (J.X.env.qual ++ "<lambda>") params body scope (cloFrom J.X.env.cells scope.names []) dV pm (.ref c') ctv) := un.keep f _ hf hfn hfr (fun z => nomatch z)
    refine PySem.W.callWith_F0 ⟨_, _, _, _, of1⟩ ?_
    have tf : TF H H1 := ⟨fun b xs h => un.tups b xs h, fun b o u h => un.frzs b o u h⟩
    obtain ⟨more, hPZ⟩ := un.tbls P ps1 hP
    obtain ⟨psZ, hP2, _, hall⟩ := hhZ.tabs _ hq
    rw [show H1 P = some (.tbl psZ) from hP2] at hPZ
    cases hPZ
    obtain ⟨c2, ec2, hco⟩ := hall pos (.ref c') (by rw [Array.toList_append]; exact among_more _ _ hc)
    cases ec2
    obtain ⟨⟨oc, vs, t, hoc, hdc, hvc⟩, _, _⟩ := I1.hok c' _ hco
    have rc : codeAny (model J.X.prog J.X.w) (J.X.A.deeper (envOfC qg sg s.heap.objs.size g cdg)) (.call (.ref f) ⟨[], []⟩) (CR (L2.CX J.X.prog J.X.w) (envOfC qg sg s.heap.objs.size g cdg :: J.X.stack) J.X.prog J.X.w H1 s1 Q W) s1 := by
      obtain ⟨t0, hb⟩ : ∃ t0, BindsTo s1 (laFd (J.X.env.qual ++ "<lambda>") params body scope (cloFrom J.X.env.cells scope.names []) dV pm (.ref c') ctv) ⟨[], []⟩ (bindsOf dp t0) := by
        unfold paramOf at hpar
        split at hpar
        · cases hpar
          have e : dV = .none := hD
          subst e
          exact ⟨0, .of_eq rfl⟩
        · rename_i y z kk cp
          cases hpar
          obtain ⟨T, o, t, n, e1, e2, e3⟩ := hD
          obtain ⟨n1, n2⟩ := hO T e1
          exact ⟨t, bind_one e1 (un.keep T o e2 n1 n2 (fun z => nomatch z)) e3⟩
        · cases hpar
      refine PySem.W.kla_callFunE hr.room.depth of1 rfl L.co L.gen rfl ⟨c', oc, vs, t, rfl, hoc, hdc, hvc⟩ (hb _ _ _ _ ?_)
      refine wpAny_newFunctionEnv L.nocell (fun y hy => ?_) (fun h₁ hns hsb => ⟨I1.nolimit.fresh _ hsb, ?_⟩) L.kind
      · unfold bindsOf at hy
        split at hy
        · simp at hy
        · rename_i y' z'
          simp at hy
          subst hy
          exact L.par _ _ rfl
      show codeAny _ _ (.expr body (lamEnv J.X scope s1.heap.objs.size f c')) _ _
      have kp : ∀ b o, s1.heap.get? b = some o → h₁.get? b = some o := fun b o e => hsb.extBut b o (Nat.ne_of_lt (Heap.lt_size e)) (Heap.get?_push_of_some _ e)
      have hr' := hr.deeper (lamEnv J.X scope s1.heap.objs.size f c')
      have okL : (lamJ J (J.X.A.deeper (envOfC qg sg s.heap.objs.size g cdg)) (envOfC qg sg s.heap.objs.size g cdg :: J.X.stack) s1 H1 W scope f c').Ok :=
        ⟨passes_of rfl, ok0.nd, hr'.gd, by have := hr'.room.un; show (Around.deeper _ _).units + 200 < cLine; omega, takes_of rfl rfl rfl rfl⟩
      have JL := la_start (E := W) (f := f) (c' := c') (tk := s1.toks + (bindsOf dp t0).length) I L I1.env0 hr.room.hd un hns kp
      refine PySem.W.kla_codeExpr (wpAny_mono ((hbody _ _ s1 H1 W hr' okL).run [] _ _ H1 Q JL ⟨dataE env, hpZ, ρZ, ⟨by unfold dataE; rw [List.length_map]; exact he.1, fun i n e => ?_⟩, hhZ, fi⟩) (fun v s' hq => ?_) fun e s' hq => hq)
      · obtain ⟨x, rfl, e1⟩ := dataE_get e
        obtain ⟨u, h1, h2⟩ := he.2 i _ e1
        cases h2 with
        | d h2 => exact ⟨u, h1, .d (h2.tf tf)⟩
      · obtain ⟨w', H', J', rv, q⟩ := hq
        exact ⟨w', H', J'.os, J'.bare, J'.base, J'.hok, rv, q⟩
    refine wpAny_call (codeAny_mono rc fun r s' hq => ?_)
    cases r with
    | error e => exact passes_call ok.tk (fun _ _ _ _ h => h) pinsZ σZ H1 s1 e s' I1 hq
    | ok fl =>
      cases fl with
      | ret u => exact I1.after hq
      | next => exact False.elim hq
      | brk => exact False.elim hq
      | cont => exact False.elim hq
  · exact fi.elim
/-- what a def does that gets a lambda -/
structure LDoes (P : Program) (w : World) (K : Frag) (mg : Str → Option Value) (base : PySem.Heap) (tb : List (Addr × Str)) (Xs : Exs) (k j : Nat) (g : Addr) (fd : FuncData) (a : Str) (lam : (Heap → Res PV) → Heap → Res PV) : Prop where
  run : ∀ (A : Around) (outer : List PySem.Env) (s : Shared) (H : Hp) (args : Args) (f : Addr) (th : Heap → Res PV) (hp : Heap) (ρ : List Addr) (tv : V) (Q : VK) (E : XK), Fit k A → Env0 P w K mg base A outer s H → BindsTo s fd args [(a, .ref f)] → HeapOk P w K tb ρ hp H →
    ActOk P w K mg base tb Xs j A outer s H f th → Fin ⟨P, w, K, tv, XP.no tb⟩ Xs E ρ H (lam th hp) (fun v ρ' _ H' => ∀ u, DenP P w K tv ρ' H' v u → Q u H') → codeAny (model P w) A (.call (.ref g) args) (CR (L2.CX P w) outer P w H s Q E) s
/-- such a def as a body finds it -/
structure LCallee (J : Jx) (x : Str) (i j : Nat) : Prop where
  ex : ∃ (k : Nat) (g : Addr) (fd : FuncData) (a : Str), LDoes J.X.prog J.X.w J.X.K J.X.mg J.X.base J.xp.tb J.Xs k j g fd a (J.g.lam i) ∧ Fit k J.X.A ∧ J.X.mg x = some (.ref g) ∧ PySem.W.keepIn J.X.K (.ref g) = true ∧ Binds J.X.K fd [a] []
/-- where lambdas are made -/
structure LamAt (J : Jx) : Prop where
  ex : ∃ c P, TabB J.X.base J.X.mg c P ∧ J.X.env.code = .ref c ∧ (P, J.X.env.qual ++ "<lambda>") ∈ J.xp.tb ∧ ∀ p ∈ J.xp.tb, p.1 = P → p.2 = J.X.env.qual ++ "<lambda>"
theorem je_lam {x : Str} {i j : Nat} {p lpos pos : Pos} {params : Arguments} {body : Expr} {scope : Scope} {dp : Dp} {e : E} (ok : J.Ok) (hl : LamAt J) (hc : LCallee J x i j) (hg : Gl J.X x) (hdb : (x == ("__debug__" : Str)) = false) (L : LaS J.X.N J.X.env.scope scope dp) (hpar : paramOf params = some dp)
    (hbody : ∀ (A : Around) (outer : List PySem.Env) (s : Shared) (H : Hp) (E : XK) (f c' : Addr), Fit j (A.deeper (lamEnv J.X scope s.heap.objs.size f c')) → (lamJ J A outer s H E scope f c').Ok → JE (lamJ J A outer s H E scope f c') body e) :
    JE J (.Call (.Name x p) [.Lambda params body scope lpos] [] pos) (.lam i e) := by
  obtain ⟨c, P, TB, hcode, hmT, hu⟩ := hl.ex
  obtain ⟨k, g, fd, a, D, hr, hm, hk, hb⟩ := hc.ex
  refine ⟨fun pins s σ H Q I h => ?_⟩
  obtain ⟨env, hp, ρ, he, hh, fi⟩ := h
  unfold evalE at fi
  refine wpAny_Call_Name_kw (ld_glob I hg hm ?_ hdb)
  refine PySem.W.callWith_K (h₀ := J.X.base) I.ok.mod.kin hk ?_ (by rfl) (by rfl)
  show wpAny _ _ (spliced ((false, eval (.Lambda params body scope lpos) J.X.env) :: backTo pos (starEach [] J.X.env))) _ _ s
  refine Calls.spliced_cons (la_make I TB hcode hmT hu hh.tabs (L.has I.ok) hpar fun f c' dV pm ctv H1 s' ps1 I1 eN tN T1 hf hD hO hfn hfr hP hca => ?_)
  refine Calls.spliced_nil ⟨I1.kIn, ?_⟩
  have X1 : Ext ρ ρ H H1 := ExtN.ext eN tN
  have he1 := J.F.env_ext X1 he
  have act := act_ok (e := e) (k := j) ok I1 L hpar hf hD hO hfn hfr hP hca hmT he1 (fun A outer s H E hr ok => hbody A outer s H E f c' hr ok)
  have b := hb s' [.ref f] I1.kIn rfl
  rw [List.append_nil] at b
  have fi1 := Fin.ext X1 fi
  refine wpAny_call (codeAny_mono (D.run J.X.A J.X.stack s' H1 ⟨[.ref f], []⟩ f _ hp ρ J.tv Q J.W hr I1.env0 b (hh.extN eN T1) act fi1) fun r s2 hq => ?_)
  match r, hq with
  | .error e, hq => exact passes_call ok.tk (fun _ _ _ _ h => h) pins σ H1 s' e s2 I1 hq
  | .ok (.ret u), hq => exact I1.after hq
  | .ok .next, hq => exact False.elim hq
  | .ok .brk, hq => exact False.elim hq
  | .ok .cont, hq => exact False.elim hq
end
theorem leave_thk {n : Nat} {r : Res PV} {h : Heap} : leave n r ≠ .ok .thk h := by
  intro e
  unfold leave at e
  split at e
  · unfold need at e
    split at e
    · unfold leaveV at e
      split at e
      · cases e
      · split at e
        · cases e
        · split at e
          · unfold need at e
            split at e <;> cases e
          · cases e
      · cases e
    · cases e
  · unfold need at e
    split at e <;> cases e
  · cases e
/-- a def that gets a lambda, by its body -/
theorem ldoes_of {P : Program} {w : World} {K : Frag} {mg : Str → Option Value} {base : PySem.Heap} {tb : List (Addr × Str)} {Xs : Exs} {p : Prog} {n i k : Nat} {d : Def} {g : Addr} {name qual : Str} {params : Arguments} {body : List Stmt} {scope : Scope} {dV kV doc pm cdv ct oc : Value} {an od : Option Addr}
    {osl : Array (Option Value)} {N : List Str} {a : Str} (lk : K.lookup g = some ⟨oc, od, .func (PySem.W.fnOf name qual params body scope dV kV doc pm an cdv ct), osl⟩) (hcd : PySem.W.codeIn K cdv qual = true) (S : FnScope N [a] scope)
    (hd : p.defs i = some d) (hps : d.ps = 1) (hns : N.length = d.ns)
    (hbody : ∀ (A : Around) (outer : List PySem.Env) (s : Shared) (H : Hp) (E : XK) (b : Nat) (f : Addr) (th : Heap → Res PV), Fit k (A.deeper (envOfC qual scope s.heap.objs.size g cdv)) → ActOk P w K mg base tb Xs (k - 1) A outer s H f th →
      (bodyJ P w K mg base tb Xs N qual scope g cdv A outer s H E (gAt p n th b) (.ref f)).Ok → JSs (bodyJ P w K mg base tb Xs N qual scope g cdv A outer s H E (gAt p n th b) (.ref f)) body d.body) :
    LDoes P w K mg base tb Xs (k + 1) (k - 1) g (PySem.W.fnOf name qual params body scope dV kV doc pm an cdv ct) a (lamN p (n + 1) i) := by
  refine ⟨fun A outer s H args f th hp ρ tv0 Q E hr e0 hb hh act fi0 => ?_⟩
  have fi : Fin ⟨P, w, K, .ref f, XP.no tb⟩ Xs E ρ H (lamN p (n + 1) i th hp) (fun v ρ' _ H' => ∀ u, DenP P w K (.ref f) ρ' H' v u → Q u H') := by
    revert fi0
    have nt : ∀ h, lamN p (n + 1) i th hp ≠ .ok .thk h := fun h e => by
      unfold lamN at e
      split at e
      · split at e
        · exact leave_thk e
        · cases e
      · cases e
    generalize lamN p (n + 1) i th hp = r at nt
    intro fi0
    cases r with
    | bad => exact fi0.elim
    | exc c pl h' => exact fi0
    | ok v h' =>
      intro ρ' H' x y u du
      cases v with
      | thk => exact absurd rfl (nt h')
      | d v => cases du with | d du => exact fi0 ρ' H' x y u (.d du)
      | ref n => cases du with | ref du => exact fi0 ρ' H' x y _ (.ref du)
  have KX : K.In s.heap := e0.mod.kin.keeps fun b o e => (e0.bs b o e).1
  have lim : s.heap.NoLimit := e0.mod.nolimit.keeps fun b o e => (e0.bs b o e).1
  have hb' : BindsTo s (PySem.W.fnOf name qual params body scope dV kV doc pm an cdv ct) args ([a].zip [.ref f]) := hb
  have hkind : ∀ y ∈ [a].zip [Value.ref f], scope.names.lookup y.1 = some .local ∨ (scope.names.lookup y.1 = some .cell ∧ ((cellsFrom (s.heap.objs.size + 1) scope.names []).lookup y.1).isSome = true) := by
    rintro ⟨y, v⟩ hy
    exact (S.par y (List.of_mem_zip hy).1).elim .inl fun q => .inr ⟨q, PySem.W.cellsFrom_some _ _ _ (.inl q)⟩
  refine codeAny_call_function hr.room.depth (KX _ _ lk) rfl S.co S.gen rfl (PySem.W.codeRec_of KX hcd) (hb' _ _ _ _ ?_)
  refine wpAny_newFunctionEnv_cells S.kind hkind fun env he s1 x => ?_
  subst he
  refine ⟨lim.keeps x.toInCall.keep, codeAny_func ?_⟩
  have hr' := hr.deeper (envOfC qual scope s.heap.objs.size g cdv)
  have ok : (bodyJ P w K mg base tb Xs N qual scope g cdv A outer s H E (gAt p n th hp.length) (.ref f)).Ok :=
    ⟨passes_of rfl, S.nd, hr'.gd, by have := hr'.room.un; show (A.deeper _).units + 200 < cLine; omega, takes_of rfl rfl rfl rfl⟩
  have bd := hbody A outer s H E hp.length f th hr' act ok
  have I : Inv (cxOf (L2.CX P w) P w K mg base N qual scope g cdv A outer s H E) [] (L2.start N [.ref f]) H s1 := inv_start S hr.room.hd e0 rfl (.cons rfl .nil) x
  have hNl : 1 ≤ N.length := by
    have := congrArg List.length S.pre
    rw [List.length_take] at this
    simp at this
    omega
  have rd : tS1 (bodyJ P w K mg base tb Xs N qual scope g cdv A outer s H E (gAt p n th hp.length) (.ref f)) (evalSs (gAt p n th hp.length) d.body) { nx := fun _ H' => Q .non H', rt := Q } (L2.start N [.ref f]) H := by
    refine ⟨startEnv d [.thk], hp, ρ, ?_, hh, ?_⟩
    · have e1 : startEnv d [.thk] = [PV.thk].map (fun v => some (.v v)) ++ List.replicate (N.length - [PV.thk].length) none := by
        unfold startEnv
        rw [hns, hps]
        rfl
      rw [e1]
      exact start_env (F := ⟨P, w, K, .ref f, XP.no tb⟩) (.cons .thk .nil) hNl
    · have e1 : lamN p (n + 1) i th hp = leave hp.length (fin (evalSs (gAt p n th hp.length) d.body (startEnv d [.thk]) hp)) := by
        unfold lamN
        simp only [hd]
        rw [if_pos hps]
        rfl
      rw [e1] at fi
      have f1 := Fin.leave (F := ⟨P, w, K, .ref f, XP.no tb⟩) hh fi
      unfold fin at f1
      refine (Fin.bind f1).mono fun fl ρ1 h1 H1 x1 y1 q => ?_
      cases fl with
      | next env' => exact fun σ' he' => Fin.here q y1 .non (.d .non)
      | ret v => exact fun u du => Fin.here q y1 u du
  refine wpAny_mono (bd.run [] s1 (L2.start N [.ref f]) H _ I rd) (fun fl s' hs => ?_) fun e s' hs => hs
  have done : ∀ {σ' : L2.St} {H' : Hp} {v : V} {u : Value}, Inv (cxOf (L2.CX P w) P w K mg base N qual scope g cdv A outer s H E) [] σ' H' s' → RelV v u → Q v H' → CE outer P w H s Q u s' :=
    fun {σ' H' v u} J rv q => ⟨v, H', J.os, J.bare, J.base, J.hok, rv, q⟩
  match fl, hs with
  | .ret u, ⟨v, σ', H', J, rv, q⟩ => exact done J rv q
  | .next, ⟨σ', H', J, q⟩ => exact done (v := V.non) (u := Value.none) J rfl q
  | .brk, ⟨_, _, _, q⟩ => exact False.elim q
  | .cont, ⟨_, _, _, q⟩ => exact False.elim q
theorem ldoes_zero {P : Program} {w : World} {K : Frag} {mg : Str → Option Value} {base : PySem.Heap} {tb : List (Addr × Str)} {Xs : Exs} {p : Prog} {i k j : Nat} {g : Addr} {fd : FuncData} {a : Str} : LDoes P w K mg base tb Xs k j g fd a (lamN p 0 i) :=
  ⟨fun _ _ _ _ _ _ _ _ _ _ _ _ _ _ _ _ _ fi => fi.elim⟩
end Ev
end
section
/-! EvR: facts about the text's form, as the checker asks for them. -/
set_option autoImplicit false
set_option linter.all false
set_option maxRecDepth 100000
set_option maxHeartbeats 1000000
set_option Elab.async false
namespace Ev
open PySem PySem.Spec PyProof.Rows L2

def notStar : Expr → Bool
  | .Starred _ _ => false
  | _ => true
theorem star_cons {a : Expr} {as : List Expr} {env : PySem.Env} (h : notStar a = true) : starEach (a :: as) env = (false, eval a env) :: starEach as env := by
  cases a <;> (first | (cases h; done) | rfl | simp only [starEach])
theorem star_none {as : List Expr} {env : PySem.Env} {pos : Pos} (h : as.all notStar = true) : (backTo pos (starEach as env)).any (·.1) = false := by
  induction as with
  | nil => first | rfl | simp [starEach, backTo]
  | cons a as ih =>
    simp only [List.all_cons, Bool.and_eq_true] at h
    rw [star_cons h.1]
    have := ih h.2
    unfold backTo at this ⊢
    rw [List.map_cons, List.any_cons, this]
    rfl
theorem few_one {a : Expr} {env : PySem.Env} {pos : Pos} (h : notStar a = true) : ((backTo pos (starEach [a] env)).all (fun x => !x.1) && (backToKw pos (keywordEach [] env)).all (fun x => x.1.isSome)
      && decide (([a] : List Expr).length + ([] : List Keyword).length + (if ([] : List Keyword).isEmpty then 0 else 1) < 30)) = true := by
  rw [star_cons h]
  first
    | rfl
    | simp [starEach, backTo, backToKw, keywordEach]
/-- what is asked for its truth as a value -/
def plainT : Expr → Bool
  | .UnaryOp .Not _ _ => false
  | .BoolOp _ _ _ => false
  | .IfExp _ _ _ _ => false
  | .Compare _ _ _ _ => false
  | _ => true
theorem plain_true {a : Expr} (h : plainT a = true) (env : PySem.Env) (whole : Sem Value) : isTrue a env whole = (do let v ← whole; standAt a.pos; holding [v] (truthy v)) := by
  cases a with
  | UnaryOp op x pos => cases op <;> (first | (cases h; done) | rfl | simp only [isTrue])
  | _ => first | (cases h; done) | rfl | simp only [isTrue]
/-- what is asked for an attribute -/
def baseOk : Expr → Bool
  | .Call _ _ _ _ => false
  | _ => true
theorem base_ok {o : Expr} (h : baseOk o = true) (n : Str) (env : PySem.Env) (whole : Sem Value) : attributeBase o n env whole = whole := by
  cases o <;> (first | (cases h; done) | rfl | simp [attributeBase])
def notSet : Expr → Bool
  | .Set _ _ _ => false
  | _ => true
theorem iter_ok {e : Expr} (h : notSet e = true) (env : PySem.Env) (x : Value) : foldedSetIterable e env x = pure x := by
  cases e <;> (first | (cases h; done) | rfl | simp [foldedSetIterable])
theorem marks_ok {e : Expr} (h : notSet e = true) (op : CmpOp) : behindInMarks op e = false := by
  cases e <;> (first | (cases h; done) | rfl)
def notSlice : Expr → Bool
  | .Slice _ _ _ _ => false
  | _ => true
theorem ix_ok {e : Expr} (h : notSlice e = true) : PlainIx e := by
  intro o i
  cases e <;> (first | (cases h; done) | rfl)
def notComp : Expr → Bool
  | .ListComp _ _ _ _ => false
  | .SetComp _ _ _ _ => false
  | .DictComp _ _ _ _ _ => false
  | _ => true
theorem swaps_ok {e : Expr} (h : notComp e = true) (t : Option Expr) (l : Nat) (env : PySem.Env) : swapsWith e t l env = pure false := by
  cases e <;> (first | (cases h; done) | rfl | simp [swapsWith])
theorem swapsS_ok {e t : Expr} (h : notComp e = true) (l : Nat) (env : PySem.Env) : swapsWithSole [t] e l env = pure false := swaps_ok h _ _ _
def notTup : Expr → Bool
  | .Tuple _ _ _ => false
  | _ => true
theorem stores_ok {e t : Expr} (h : notTup e = true) (env : PySem.Env) : swappedStores [t] e env = pure none := by
  cases t <;> cases e <;> (first | (cases h; done) | rfl | simp [swappedStores])
theorem stores_ok2 {e t : Expr} (h : (match t with | .Tuple _ _ _ => false | .List _ _ => false | _ => true) = true) (env : PySem.Env) : swappedStores [t] e env = pure none := by
  cases t <;> (first | (cases h; done) | rfl | simp [swappedStores])
theorem assign_one {t : Expr} (h : notStar t = true) (env : PySem.Env) : (assignEach [t] env).map (·.2) = [assign t env] := by
  cases t <;> (first | (cases h; done) | rfl | simp [assignEach])
theorem assign_cons {t : Expr} {ts : List Expr} (h : notStar t = true) (env : PySem.Env) : assignEach (t :: ts) env = (false, assign t env) :: assignEach ts env := by
  cases t <;> (first | (cases h; done) | rfl | simp only [assignEach])
theorem assign_len : ∀ {ts : List Expr} (env : PySem.Env), (assignEach ts env).length = ts.length
  | [], _ => by first | rfl | simp [assignEach]
  | t :: ts, env => by
    cases t <;> (simp only [assignEach, List.length_cons]; rw [assign_len env])
theorem assign_none : ∀ {ts : List Expr} (env : PySem.Env), ts.all notStar = true → (assignEach ts env).findIdx? (·.1) = none
  | [], _, _ => by first | rfl | simp [assignEach]
  | t :: ts, env, h => by
    simp only [List.all_cons, Bool.and_eq_true] at h
    rw [assign_cons h.1]
    have := assign_none env h.2
    simp only [List.findIdx?_cons, this]
    rfl
def swapMirror (kd : Str → Option NameKind) (ts vs : List Expr) : Option (Option (List Str)) :=
  if (!(ts.length == 2 || ts.length == 3) || vs.length != ts.length) = true then some none
  else if (vs.any fun | .Starred .. => true | _ => false) = true then some none
  else
    let line := (ts.head?.map (·.pos.line)).getD 0
    let names := ts.filterMap fun
      | .Name id pos => if (kd id == some .local && pos.line == line) = true then some id else none
      | _ => none
    if (names.length != ts.length || names.eraseDups.length != names.length) = true then some none
    else if vs.all (foldedForSure 8) = true then some none
    else if vs.all (constantsAlone 8) = true then none
    else some (some names)
theorem swap_mirror {env : PySem.Env} {ts vs : List Expr} {k k2 : Nat} {p p2 : Pos} {r : Option (List Str)} (hb : env.scope.kind = .function) (h : swapMirror env.kindOf ts vs = some r) : swappedStores [.Tuple ts k p] (.Tuple vs k2 p2) env = pure r := by
  have bk : env.blockKind = .function := by unfold Env.blockKind; rw [hb]; rfl
  unfold swapMirror at h
  unfold swappedStores
  simp only [bk] at h ⊢
  split at h
  · rename_i c
    cases h
    rw [if_pos (by simpa using c)]
  · rename_i c
    rw [if_neg (by simpa using c)]
    split at h
    · rename_i c2
      cases h
      exact if_pos c2
    · rename_i c2
      refine (if_neg c2).trans ?_
      split at h
      · rename_i c3
        cases h
        exact if_pos c3
      · rename_i c3
        refine (if_neg c3).trans ?_
        split at h
        · rename_i c4
          cases h
          exact if_pos c4
        · rename_i c4
          refine (if_neg c4).trans ?_
          split at h
          · cases h
          · rename_i c5
            cases h
            exact (if_neg c5).trans rfl
theorem je_one {J : Jx} {a : Expr} {e : E} {op : BoolOp} {pos : Pos} (h : JE J a e) : JE J (.BoolOp op [a] pos) e := ⟨fun pins s σ H Q I z => h.run pins s σ H Q I z⟩
end Ev
end
section
/-! EvS: the checker: a tree of the text against the evaluator's form. -/
set_option autoImplicit false
set_option linter.all false
set_option maxRecDepth 100000
set_option maxHeartbeats 2000000
set_option Elab.async false
namespace Ev
open PySem PySem.Spec PyProof.Rows L2

/-- what is known where an expression stands -/
structure Ck where
  N : List Str
  sc : Scope
  top : Bool                                -- the body of a def itself, no block
  bl : List Str                             -- built-in names that the module leaves alone
  gl : List (Str × Nat)                     -- constants of the module
  fn : List (Str × Nat × Nat)               -- defs: number, parameters
  act : Option Str := none                  -- the parameter that holds a lambda
  lm : List (Str × Nat) := []               -- defs that get lambdas
/-- how a value is wanted: itself, its truth, as the rest of an and, of an or -/
inductive Md where | val | tst | rand | ror | vand | vor

def kindIs (c : Ck) (x : Str) (k : NameKind) : Bool := match c.sc.names.lookup x with | some k' => k' == k | none => false
def visB (c : Ck) (x : Str) : Bool := kindIs c x .local || kindIs c x .cell || kindIs c x .free
def okName (x : Str) : Bool := !(x == ("__debug__" : Str)) && !(x == ("__classdict__" : Str)) && !(x == ("__name__" : Str))
def glB (c : Ck) (x : Str) : Bool := kindIs c x .globalImplicit && okName x
def nameAt (c : Ck) (i : Nat) (x : Str) : Bool := match c.N[i]? with | some y => x == y | none => false
/-- a name that is stored -/
def stoB (c : Ck) (i : Nat) (x : Str) : Bool := nameAt c i x && (kindIs c x .local || (c.top && kindIs c x .cell))

def fnName : Fn → Str
  | .len => "len"
  | .all => "all"
  | .any => "any"
  | .abs => "abs"
  | .str => "str"
  | .int => "int"
  | .repr => "repr"
  | .tuple => "tuple"
  | .list => "list"
  | .min2 => "min"
  | .max2 => "max"
  | .maxL => "max"
  | .minL => "min"
theorem fn_boot (f : Fn) : bootBuiltins (fnName f) = some (fnV f) := by cases f <;> decide +kernel
def tyN : D.Ty → Str
  | .int => "int"
  | .bool => "bool"
  | .str => "str"
  | .tuple => "tuple"
  | .list => "list"
  | .dict => "dict"
theorem ty_boot (t : D.Ty) : bootBuiltins (tyN t) = some (.type (tyStr t)) := by cases t <;> decide +kernel
theorem isi_boot : bootBuiltins "isinstance" = some (.builtin "isinstance") := by decide +kernel
def bltB (c : Ck) (x : Str) : Bool := glB c x && c.bl.contains x

def litB (d : D) (a : Expr) : Bool :=
  match d, a with
  | .non, .Constant .none _ _ => true
  | .bl b, .Constant (.bool b') _ _ => b == b'
  | .int i, .Constant (.int j) _ _ => i == j
  | .str s, .Constant (.str x) _ _ => decide (x = T s) && decide (s.length ≤ 100000)
  | _, _ => false
def opB (o : BOp) (p : Operator) : Bool :=
  match o, p with
  | .add, .Add => true
  | .sub, .Sub => true
  | .mul, .Mult => true
  | .fdiv, .FloorDiv => true
  | .mod, .Mod => true
  | .pow, .Pow => true
  | _, _ => false
theorem op_ok {o : BOp} {p : Operator} (h : opB o p = true) : p = opOf o := by cases o <;> cases p <;> (first | (cases h; done) | rfl)
def cmB (o : COp) (p : CmpOp) : Bool :=
  match o, p with
  | .eq, .Eq => true
  | .ne, .NotEq => true
  | .lt, .Lt => true
  | .le, .LtE => true
  | .gt, .Gt => true
  | .ge, .GtE => true
  | .is, .Is => true
  | .isNot, .IsNot => true
  | .isin, .In => true
  | .notin, .NotIn => true
  | _, _ => false
theorem cm_ok {o : COp} {p : CmpOp} (h : cmB o p = true) : p = cmpOf o := by cases o <;> cases p <;> (first | (cases h; done) | rfl)
/-- the parts of an and, of an or, by the way it is wanted -/
def andB (m : Md) (as : List Expr) : Option (Expr × Expr × List Expr) :=
  match m, as with
  | .rand, a :: b :: r => some (a, b, r)
  | .vand, a :: b :: r => some (a, b, r)
  | _, [.BoolOp .And (a :: b :: r) _] => some (a, b, r)
  | _, _ => none
def orB (m : Md) (as : List Expr) : Option (Expr × Expr × List Expr) :=
  match m, as with
  | .ror, a :: b :: r => some (a, b, r)
  | .vor, a :: b :: r => some (a, b, r)
  | _, [.BoolOp .Or (a :: b :: r) _] => some (a, b, r)
  | _, _ => none
/-- as a value, or as a truth -/
def Md.isV : Md → Bool
  | .val => true
  | .vand => true
  | .vor => true
  | _ => false
def Md.one (m : Md) : Md := if m.isV then .val else .tst
def Md.and (m : Md) : Md := if m.isV then .vand else .rand
def Md.or (m : Md) : Md := if m.isV then .vor else .ror
/-- a value that is asked for its truth -/
def asV (m : Md) (a : Expr) : Bool := m.isV || plainT a
/-- the name of a call -/
def compOk (c : Ck) (is own : List Nat) : Bool := is.all fun i => own.contains i
/-- a comprehension's names -/
def ownOf (c : Ck) (own : List Nat) : List (Str × Nat) := own.map fun i => (c.N.getD i "", i)
def blkCk (c : Ck) (scope : Scope) : Ck := { c with sc := relS scope c.sc, top := false, act := none }
def lamCk (c : Ck) (scope : Scope) : Ck := { c with sc := scope, top := false, act := none, lm := [] }
def tgNames (c : Ck) : List Nat → List Expr → Bool
  | [], [] => true
  | i :: is, .Name x _ :: ts => stoB c i x && tgNames c is ts
  | _, _ => false
def tgB (c : Ck) (is : List Nat) (t : Expr) : Bool :=
  match is, t with
  | [i], .Name x _ => stoB c i x
  | i :: j :: r, .Tuple ts _ _ => tgNames c (i :: j :: r) ts
  | _, _ => false
/-- the source of a walk, its arguments -/
def walkB (c : Ck) (k : IK) (tg iter : Expr) : Option (List Expr) :=
  match k with
  | .val => some [iter]
  | .rng => match iter with
    | .Call (.Name x _) [a] [] _ => if x == ("range" : Str) && bltB c x && notStar a then some [a] else none
    | _ => none
  | .rng2 => match iter with
    | .Call (.Name x _) [a, b] [] _ => if x == ("range" : Str) && bltB c x && notStar a && notStar b then some [a, b] else none
    | _ => none
  | .enum => match tg, iter with
    | .Tuple _ _ _, .Call (.Name x _) [a] [] _ => if x == ("enumerate" : Str) && bltB c x && notStar a then some [a] else none
    | _, _ => none
  | .zip => match tg, iter with
    | .Tuple _ _ _, .Call (.Name x _) [a, b] [] _ => if x == ("zip" : Str) && bltB c x && notStar a && notStar b then some [a, b] else none
    | _, _ => none
def pairUp : List (Option Expr) → List Expr → Option (List Expr)
  | [], [] => some []
  | some k :: ks, v :: vs => match pairUp ks vs with
    | some r => some (k :: v :: r)
    | none => none
  | _, _ => none

/-! the parts of a tree -/
def pOne (as : List Expr) : Option Expr := match as with | [a] => some a | _ => none
def pName (as : List Expr) : Option Str := match as with | [.Name x _] => some x | _ => none
def pTup (as : List Expr) : Option (List Expr) := match as with | [.Tuple as _ _] => some as | _ => none
def pLst (as : List Expr) : Option (List Expr) := match as with | [.List as _] => some as | _ => none
def pDct (as : List Expr) : Option (List (Option Expr) × List Expr) := match as with | [.Dict ks vs _] => some (ks, vs) | _ => none
def pBin (as : List Expr) : Option (Expr × Operator × Expr) := match as with | [.BinOp a p b _] => some (a, p, b) | _ => none
def pNeg (as : List Expr) : Option Expr := match as with | [.UnaryOp .USub a _] => some a | _ => none
def pNot (as : List Expr) : Option Expr := match as with | [.UnaryOp .Not a _] => some a | _ => none
def pCmp (as : List Expr) : Option (Expr × CmpOp × Expr) := match as with | [.Compare a [p] [b] _] => some (a, p, b) | _ => none
def pChn (as : List Expr) : Option (Expr × CmpOp × Expr × CmpOp × Expr) := match as with | [.Compare a [p1, p2] [b, d] _] => some (a, p1, b, p2, d) | _ => none
def pIfe (as : List Expr) : Option (Expr × Expr × Expr) := match as with | [.IfExp t a b _] => some (t, a, b) | _ => none
def pIdx (as : List Expr) : Option (Expr × Expr) := match as with | [.Subscript a i _] => some (a, i) | _ => none
def pSlL (as : List Expr) : Option (Expr × Expr) := match as with | [.Subscript a (.Slice (some lo) none none _) _] => some (a, lo) | _ => none
def pSlH (as : List Expr) : Option (Expr × Expr) := match as with | [.Subscript a (.Slice none (some hi) none _) _] => some (a, hi) | _ => none
def pSlB (as : List Expr) : Option (Expr × Expr × Expr) := match as with | [.Subscript a (.Slice (some lo) (some hi) none _) _] => some (a, lo, hi) | _ => none
def pRev (as : List Expr) : Option (Expr × Int) := match as with | [.Subscript a (.Slice none none (some (.UnaryOp .USub (.Constant (.int i) _ _) _)) _) _] => some (a, i) | _ => none
def pIsi (as : List Expr) : Option (Str × Expr × Str) := match as with | [.Call (.Name x _) [a, .Name y _] [] _] => some (x, a, y) | _ => none
def pCal (as : List Expr) : Option (Str × List Expr) := match as with | [.Call (.Name x _) as [] _] => some (x, as) | _ => none
def pMt0 (as : List Expr) : Option (Expr × Str × Pos × Pos) := match as with | [.Call (.Attribute o x ap) [] [] cp] => some (o, x, ap, cp) | _ => none
def pMt1 (as : List Expr) : Option (Expr × Str × Pos × Expr × Pos) := match as with | [.Call (.Attribute o x ap) [a] [] cp] => some (o, x, ap, a, cp) | _ => none
def pLc (as : List Expr) : Option (Expr × Expr × Expr × List Expr × Scope) := match as with | [.ListComp elt [⟨tg, iter, ifs, 0⟩] scope _] => some (elt, tg, iter, ifs, scope) | _ => none
def pLc2 (as : List Expr) : Option (Expr × (Expr × Expr × List Expr) × (Expr × Expr × List Expr) × Scope) := match as with
  | [.ListComp elt [⟨tg, iter, ifs, 0⟩, ⟨tg2, iter2, ifs2, 0⟩] scope _] => some (elt, (tg, iter, ifs), (tg2, iter2, ifs2), scope)
  | _ => none
def pLam (as : List Expr) : Option (Str × Arguments × Expr × Scope) := match as with | [.Call (.Name x _) [.Lambda params body scope _] [] _] => some (x, params, body, scope) | _ => none
def pAct (as : List Expr) : Option Str := match as with | [.Call (.Name x _) [] [] _] => some x | _ => none
def withP {α : Type} (o : Option α) (f : α → Bool) : Bool := match o with | some x => f x | none => false

mutual
def chk (c : Ck) (m : Md) : E → List Expr → Bool
  | .slot i, as => withP (pName as) fun x => nameAt c i x && visB c x && okName x
  | .lit d, as => withP (pOne as) fun a => litB d a
  | .glob k, as => withP (pName as) fun x => glB c x && (match c.gl.lookup x with | some k' => k == k' | none => false)
  | .tup es, as => withP (pTup as) fun as => as.all notStar && chks c es as
  | .lst _ es, as => withP (pLst as) fun as => as.all notStar && chks c es as
  | .rws e, as => withP (pLst as) fun as => withP (pOne as) fun a => notStar a && chk c .val e [a]
  | .dct _ es, as => withP (pDct as) fun p => match p.1 with
    | [] => (match p.2 with | [] => es.isEmpty | _ => false)
    | k :: ks => decide ((k :: ks).length ≤ 15) && withP (pairUp (k :: ks) p.2) fun as => chks c es as
  | .bin o e1 e2, as => withP (pBin as) fun p => opB o p.2.1 && chk c .val e1 [p.1] && chk c .val e2 [p.2.2]
  | .catM e1 e2, as => withP (pBin as) fun p => opB .add p.2.1 && chk c .val e1 [p.1] && chk c .val e2 [p.2.2]
  | .neg e, as => withP (pNeg as) fun a => chk c .val e [a]
  | .not e, as => withP (pNot as) fun a => chk c m.one e [a]
  | .cmp o e1 e2, as => withP (pCmp as) fun p => cmB o p.2.1 && notSet p.2.2 && chk c .val e1 [p.1] && chk c .val e2 [p.2.2]
  | .chain o1 o2 e1 e2 e3, as => withP (pChn as) fun p => cmB o1 p.2.1 && cmB o2 p.2.2.2.1 && notSet p.2.2.2.2 && chk c .val e1 [p.1] && chk c .val e2 [p.2.2.1] && chk c .val e3 [p.2.2.2.2]
  | .and e1 e2, as => withP (andB m as) fun p => chk c m.one e1 [p.1] && chk c m.and e2 (p.2.1 :: p.2.2)
  | .or e1 e2, as => withP (orB m as) fun p => chk c m.one e1 [p.1] && chk c m.or e2 (p.2.1 :: p.2.2)
  | .ite e1 e2 e3, as => withP (pIfe as) fun p => m.isV && chk c .tst e1 [p.1] && chk c .val e2 [p.2.1] && chk c .val e3 [p.2.2]
  | .idx e1 e2, as => withP (pIdx as) fun p => notSlice p.2 && chk c .val e1 [p.1] && chk c .val e2 [p.2]
  | .sliL e1 e2, as => withP (pSlL as) fun p => chk c .val e1 [p.1] && chk c .val e2 [p.2]
  | .sliH e1 e2, as => withP (pSlH as) fun p => chk c .val e1 [p.1] && chk c .val e2 [p.2]
  | .sliB e1 e2 e3, as => withP (pSlB as) fun p => chk c .val e1 [p.1] && chk c .val e2 [p.2.1] && chk c .val e3 [p.2.2]
  | .rev e, as => withP (pRev as) fun p => p.2 == 1 && chk c .val e [p.1]
  | .isi e t, as => withP (pIsi as) fun p => p.1 == ("isinstance" : Str) && bltB c p.1 && p.2.2 == tyN t && bltB c p.2.2 && notStar p.2.1 && chk c .val e [p.2.1]
  | .call i es, as => withP (pCal as) fun p => glB c p.1 && withP (c.fn.lookup p.1) (fun q => i == q.1 && p.2.length == q.2 && es.length == q.2) && p.2.all notStar && chks c es p.2
  | .bi f es, as => withP (pCal as) fun p => p.1 == fnName f && bltB c p.1 && !p.2.isEmpty && p.2.all notStar && chks c es p.2
  | .mt k o es, as => match es with
    | [] => withP (pMt0 as) fun p => p.2.1 == mtName k && baseOk p.1 && p.2.2.1.endLine == p.2.2.2.line && chk c .val o [p.1]
    | e :: es => withP (pMt1 as) fun p => es.isEmpty && p.2.1 == mtName k && baseOk p.1 && p.2.2.1.endLine == p.2.2.2.2.line && notStar p.2.2.2.1 && chk c .val o [p.1] && chk c .val e [p.2.2.2.1]
  | .comp _ e own is ik its eifs, as => withP (pLc as) fun p => blkC c.N c.sc p.2.2.2.2 (ownOf c own) && notSet p.2.2.1 && compOk c is own && tgB (blkCk c p.2.2.2.2) is p.2.1 && withP (walkB c ik p.2.1 p.2.2.1) (fun as => as.all notStar && chks c its as) &&
      chkI (blkCk c p.2.2.2.2) eifs p.2.2.2.1 && chk (blkCk c p.2.2.2.2) .val e [p.1]
  | .comp2 mu e own t1 k1 i1 c1 t2 k2 i2 c2, as => withP (pLc2 as) fun p => !mu && blkC c.N c.sc p.2.2.2 (ownOf c own) && notSet p.2.1.2.1 && notSet p.2.2.1.2.1 && compOk c t1 own && compOk c t2 own &&
      tgB (blkCk c p.2.2.2) t1 p.2.1.1 && tgB (blkCk c p.2.2.2) t2 p.2.2.1.1 && withP (walkB c k1 p.2.1.1 p.2.1.2.1) (fun as => as.all notStar && chks c i1 as) && withP (walkB (blkCk c p.2.2.2) k2 p.2.2.1.1 p.2.2.1.2.1) (fun as => as.all notStar && chks (blkCk c p.2.2.2) i2 as) &&
      chkI (blkCk c p.2.2.2) c1 p.2.1.2.2 && chkI (blkCk c p.2.2.2) c2 p.2.2.1.2.2 && chk (blkCk c p.2.2.2) .val e [p.1]
  | .frz e, as => withP (pOne as) fun a => asV m a && chk c .val e [a]
  | .lam i e, as => withP (pLam as) fun p => glB c p.1 && (match c.lm.lookup p.1 with | some i' => i == i' | none => false) && withP (paramOf p.2.1) (fun dp => laSB c.N c.sc p.2.2.2 dp) && chk (lamCk c p.2.2.2) .val e [p.2.2.1]
  | .act i, as => withP (pAct as) fun x => i == 0 && (match c.act with | some y => x == y | none => false)
  | .exf _, _ => false
def chks (c : Ck) : List E → List Expr → Bool
  | [], as => as.isEmpty
  | e :: es, as => match as with
    | [] => false
    | a :: as => chk c .val e [a] && chks c es as
/-- the tests of a clause: none or one -/
def chkI (c : Ck) : List E → List Expr → Bool
  | [], as => as.isEmpty
  | e :: es, as => es.isEmpty && withP (pOne as) fun a => chk c .tst e [a]
end
end Ev
end
section
/-! EvT: what the checker tells is so. -/
set_option autoImplicit false
set_option linter.all false
set_option maxRecDepth 100000
set_option maxHeartbeats 2000000
set_option Elab.async false
namespace Ev
open PySem PySem.Spec PyProof.Rows L2

/-- the lambda that was handed over, called -/
def ActIn (J : Jx) (a : Str) : Prop := ∀ (W : Value → Option Addr → Hp → Prop) (pn : List (Addr × Obj)) (xe : Value → Shared → Prop), ({ J with X := J.X.tr pn xe, W := W } : Jx).Ok → ∀ p1 p2 : Pos, JE { J with X := J.X.tr pn xe, W := W } (.Call (.Name a p1) [] [] p2) (.act 0)
/-- a def, as a lambda finds it -/
structure CalleeL (J : Jx) (j : Nat) (x : Str) (i np : Nat) : Prop where
  ex : ∃ (k : Nat) (f : Addr) (fd : FuncData) (ps : List Str), Does J.X.prog J.X.w J.X.K J.X.mg J.X.base k f fd ps (spC J.X.prog J.X.w J.X.K J.xp.tb J.Xs (J.g.call i) np) ∧ k ≤ j ∧ J.X.mg x = some (.ref f) ∧ PySem.W.keepIn J.X.K (.ref f) = true ∧ Binds J.X.K fd ps []
/-- what stands around is as the checker was told -/
structure JCk (J : Jx) (c : Ck) : Prop where
  ok : J.Ok
  calm : J.X.calm = true
  kd : J.X.env.scope.kind = .function
  N : J.X.N = c.N
  sc : J.X.env.scope = c.sc
  top : c.top = true → ∀ x, J.X.fn x = true
  bl : ∀ x, c.bl.contains x = true → J.X.mg x = none
  gl : ∀ x k, c.gl.lookup x = some k → GlobOk J k x
  fn : ∀ x i np, c.fn.lookup x = some (i, np) → Callee J x i np
  act : ∀ a, c.act = some a → ActIn J a
  lam : ∀ x i, c.lm.lookup x = some i → LamAt J ∧ ∃ j, LCallee J x i j ∧ ∀ y i' np, c.fn.lookup y = some (i', np) → CalleeL J j y i' np
section
variable {J : Jx} {c : Ck}
theorem kind_is {x : Str} {k : NameKind} (h : JCk J c) (q : kindIs c x k = true) : J.X.env.scope.names.lookup x = some k := by
  unfold kindIs at q
  rw [h.sc]
  split at q
  · rename_i k' e
    rw [e]
    cases k' <;> cases k <;> (first | (cases q; done) | rfl)
  · cases q
theorem vis_is {x : Str} (h : JCk J c) (q : visB c x = true) : Vis J.X.env.scope x := by
  unfold visB at q
  simp only [Bool.or_eq_true] at q
  rcases q with (q | q) | q
  · exact .inl (kind_is h q)
  · exact .inr (.inl (kind_is h q))
  · exact .inr (.inr (kind_is h q))
theorem ok_name {x : Str} (q : okName x = true) : (x == ("__debug__" : Str)) = false ∧ (x == ("__classdict__" : Str)) = false ∧ x ≠ "__name__" := by
  unfold okName at q
  simp only [Bool.and_eq_true, Bool.not_eq_true'] at q
  exact ⟨q.1.1, q.1.2, fun e => by rw [e] at q; simp at q⟩
theorem gl_is {x : Str} (h : JCk J c) (q : glB c x = true) : Gl J.X x ∧ (x == ("__debug__" : Str)) = false ∧ x ≠ "__name__" := by
  unfold glB at q
  simp only [Bool.and_eq_true] at q
  obtain ⟨a, _, b⟩ := ok_name q.2
  exact ⟨kind_is h q.1, a, b⟩
theorem blt_is {x : Str} {u : Value} (h : JCk J c) (q : bltB c x = true) (hb : bootBuiltins x = some u) : Blt J x u := by
  unfold bltB at q
  simp only [Bool.and_eq_true] at q
  obtain ⟨a, b, d⟩ := gl_is h q.1
  exact ⟨a, h.bl x q.2, hb, d, b⟩
theorem name_at {i : Nat} {x : Str} (h : JCk J c) (q : nameAt c i x = true) : J.X.N[i]? = some x := by
  unfold nameAt at q
  rw [h.N]
  split at q
  · rename_i y e
    rw [e, eq_of_beq q]
  · cases q
theorem sto_is {i : Nat} {x : Str} (h : JCk J c) (q : stoB c i x = true) : J.X.N[i]? = some x ∧ Loc J.X.env.scope x ∧ (J.X.fn x = true ∨ J.X.env.scope.names.lookup x = some .local) := by
  unfold stoB at q
  simp only [Bool.and_eq_true, Bool.or_eq_true] at q
  obtain ⟨a, b | ⟨b, d⟩⟩ := q
  · exact ⟨name_at h a, .inl (kind_is h b), .inr (kind_is h b)⟩
  · exact ⟨name_at h a, .inr (kind_is h d), .inl (h.top b x)⟩
theorem lit_is {d : D} {a : Expr} (q : litB d a = true) : JE J a (.lit d) ∧ plainT a = true := by
  unfold litB at q
  split at q
  · exact ⟨je_none, rfl⟩
  · rw [eq_of_beq q]; exact ⟨je_bool, rfl⟩
  · rw [eq_of_beq q]; exact ⟨je_int, rfl⟩
  · simp only [Bool.and_eq_true, decide_eq_true_eq] at q
    exact ⟨je_str q.1 (by rw [sizeLine_eq]; omega), rfl⟩
  · cases q
/-- what an expression means, by the way it is wanted -/
def Mean (J : Jx) (m : Md) (e : E) (as : List Expr) : Prop :=
  match m with
  | .val => ∃ a, as = [a] ∧ JE J a e
  | .tst => ∃ a, as = [a] ∧ JT J a e
  | .rand => ∀ pos, JW J (.BoolOp .And as pos) e
  | .ror => ∀ pos, JW J (.BoolOp .Or as pos) e
  | .vand => ∀ pos, JE J (.BoolOp .And as pos) e
  | .vor => ∀ pos, JE J (.BoolOp .Or as pos) e
theorem mean_b {m : Md} {a : Expr} {e : E} (h1 : m.isV = true → JE J a e) (h2 : m.isV = false → JT J a e) : Mean J m e [a] := by
  cases m
  · exact ⟨a, rfl, h1 rfl⟩
  · exact ⟨a, rfl, h2 rfl⟩
  · exact fun pos => jw_one (h2 rfl) false
  · exact fun pos => jw_one (h2 rfl) true
  · exact fun pos => je_one (h1 rfl)
  · exact fun pos => je_one (h1 rfl)
theorem mean_v {m : Md} {a : Expr} {e : E} (h : JE J a e) (hp : plainT a = true) : Mean J m e [a] := mean_b (fun _ => h) fun _ => jt_of h fun whole => plain_true hp _ whole
theorem mean_val {a : Expr} {e : E} (h : Mean J .val e [a]) : JE J a e := by
  obtain ⟨b, e1, h⟩ := h
  cases e1
  exact h
theorem mean_tst {a : Expr} {e : E} (h : Mean J .tst e [a]) : JT J a e := by
  obtain ⟨b, e1, h⟩ := h
  cases e1
  exact h
theorem mean_oneV {m : Md} {a : Expr} {e : E} (h : Mean J m.one e [a]) (hm : m.isV = true) : JE J a e := by
  unfold Md.one at h
  rw [if_pos hm] at h
  exact mean_val h
theorem mean_oneT {m : Md} {a : Expr} {e : E} (h : Mean J m.one e [a]) (hm : m.isV = false) : JT J a e := by
  unfold Md.one at h
  rw [if_neg (by rw [hm]; decide)] at h
  exact mean_tst h
theorem mean_and {m : Md} {as : List Expr} {a b : Expr} {r : List Expr} {e1 e2 : E} (q : andB m as = some (a, b, r)) (h1 : Mean J m.one e1 [a]) (h2 : Mean J m.and e2 (b :: r)) : Mean J m (.and e1 e2) as := by
  have v : m.isV = true → ∀ pos, JE J (.BoolOp .And (a :: b :: r) pos) (.and e1 e2) := fun hm pos => by
    unfold Md.and at h2
    rw [if_pos hm] at h2
    exact je_and (mean_oneV h1 hm) (h2 pos)
  have t : m.isV = false → ∀ pos, JW J (.BoolOp .And (a :: b :: r) pos) (.and e1 e2) := fun hm pos => by
    unfold Md.and at h2
    rw [if_neg (by rw [hm]; decide)] at h2
    exact jw_and (mean_oneT h1 hm) (h2 pos)
  unfold andB at q
  split at q
  · cases q; exact t rfl
  · cases q; exact v rfl
  · cases q; exact mean_b (fun hm => v hm _) fun hm => (t hm _).pt
  · cases q
theorem mean_or {m : Md} {as : List Expr} {a b : Expr} {r : List Expr} {e1 e2 : E} (q : orB m as = some (a, b, r)) (h1 : Mean J m.one e1 [a]) (h2 : Mean J m.or e2 (b :: r)) : Mean J m (.or e1 e2) as := by
  have v : m.isV = true → ∀ pos, JE J (.BoolOp .Or (a :: b :: r) pos) (.or e1 e2) := fun hm pos => by
    unfold Md.or at h2
    rw [if_pos hm] at h2
    exact je_or (mean_oneV h1 hm) (h2 pos)
  have t : m.isV = false → ∀ pos, JW J (.BoolOp .Or (a :: b :: r) pos) (.or e1 e2) := fun hm pos => by
    unfold Md.or at h2
    rw [if_neg (by rw [hm]; decide)] at h2
    exact jw_or (mean_oneT h1 hm) (h2 pos)
  unfold orB at q
  split at q
  · cases q; exact t rfl
  · cases q; exact v rfl
  · cases q; exact mean_b (fun hm => v hm _) fun hm => (t hm _).pt
  · cases q
/-! ### targets, walks -/
theorem jgs_is : ∀ {is : List Nat} {ts : List Expr}, JCk J c → tgNames c is ts = true → JGs J ts is
  | [], [], _, _ => jgs_nil
  | [], _ :: _, _, q => by simp [tgNames] at q
  | _ :: _, [], _, q => by simp [tgNames] at q
  | i :: is, t :: ts, h, q => by
    cases t <;> simp only [tgNames, Bool.false_eq_true] at q
    simp only [Bool.and_eq_true] at q
    obtain ⟨a, b, d⟩ := sto_is h q.1
    refine jgs_cons h.ok a b d (jgs_is h q.2) ?_
    rw [assign_cons rfl]
    rfl
theorem tg_names_len : ∀ {is : List Nat} {ts : List Expr}, tgNames c is ts = true → ts.length = is.length ∧ ts.all notStar = true
  | [], [], _ => ⟨rfl, rfl⟩
  | [], _ :: _, q => by simp [tgNames] at q
  | _ :: _, [], q => by simp [tgNames] at q
  | i :: is, t :: ts, q => by
    cases t <;> simp only [tgNames, Bool.false_eq_true] at q
    simp only [Bool.and_eq_true] at q
    obtain ⟨a, b⟩ := tg_names_len q.2
    exact ⟨by simp [a], by simp [b, notStar]⟩
theorem jg_is {is : List Nat} {t : Expr} (h : JCk J c) (q : tgB c is t = true) : JG J t is := by
  unfold tgB at q
  split at q
  · obtain ⟨a, b, d⟩ := sto_is h q
    exact jg_name h.ok a b d
  · obtain ⟨a, b⟩ := tg_names_len q
    exact jg_tup h.calm (jgs_is h q) (by rw [assign_len, a]; rfl) (assign_none _ b)
  · cases q
theorem walk_is {k : IK} {tg iter : Expr} {as : List Expr} {its : List E} (h : JCk J c) (q : walkB c k tg iter = some as) (ha : as.all notStar = true → JA J as its) (hv : k = .val → ∃ e, its = [e] ∧ JE J iter e) (hl : its.length = as.length) : JI J tg iter k its := by
  cases k
  · obtain ⟨e, rfl, he⟩ := hv rfl
    exact ji_val he
  · unfold walkB at q
    simp only at q
    split at q
    · split at q <;> cases q
      rename_i x p a pos hc
      simp only [Bool.and_eq_true] at hc
      obtain ⟨⟨e1, hb⟩, hs⟩ := hc
      have e2 := eq_of_beq e1
      subst e2
      have B := blt_is h hb PyProof.Rows.boot_range
      match its, hl with
      | [e], _ => exact ji_rng B.gl B.mg (ha (by simp [hs])) (by rw [star_cons hs]; first | rfl | simp [starEach])
    · cases q
  · unfold walkB at q
    simp only at q
    split at q
    · split at q <;> cases q
      rename_i x p a b pos hc
      simp only [Bool.and_eq_true] at hc
      obtain ⟨⟨⟨e1, hb⟩, hs⟩, hs2⟩ := hc
      have e2 := eq_of_beq e1
      subst e2
      have B := blt_is h hb PyProof.Rows.boot_range
      match its, hl with
      | [e, e'], _ => exact ji_rng2 B.gl B.mg (ha (by simp [hs, hs2])) (by rw [star_cons hs, star_cons hs2]; first | rfl | simp [starEach]) (by rw [star_cons hs2]; first | rfl | simp [starEach])
    · cases q
  · unfold walkB at q
    simp only at q
    split at q
    · split at q <;> cases q
      rename_i x p a pos hc
      simp only [Bool.and_eq_true] at hc
      obtain ⟨⟨e1, hb⟩, hs⟩ := hc
      have e2 := eq_of_beq e1
      subst e2
      have B := blt_is h hb PyProof.Rows.boot_enumerate
      match its, hl with
      | [e], _ => exact ji_enum B.gl B.mg (ha (by simp [hs])) (by rw [star_cons hs]; first | rfl | simp [starEach])
    · cases q
  · unfold walkB at q
    simp only at q
    split at q
    · split at q <;> cases q
      rename_i x p a b pos hc
      simp only [Bool.and_eq_true] at hc
      obtain ⟨⟨⟨e1, hb⟩, hs⟩, hs2⟩ := hc
      have e2 := eq_of_beq e1
      subst e2
      have B := blt_is h hb PyProof.Rows.boot_zip
      match its, hl with
      | [e, e'], _ => exact ji_zip B.gl B.mg (ha (by simp [hs, hs2])) (star_cons hs) (star_none (by simp [hs2]))
    · cases q
theorem jck_blk {scope : Scope} (h : JCk J c) (hk : scope.kind = .function) (s : Shared) (H : Hp) (C : Addr) (cl : List (Str × Addr)) (fp : List Addr) : JCk (J.blkC scope s H C cl fp) (blkCk c scope) where
  ok := ⟨fun _ _ z => z.elim, h.ok.nd, h.ok.guards, h.ok.units, takes_none5⟩
  calm := h.calm
  kd := hk
  N := h.N
  sc := by
    show relS scope J.X.env.scope = relS scope c.sc
    rw [h.sc]
  top := fun z => nomatch z
  bl := h.bl
  gl := h.gl
  fn := fun x i np e => by
    obtain ⟨k, f, fd, ps, D, a, b, d, g⟩ := (h.fn x i np e).ex
    exact ⟨k, f, fd, ps, D, a, b, d, g⟩
  act := fun a e => by cases e
  lam := fun x i e => by
    obtain ⟨⟨c, P, a1, a2, a3, a4⟩, j, ⟨k, g, fd, a, b1, b2, b3, b4, b5⟩, hc⟩ := h.lam x i e
    refine ⟨⟨c, P, a1, a2, a3, a4⟩, j, ⟨k, g, fd, a, b1, b2, b3, b4, b5⟩, fun y i' np e => ?_⟩
    obtain ⟨k, f, fd, ps, D, a, b, d, g⟩ := (hc y i' np e).ex
    exact ⟨k, f, fd, ps, D, a, b, d, g⟩
theorem jck_lam {scope : Scope} {dp : Dp} {x : Str} {i : Nat} (h : JCk J c) (hx : c.lm.lookup x = some i) (L : LaS J.X.N J.X.env.scope scope dp) {j : Nat} (hc : ∀ y i' np, c.fn.lookup y = some (i', np) → CalleeL J j y i' np) (A : Around) (outer : List PySem.Env) (s : Shared) (H : Hp) (E : XK) (f c' : Addr)
    (hr : Fit j (A.deeper (LamX.lamEnv J.X scope s.heap.objs.size f c'))) (ok : (lamJ J A outer s H E scope f c').Ok) : JCk (lamJ J A outer s H E scope f c') (lamCk c scope) where
  ok := ok
  calm := rfl
  kd := L.kind
  N := h.N
  sc := rfl
  top := fun z => nomatch z
  bl := h.bl
  gl := h.gl
  fn := fun x i np e => by
    obtain ⟨k, f, fd, ps, D, a, b, d, g⟩ := (hc x i np e).ex
    exact ⟨k, f, fd, ps, D, hr.mono a, b, d, g⟩
  act := fun a e => by cases e
  lam := fun x i e => by
    have e : (lamCk c scope).lm.lookup x = some i := e
    simp [lamCk] at e
def gsOf : List Nat → TGs
  | [] => gNil
  | i :: is => gCons (gName i) (gsOf is)
def gOf (K : Frag) : List Nat → TG
  | [i] => gName i
  | is => gTup K is.length (gsOf is)
theorem pgs_is : ∀ {is : List Nat} {ts : List Expr}, JCk J c → tgNames c is ts = true → PGs J.X ts (gsOf is)
  | [], [], _, _ => pgs_nil
  | [], _ :: _, _, q => by simp [tgNames] at q
  | _ :: _, [], _, q => by simp [tgNames] at q
  | i :: is, t :: ts, h, q => by
    cases t <;> simp only [tgNames, Bool.false_eq_true] at q
    simp only [Bool.and_eq_true] at q
    obtain ⟨a, b, d⟩ := sto_is h q.1
    refine pgs_cons (pg_name h.ok.nd a b d) (pgs_is h q.2) ?_
    rw [assign_cons rfl]
    rfl
theorem pg_is {is : List Nat} {t : Expr} (h : JCk J c) (q : tgB c is t = true) : PG J.X t (gOf J.X.K is) := by
  unfold tgB at q
  split at q
  · obtain ⟨a, b, d⟩ := sto_is h q
    exact pg_name h.ok.nd a b d
  · obtain ⟨a, b⟩ := tg_names_len q
    exact pg_tup h.calm (pgs_is h q) (by rw [assign_len, a]) (assign_none _ b)
  · cases q
theorem gs_does {F : Fx} : ∀ (is : List Nat) (env env' : Env) (σ : L2.St) (H : Hp) (ρ : List Addr) (xs : List D) (us : List V) (Q : L2.St → Hp → Prop), F.env ρ H env σ → F.dens H xs us → setEnvs env is xs = some env' →
    (∀ σ', F.env ρ H env' σ' → (∀ j, j ∉ is → σ'[j]? = σ[j]?) → Q σ' H) → gsOf is us σ H Q
  | [], env, env', σ, H, ρ, xs, us, Q, he, d, e, q => by
    cases xs with
    | nil => cases d; cases e; exact ⟨rfl, q _ he fun _ _ => rfl⟩
    | cons _ _ => simp [setEnvs] at e
  | i :: is, env, env', σ, H, ρ, xs, us, Q, he, d, e, q => by
    cases xs with
    | nil => simp [setEnvs] at e
    | cons y ys =>
      cases d with
      | cons d ds => exact ⟨_, _, rfl, gs_does is _ env' _ H ρ ys _ Q (env_set he (.d d)) ds e fun σ' h1 h2 => q σ' h1 fun j hj => by
          rw [List.mem_cons, not_or] at hj
          rw [h2 j hj.2, List.getElem?_set_ne (Ne.symm hj.1)]⟩
theorem g_does {F : Fx} (is : List Nat) (hn : is ≠ []) (env env' : Env) (σ : L2.St) (H : Hp) (ρ : List Addr) (x : D) (u : V) (Q : L2.St → Hp → Prop) (he : F.env ρ H env σ) (d : F.den H x u) (e : setTg env is x = some env')
    (q : ∀ σ', F.env ρ H env' σ' → (∀ j, j ∉ is → σ'[j]? = σ[j]?) → Q σ' H) : gOf F.K is u σ H Q := by
  match is, hn with
  | [i], _ =>
    cases e
    exact q _ (env_set he (.d d)) fun j hj => by rw [List.getElem?_set_ne]; exact fun z => hj (by simp [z])
  | i :: j :: is, _ =>
    cases x <;> simp only [setTg] at e <;> (first | (cases e; done) | skip)
    cases d with
    | @tup a us _ hs ds =>
      refine ⟨a, us, rfl, hs, ?_, gs_does _ env env' σ H ρ _ us Q he ds e q⟩
      obtain ⟨σ', _, h2, _⟩ := env_sets he ds e
      exact h2.symm
theorem jgc_is {scope : Scope} {is : List Nat} {t : Expr} (h : JCk J c) (hk : scope.kind = .function) (q : tgB (blkCk c scope) is t = true) : JGc J scope t is := by
  have hn : is ≠ [] := fun z => by subst z; simp [tgB] at q
  exact ⟨gOf J.X.K is, fun s H C cl fp => pg_is (jck_blk h hk s H C cl fp) q, fun env env' σ H ρ x u Q he d e k => g_does (F := J.F) is hn env env' σ H ρ x u Q he d e k⟩
theorem blk_is {scope : Scope} {own : List Nat} (h : JCk J c) (q : blkC c.N c.sc scope (ownOf c own) = true) : BlkOk J.X.N J.X.env.scope scope (ownOf c own) := by
  rw [h.N, h.sc]
  exact blkOk_by q
theorem own_ix (c : Ck) (own : List Nat) : (ownOf c own).map (·.2) = own := by
  unfold ownOf
  rw [List.map_map]
  induction own with
  | nil => rfl
  | cons i is ih => rw [List.map_cons, ih]; rfl
theorem comp_sub {is own : List Nat} (q : compOk c is own = true) : ∀ j ∈ is, j ∈ own := fun j hj => by
  unfold compOk at q
  have := List.all_eq_true.mp q j hj
  simpa using this
end
/-! ### soundness -/
theorem with_some {α : Type} {o : Option α} {f : α → Bool} (h : withP o f = true) : ∃ x, o = some x ∧ f x = true := by
  cases o with
  | none => cases h
  | some x => exact ⟨x, rfl, h⟩
theorem pOne_s {as : List Expr} {a : Expr} (h : pOne as = some a) : as = [a] := by unfold pOne at h; split at h <;> cases h; rfl
theorem pName_s {as : List Expr} {x : Str} (h : pName as = some x) : ∃ p, as = [.Name x p] := by unfold pName at h; split at h <;> cases h; exact ⟨_, rfl⟩
theorem pTup_s {as xs : List Expr} (h : pTup as = some xs) : ∃ k p, as = [.Tuple xs k p] := by unfold pTup at h; split at h <;> cases h; exact ⟨_, _, rfl⟩
theorem pLst_s {as xs : List Expr} (h : pLst as = some xs) : ∃ p, as = [.List xs p] := by unfold pLst at h; split at h <;> cases h; exact ⟨_, rfl⟩
theorem pDct_s {as : List Expr} {q : List (Option Expr) × List Expr} (h : pDct as = some q) : ∃ p, as = [.Dict q.1 q.2 p] := by unfold pDct at h; split at h <;> cases h; exact ⟨_, rfl⟩
theorem pBin_s {as : List Expr} {q : Expr × Operator × Expr} (h : pBin as = some q) : ∃ p, as = [.BinOp q.1 q.2.1 q.2.2 p] := by unfold pBin at h; split at h <;> cases h; exact ⟨_, rfl⟩
theorem pNeg_s {as : List Expr} {a : Expr} (h : pNeg as = some a) : ∃ p, as = [.UnaryOp .USub a p] := by unfold pNeg at h; split at h <;> cases h; exact ⟨_, rfl⟩
theorem pNot_s {as : List Expr} {a : Expr} (h : pNot as = some a) : ∃ p, as = [.UnaryOp .Not a p] := by unfold pNot at h; split at h <;> cases h; exact ⟨_, rfl⟩
theorem pCmp_s {as : List Expr} {q : Expr × CmpOp × Expr} (h : pCmp as = some q) : ∃ p, as = [.Compare q.1 [q.2.1] [q.2.2] p] := by unfold pCmp at h; split at h <;> cases h; exact ⟨_, rfl⟩
theorem pChn_s {as : List Expr} {q : Expr × CmpOp × Expr × CmpOp × Expr} (h : pChn as = some q) : ∃ p, as = [.Compare q.1 [q.2.1, q.2.2.2.1] [q.2.2.1, q.2.2.2.2] p] := by unfold pChn at h; split at h <;> cases h; exact ⟨_, rfl⟩
theorem pIfe_s {as : List Expr} {q : Expr × Expr × Expr} (h : pIfe as = some q) : ∃ p, as = [.IfExp q.1 q.2.1 q.2.2 p] := by unfold pIfe at h; split at h <;> cases h; exact ⟨_, rfl⟩
theorem pIdx_s {as : List Expr} {q : Expr × Expr} (h : pIdx as = some q) : ∃ p, as = [.Subscript q.1 q.2 p] := by unfold pIdx at h; split at h <;> cases h; exact ⟨_, rfl⟩
theorem pSlL_s {as : List Expr} {q : Expr × Expr} (h : pSlL as = some q) : ∃ p p2, as = [.Subscript q.1 (.Slice (some q.2) none none p) p2] := by unfold pSlL at h; split at h <;> cases h; exact ⟨_, _, rfl⟩
theorem pSlH_s {as : List Expr} {q : Expr × Expr} (h : pSlH as = some q) : ∃ p p2, as = [.Subscript q.1 (.Slice none (some q.2) none p) p2] := by unfold pSlH at h; split at h <;> cases h; exact ⟨_, _, rfl⟩
theorem pSlB_s {as : List Expr} {q : Expr × Expr × Expr} (h : pSlB as = some q) : ∃ p p2, as = [.Subscript q.1 (.Slice (some q.2.1) (some q.2.2) none p) p2] := by unfold pSlB at h; split at h <;> cases h; exact ⟨_, _, rfl⟩
theorem pRev_s {as : List Expr} {q : Expr × Int} (h : pRev as = some q) : ∃ k p1 p2 p3 p4, as = [.Subscript q.1 (.Slice none none (some (.UnaryOp .USub (.Constant (.int q.2) k p1) p2)) p3) p4] := by unfold pRev at h; split at h <;> cases h; exact ⟨_, _, _, _, _, rfl⟩
theorem pIsi_s {as : List Expr} {q : Str × Expr × Str} (h : pIsi as = some q) : ∃ p1 p2 p3, as = [.Call (.Name q.1 p1) [q.2.1, .Name q.2.2 p2] [] p3] := by unfold pIsi at h; split at h <;> cases h; exact ⟨_, _, _, rfl⟩
theorem pCal_s {as : List Expr} {q : Str × List Expr} (h : pCal as = some q) : ∃ p1 p2, as = [.Call (.Name q.1 p1) q.2 [] p2] := by unfold pCal at h; split at h <;> cases h; exact ⟨_, _, rfl⟩
theorem pMt0_s {as : List Expr} {q : Expr × Str × Pos × Pos} (h : pMt0 as = some q) : as = [.Call (.Attribute q.1 q.2.1 q.2.2.1) [] [] q.2.2.2] := by unfold pMt0 at h; split at h <;> cases h; rfl
theorem pMt1_s {as : List Expr} {q : Expr × Str × Pos × Expr × Pos} (h : pMt1 as = some q) : as = [.Call (.Attribute q.1 q.2.1 q.2.2.1) [q.2.2.2.1] [] q.2.2.2.2] := by unfold pMt1 at h; split at h <;> cases h; rfl
theorem pLc_s {as : List Expr} {q : Expr × Expr × Expr × List Expr × Scope} (h : pLc as = some q) : ∃ p, as = [.ListComp q.1 [⟨q.2.1, q.2.2.1, q.2.2.2.1, 0⟩] q.2.2.2.2 p] := by unfold pLc at h; split at h <;> cases h; exact ⟨_, rfl⟩
theorem pLc2_s {as : List Expr} {q : Expr × (Expr × Expr × List Expr) × (Expr × Expr × List Expr) × Scope} (h : pLc2 as = some q) : ∃ p, as = [.ListComp q.1 [⟨q.2.1.1, q.2.1.2.1, q.2.1.2.2, 0⟩, ⟨q.2.2.1.1, q.2.2.1.2.1, q.2.2.1.2.2, 0⟩] q.2.2.2 p] := by unfold pLc2 at h; split at h <;> cases h; exact ⟨_, rfl⟩
theorem chks_len {c : Ck} : ∀ {es : List E} {as : List Expr}, chks c es as = true → es.length = as.length
  | [], as, q => by
    unfold chks at q
    cases as <;> (first | rfl | (cases q; done))
  | e :: es, as, q => by
    unfold chks at q
    cases as with
    | nil => cases q
    | cons a as =>
      simp only [Bool.and_eq_true] at q
      simp [chks_len q.2]
theorem pair_up : ∀ {ks : List (Option Expr)} {vs as : List Expr}, pairUp ks vs = some as → ks.all (·.isSome) = true ∧ ks.length = vs.length
  | [], [], _, _ => ⟨rfl, rfl⟩
  | [], _ :: _, _, q => by simp [pairUp] at q
  | some k :: ks, [], _, q => by simp [pairUp] at q
  | none :: ks, [], _, q => by simp [pairUp] at q
  | none :: ks, _ :: _, _, q => by simp [pairUp] at q
  | some k :: ks, v :: vs, as, q => by
    simp only [pairUp] at q
    split at q <;> cases q
    rename_i r e
    obtain ⟨a, b⟩ := pair_up e
    exact ⟨by simp [a], by simp [b]⟩
mutual
theorem chk_ok : ∀ (e : E) {J : Jx} {c : Ck} {m : Md} {as : List Expr}, JCk J c → chk c m e as = true → Mean J m e as
  | .slot i, J, c, m, as, h, q => by
    unfold chk at q
    obtain ⟨x, e1, qq⟩ := with_some q
    clear q
    have q := qq
    clear qq
    obtain ⟨p, rfl⟩ := pName_s e1
    simp only [Bool.and_eq_true] at q
    obtain ⟨a, b, d⟩ := ok_name q.2
    exact mean_v (je_slot (name_at h q.1.1) (vis_is h q.1.2) a b) rfl
  | .lit d, J, c, m, as, h, q => by
    unfold chk at q
    obtain ⟨a, e1, qq⟩ := with_some q
    clear q
    have q := qq
    clear qq
    obtain rfl := pOne_s e1
    obtain ⟨a, b⟩ := lit_is (J := J) q
    exact mean_v a b
  | .glob k, J, c, m, as, h, q => by
    unfold chk at q
    obtain ⟨x, e1, qq⟩ := with_some q
    clear q
    have q := qq
    clear qq
    obtain ⟨p, rfl⟩ := pName_s e1
    simp only [Bool.and_eq_true] at q
    obtain ⟨a, b, _⟩ := gl_is h q.1
    have q2 := q.2
    split at q2
    · rename_i k' e
      have := eq_of_beq q2
      subst this
      exact mean_v (je_glob a (h.gl x _ e) b) rfl
    · cases q2
  | .tup es, J, c, m, as, h, q => by
    unfold chk at q
    obtain ⟨xs, e1, qq⟩ := with_some q
    clear q
    have q := qq
    clear qq
    obtain ⟨k, p, rfl⟩ := pTup_s e1
    simp only [Bool.and_eq_true] at q
    exact mean_v (je_tup (chks_ok es h q.1 q.2)) rfl
  | .lst mu es, J, c, m, as, h, q => by
    unfold chk at q
    obtain ⟨xs, e1, qq⟩ := with_some q
    clear q
    have q := qq
    clear qq
    obtain ⟨p, rfl⟩ := pLst_s e1
    simp only [Bool.and_eq_true] at q
    cases mu
    · exact mean_v (je_lst (chks_ok es h q.1 q.2)) rfl
    · exact mean_v (je_lstM (chks_ok es h q.1 q.2)) rfl
  | .rws e, J, c, m, as, h, q => by
    unfold chk at q
    obtain ⟨xs, e1, qq⟩ := with_some q
    clear q
    have q := qq
    clear qq
    obtain ⟨p, rfl⟩ := pLst_s e1
    obtain ⟨a, e2, qq⟩ := with_some q
    clear q
    have q := qq
    clear qq
    obtain rfl := pOne_s e2
    simp only [Bool.and_eq_true] at q
    exact mean_v (je_rws (mean_val (chk_ok e h q.2)) (by rw [star_cons q.1]; first | rfl | simp [starEach])) rfl
  | .dct mu es, J, c, m, as, h, q => by
    unfold chk at q
    obtain ⟨⟨ks, vs⟩, e1, qq⟩ := with_some q
    clear q
    have q := qq
    clear qq
    obtain ⟨p, rfl⟩ := pDct_s e1
    cases ks with
    | nil =>
      simp only at q
      cases vs with
      | cons _ _ => cases q
      | nil =>
        cases es with
        | cons _ _ => cases q
        | nil => exact mean_v je_dct0 rfl
    | cons k ks =>
      simp only [Bool.and_eq_true, decide_eq_true_eq] at q
      obtain ⟨q1, q2⟩ := q
      obtain ⟨xs, e2, q3⟩ := with_some q2
      obtain ⟨a, b⟩ := pair_up e2
      exact mean_v (je_dct (jp_ok es h e2 q3) a b (by simp) q1) rfl
  | .bin o e1 e2, J, c, m, as, h, q => by
    unfold chk at q
    obtain ⟨⟨a, p, b⟩, e3, qq⟩ := with_some q
    clear q
    have q := qq
    clear qq
    obtain ⟨ps, rfl⟩ := pBin_s e3
    simp only [Bool.and_eq_true] at q
    obtain ⟨⟨q1, q2⟩, q3⟩ := q
    obtain rfl := op_ok q1
    exact mean_v (je_bin (mean_val (chk_ok e1 h q2)) (mean_val (chk_ok e2 h q3))) rfl
  | .catM e1 e2, J, c, m, as, h, q => by
    unfold chk at q
    obtain ⟨⟨a, p, b⟩, e3, qq⟩ := with_some q
    clear q
    have q := qq
    clear qq
    obtain ⟨ps, rfl⟩ := pBin_s e3
    simp only [Bool.and_eq_true] at q
    obtain ⟨⟨q1, q2⟩, q3⟩ := q
    obtain rfl := op_ok q1
    exact mean_v (je_catM (mean_val (chk_ok e1 h q2)) (mean_val (chk_ok e2 h q3))) rfl
  | .neg e, J, c, m, as, h, q => by
    unfold chk at q
    obtain ⟨a, e1, qq⟩ := with_some q
    clear q
    have q := qq
    clear qq
    obtain ⟨p, rfl⟩ := pNeg_s e1
    exact mean_v (je_neg (mean_val (chk_ok e h q))) rfl
  | .not e, J, c, m, as, h, q => by
    unfold chk at q
    obtain ⟨a, e1, qq⟩ := with_some q
    clear q
    have q := qq
    clear qq
    obtain ⟨p, rfl⟩ := pNot_s e1
    have z := chk_ok e h q
    exact mean_b (fun hm => je_not (mean_oneV z hm)) fun hm => jt_not (mean_oneT z hm)
  | .cmp o e1 e2, J, c, m, as, h, q => by
    unfold chk at q
    obtain ⟨⟨a, p, b⟩, e3, qq⟩ := with_some q
    clear q
    have q := qq
    clear qq
    obtain ⟨ps, rfl⟩ := pCmp_s e3
    simp only [Bool.and_eq_true] at q
    obtain ⟨⟨⟨q1, q0⟩, q2⟩, q3⟩ := q
    obtain rfl := cm_ok q1
    have z1 := mean_val (chk_ok e1 h q2)
    have z2 := mean_val (chk_ok e2 h q3)
    exact mean_b (fun _ => je_cmp h.ok z1 z2 (marks_ok q0 _)) fun _ => jt_cmp h.ok z1 z2 (marks_ok q0 _)
  | .chain o1 o2 e1 e2 e3, J, c, m, as, h, q => by
    unfold chk at q
    obtain ⟨⟨a, p1, b, p2, d⟩, e4, qq⟩ := with_some q
    clear q
    have q := qq
    clear qq
    obtain ⟨ps, rfl⟩ := pChn_s e4
    simp only [Bool.and_eq_true] at q
    obtain ⟨⟨⟨⟨⟨q1, q2⟩, q0⟩, q3⟩, q4⟩, q5⟩ := q
    obtain rfl := cm_ok q1
    obtain rfl := cm_ok q2
    have z1 := mean_val (chk_ok e1 h q3)
    have z2 := mean_val (chk_ok e2 h q4)
    have z3 := mean_val (chk_ok e3 h q5)
    exact mean_b (fun _ => je_chain h.ok z1 z2 z3 (marks_ok q0 _)) fun _ => jt_chain h.ok z1 z2 z3 (marks_ok q0 _)
  | .and e1 e2, J, c, m, as, h, q => by
    unfold chk at q
    obtain ⟨⟨a, b, r⟩, e3, qq⟩ := with_some q
    clear q
    have q := qq
    clear qq
    simp only [Bool.and_eq_true] at q
    exact mean_and e3 (chk_ok e1 h q.1) (chk_ok e2 h q.2)
  | .or e1 e2, J, c, m, as, h, q => by
    unfold chk at q
    obtain ⟨⟨a, b, r⟩, e3, qq⟩ := with_some q
    clear q
    have q := qq
    clear qq
    simp only [Bool.and_eq_true] at q
    exact mean_or e3 (chk_ok e1 h q.1) (chk_ok e2 h q.2)
  | .ite e1 e2 e3, J, c, m, as, h, q => by
    unfold chk at q
    obtain ⟨⟨t, a, b⟩, e4, qq⟩ := with_some q
    clear q
    have q := qq
    clear qq
    obtain ⟨p, rfl⟩ := pIfe_s e4
    simp only [Bool.and_eq_true] at q
    obtain ⟨⟨⟨q0, q1⟩, q2⟩, q3⟩ := q
    exact mean_b (fun _ => je_ite (mean_tst (chk_ok e1 h q1)) (mean_val (chk_ok e2 h q2)) (mean_val (chk_ok e3 h q3))) fun hm => by rw [q0] at hm; cases hm
  | .idx e1 e2, J, c, m, as, h, q => by
    unfold chk at q
    obtain ⟨⟨a, b⟩, e3, qq⟩ := with_some q
    clear q
    have q := qq
    clear qq
    obtain ⟨p, rfl⟩ := pIdx_s e3
    simp only [Bool.and_eq_true] at q
    obtain ⟨⟨q0, q1⟩, q2⟩ := q
    exact mean_v (je_idx h.ok (mean_val (chk_ok e1 h q1)) (mean_val (chk_ok e2 h q2)) (ix_ok q0)) rfl
  | .sliL e1 e2, J, c, m, as, h, q => by
    unfold chk at q
    obtain ⟨⟨a, b⟩, e3, qq⟩ := with_some q
    clear q
    have q := qq
    clear qq
    obtain ⟨p, p2, rfl⟩ := pSlL_s e3
    simp only [Bool.and_eq_true] at q
    exact mean_v (je_sliL (mean_val (chk_ok e1 h q.1)) (mean_val (chk_ok e2 h q.2))) rfl
  | .sliH e1 e2, J, c, m, as, h, q => by
    unfold chk at q
    obtain ⟨⟨a, b⟩, e3, qq⟩ := with_some q
    clear q
    have q := qq
    clear qq
    obtain ⟨p, p2, rfl⟩ := pSlH_s e3
    simp only [Bool.and_eq_true] at q
    exact mean_v (je_sliH (mean_val (chk_ok e1 h q.1)) (mean_val (chk_ok e2 h q.2))) rfl
  | .sliB e1 e2 e3, J, c, m, as, h, q => by
    unfold chk at q
    obtain ⟨⟨a, b, d⟩, e4, qq⟩ := with_some q
    clear q
    have q := qq
    clear qq
    obtain ⟨p, p2, rfl⟩ := pSlB_s e4
    simp only [Bool.and_eq_true] at q
    exact mean_v (je_sliB (mean_val (chk_ok e1 h q.1.1)) (mean_val (chk_ok e2 h q.1.2)) (mean_val (chk_ok e3 h q.2))) rfl
  | .rev e, J, c, m, as, h, q => by
    unfold chk at q
    obtain ⟨⟨a, i⟩, e3, qq⟩ := with_some q
    clear q
    have q := qq
    clear qq
    obtain ⟨k, p1, p2, p3, p4, rfl⟩ := pRev_s e3
    simp only [Bool.and_eq_true] at q
    have := eq_of_beq q.1
    subst this
    exact mean_v (je_rev (mean_val (chk_ok e h q.2))) rfl
  | .isi e t, J, c, m, as, h, q => by
    unfold chk at q
    obtain ⟨⟨x, a, y⟩, e3, qq⟩ := with_some q
    clear q
    have q := qq
    clear qq
    obtain ⟨p1, p2, p3, rfl⟩ := pIsi_s e3
    simp only [Bool.and_eq_true] at q
    obtain ⟨⟨⟨⟨⟨q1, q2⟩, q3⟩, q4⟩, q5⟩, q6⟩ := q
    have e1 := eq_of_beq q1
    have e2 := eq_of_beq q3
    subst e1 e2
    exact mean_v (je_isi (mean_val (chk_ok e h q6)) (blt_is h q2 isi_boot) (blt_is h q4 (ty_boot t)) (fun b => star_cons q5)) rfl
  | .call i es, J, c, m, as, h, q => by
    unfold chk at q
    obtain ⟨⟨x, xs⟩, e3, qq⟩ := with_some q
    clear q
    have q := qq
    clear qq
    obtain ⟨p1, p2, rfl⟩ := pCal_s e3
    simp only [Bool.and_eq_true] at q
    obtain ⟨⟨⟨q1, q2⟩, q3⟩, q4⟩ := q
    obtain ⟨⟨i', np⟩, e4, q5⟩ := with_some q2
    simp only [Bool.and_eq_true] at q5
    obtain ⟨⟨q6, q7⟩, q8⟩ := q5
    have e5 := eq_of_beq q6
    have e6 := eq_of_beq q7
    have e7 := eq_of_beq q8
    have e5 : i = i' := e5
    subst e5
    obtain ⟨g1, g2, _⟩ := gl_is h q1
    have hc := h.fn x _ np e4
    refine mean_v ?_ rfl
    cases xs with
    | nil =>
      have : np = 0 := by simpa using e6.symm
      subst this
      cases es with
      | nil => exact je_call0 h.ok g1 hc g2
      | cons _ _ => simp at e7
    | cons a xs =>
      simp only [List.all_cons, Bool.and_eq_true] at q3
      exact je_call h.ok g1 hc g2 (chks_ok es h (by simp [q3]) q4) e6 e7 (star_cons q3.1) (star_none q3.2)
  | .bi f es, J, c, m, as, h, q => by
    unfold chk at q
    obtain ⟨⟨x, xs⟩, e3, qq⟩ := with_some q
    clear q
    have q := qq
    clear qq
    obtain ⟨p1, p2, rfl⟩ := pCal_s e3
    simp only [Bool.and_eq_true] at q
    obtain ⟨⟨⟨⟨q1, q2⟩, q3⟩, q4⟩, q5⟩ := q
    have e1 := eq_of_beq q1
    subst e1
    cases xs with
    | nil => simp at q3
    | cons a xs =>
      have q6 := q4
      simp only [List.all_cons, Bool.and_eq_true] at q6
      exact mean_v (je_bi h.ok h.calm (blt_is h q2 (fn_boot f)) (chks_ok es h q4 q5) (star_cons q6.1) (star_none q6.2)) rfl
  | .mt k o [], J, c, m, as, h, q => by
    unfold chk at q
    obtain ⟨⟨a, x, ap, cp⟩, e3, qq⟩ := with_some q
    clear q
    have q := qq
    clear qq
    obtain rfl := pMt0_s e3
    simp only [Bool.and_eq_true] at q
    obtain ⟨⟨⟨q1, q2⟩, q3⟩, q4⟩ := q
    have e1 := eq_of_beq q1
    subst e1
    exact mean_v (je_mt0 (mean_val (chk_ok o h q4)) (base_ok q2 _ _ _) q3) rfl
  | .mt k o (e :: es), J, c, m, as, h, q => by
    unfold chk at q
    obtain ⟨⟨a, x, ap, b, cp⟩, e3, qq⟩ := with_some q
    clear q
    have q := qq
    clear qq
    obtain rfl := pMt1_s e3
    simp only [Bool.and_eq_true] at q
    obtain ⟨⟨⟨⟨⟨⟨q0, q1⟩, q2⟩, q3⟩, q4⟩, q5⟩, q6⟩ := q
    have e1 := eq_of_beq q1
    subst e1
    cases es with
    | cons _ _ => cases q0
    | nil =>
      have z := mean_val (chk_ok e h q6)
      exact mean_v (je_mt1 (mean_val (chk_ok o h q5)) (ja_cons z ja_nil (star_cons q4)) (base_ok q2 _ _ _) (few_one q4) q3 (star_cons q4) (by first | rfl | simp [starEach, backTo])) rfl
  | .comp mu e own is ik its eifs, J, c, m, as, h, q => by
    unfold chk at q
    obtain ⟨⟨elt, tg, iter, ifs, scope⟩, e3, qq⟩ := with_some q
    clear q
    have q := qq
    clear qq
    obtain ⟨p, rfl⟩ := pLc_s e3
    simp only [Bool.and_eq_true] at q
    obtain ⟨⟨⟨⟨⟨⟨q1, q2⟩, q3⟩, q4⟩, q5⟩, q6⟩, q7⟩ := q
    obtain ⟨xs, e4, q8⟩ := with_some q5
    simp only [Bool.and_eq_true] at q8
    have B := blk_is h q1
    have K := B.kind
    have W := walk_is (its := its) h e4 (fun _ => chks_ok its h q8.1 q8.2) (fun hk => by
      subst hk
      simp only [walkB, Option.some.injEq] at e4
      subst e4
      exact walk_one its h q8.2) (chks_len q8.2)
    have own_e := own_ix c own
    have sub : ∀ j ∈ is, j ∈ (ownOf c own).map (·.2) := by rw [own_e]; exact comp_sub q3
    cases mu
    · have z := je_lc (pos := p) h.ok h.calm W B (jgc_is h K q4) sub (fun s H C cl fp => chkI_ok eifs (jck_blk h K s H C cl fp) q6) (fun s H C cl fp => mean_val (chk_ok e (jck_blk h K s H C cl fp) q7)) (iter_ok q2 _)
      rw [own_e] at z
      exact mean_v z rfl
    · have z := je_lcM (pos := p) h.ok h.calm W B (jgc_is h K q4) sub (fun s H C cl fp => chkI_ok eifs (jck_blk h K s H C cl fp) q6) (fun s H C cl fp => mean_val (chk_ok e (jck_blk h K s H C cl fp) q7)) (iter_ok q2 _)
      rw [own_e] at z
      exact mean_v z rfl
  | .comp2 mu e own t1 k1 i1 c1 t2 k2 i2 c2, J, c, m, as, h, q => by
    unfold chk at q
    obtain ⟨⟨elt, ⟨tg, iter, ifs⟩, ⟨tg2, iter2, ifs2⟩, scope⟩, e3, qq⟩ := with_some q
    clear q
    have q := qq
    clear qq
    obtain ⟨p, rfl⟩ := pLc2_s e3
    simp only [Bool.and_eq_true] at q
    obtain ⟨⟨⟨⟨⟨⟨⟨⟨⟨⟨⟨⟨q0, q1⟩, q2⟩, q3⟩, q4⟩, q5⟩, q6⟩, q7⟩, q8⟩, q9⟩, q10⟩, q11⟩, q12⟩ := q
    cases mu
    · obtain ⟨xs, e4, qa⟩ := with_some q8
      obtain ⟨xs2, e5, qb⟩ := with_some q9
      simp only [Bool.and_eq_true] at qa qb
      have B := blk_is h q1
      have K := B.kind
      have W := walk_is (its := i1) h e4 (fun _ => chks_ok i1 h qa.1 qa.2) (fun hk => by
        subst hk
        simp only [walkB, Option.some.injEq] at e4
        subst e4
        exact walk_one i1 h qa.2) (chks_len qa.2)
      have own_e := own_ix c own
      have sub : ∀ j ∈ t1, j ∈ (ownOf c own).map (·.2) := by rw [own_e]; exact comp_sub q4
      have sub2 : ∀ j ∈ t2, j ∈ (ownOf c own).map (·.2) := by rw [own_e]; exact comp_sub q5
      have z := je_lc2 (pos := p) h.ok h.calm W B (jgc_is h K q6) sub (jgc_is h K q7) sub2 (fun s H C cl fp => chkI_ok c1 (jck_blk h K s H C cl fp) q10)
        (fun s H C cl fp => walk_is (its := i2) (jck_blk h K s H C cl fp) e5 (fun _ => chks_ok i2 (jck_blk h K s H C cl fp) qb.1 qb.2) (fun hk => by
          subst hk
          simp only [walkB, Option.some.injEq] at e5
          subst e5
          exact walk_one i2 (jck_blk h K s H C cl fp) qb.2) (chks_len qb.2))
        (fun s H C cl fp => chkI_ok c2 (jck_blk h K s H C cl fp) q11) (fun s H C cl fp => mean_val (chk_ok e (jck_blk h K s H C cl fp) q12)) (iter_ok q2 _) (fun env => iter_ok q3 env)
      rw [own_e] at z
      exact mean_v z rfl
    · cases q0
  | .frz e, J, c, m, as, h, q => by
    unfold chk at q
    obtain ⟨a, e1, qq⟩ := with_some q
    clear q
    have q := qq
    clear qq
    obtain rfl := pOne_s e1
    simp only [Bool.and_eq_true] at q
    have z := je_frz (mean_val (chk_ok e h q.2))
    have q1 := q.1
    unfold asV at q1
    simp only [Bool.or_eq_true] at q1
    exact mean_b (fun _ => z) fun hm => q1.elim (fun a => by rw [a] at hm; cases hm) fun hp => jt_of z fun whole => plain_true hp _ whole
  | .lam i e, J, c, m, as, h, q => by
    unfold chk at q
    obtain ⟨⟨x, params, body, scope⟩, e3, qq⟩ := with_some q
    clear q
    simp only [Bool.and_eq_true] at qq
    obtain ⟨⟨⟨q1, q2⟩, q3⟩, q4⟩ := qq
    obtain ⟨dp, e4, q5⟩ := with_some q3
    unfold pLam at e3
    split at e3
    · cases e3
      split at q2
      · rename_i i' e5
        obtain rfl : i = i' := eq_of_beq q2
        obtain ⟨g1, g2, _⟩ := gl_is h q1
        obtain ⟨LA, j, LC, hc⟩ := h.lam _ _ e5
        have L : LaS J.X.N J.X.env.scope scope dp := by
          rw [h.N, h.sc]
          exact laS_by q5
        refine mean_v ?_ rfl
        exact je_lam h.ok LA LC g1 g2 L e4 fun A outer s H E f c' hr ok => mean_val (chk_ok e (jck_lam h e5 L hc A outer s H E f c' hr ok) q4)
      · cases q2
    · cases e3
  | .act i, J, c, m, as, h, q => by
    unfold chk at q
    obtain ⟨x, e3, qq⟩ := with_some q
    clear q
    simp only [Bool.and_eq_true] at qq
    obtain ⟨q1, q2⟩ := qq
    unfold pAct at e3
    split at e3
    · cases e3
      split at q2
      · rename_i y e5
        obtain rfl : x = y := eq_of_beq q2
        obtain rfl : i = 0 := eq_of_beq q1
        refine mean_v ?_ rfl
        exact h.act _ e5 J.W J.X.pn J.X.xe h.ok _ _
      · cases q2
    · cases e3
  | .exf _, J, c, m, as, h, q => by unfold chk at q; cases q
theorem chks_ok : ∀ (es : List E) {J : Jx} {c : Ck} {as : List Expr}, JCk J c → as.all notStar = true → chks c es as = true → JA J as es
  | [], J, c, as, h, hs, q => by
    unfold chks at q
    cases as with
    | nil => exact ja_nil
    | cons _ _ => cases q
  | e :: es, J, c, as, h, hs, q => by
    unfold chks at q
    cases as with
    | nil => cases q
    | cons a as =>
      simp only [Bool.and_eq_true] at q
      simp only [List.all_cons, Bool.and_eq_true] at hs
      exact ja_cons (mean_val (chk_ok e h q.1)) (chks_ok es h hs.2 q.2) (star_cons hs.1)
theorem chkI_ok : ∀ (es : List E) {J : Jx} {c : Ck} {as : List Expr}, JCk J c → chkI c es as = true → JTs J as es
  | [], J, c, as, h, q => by
    unfold chkI at q
    cases as with
    | nil => exact jts_nil
    | cons _ _ => cases q
  | e :: es, J, c, as, h, q => by
    unfold chkI at q
    simp only [Bool.and_eq_true] at q
    obtain ⟨a, e1, q2⟩ := with_some q.2
    obtain rfl := pOne_s e1
    cases es with
    | nil => exact jts_one (mean_tst (chk_ok e h q2))
    | cons _ _ => exact absurd q.1 (by simp)
/-- what is walked as it is -/
theorem walk_one : ∀ (es : List E) {J : Jx} {c : Ck} {iter : Expr}, JCk J c → chks c es [iter] = true → ∃ e, es = [e] ∧ JE J iter e
  | [], J, c, iter, h, q => by unfold chks at q; cases q
  | e :: es, J, c, iter, h, q => by
    unfold chks at q
    simp only [Bool.and_eq_true] at q
    have l := chks_len q.2
    cases es with
    | nil => exact ⟨e, rfl, mean_val (chk_ok e h q.1)⟩
    | cons _ _ => simp at l
/-- the pairs of a display -/
theorem jp_ok : ∀ (es : List E) {J : Jx} {c : Ck} {pos : Pos} {ks : List (Option Expr)} {vs as : List Expr}, JCk J c → pairUp ks vs = some as → chks c es as = true → JP J pos ks vs es
  | [], J, c, pos, ks, vs, as, h, e, q => by
    unfold chks at q
    match ks, vs, e with
    | [], [], _ => exact jp_nil
    | some k :: ks, v :: vs, e =>
      simp only [pairUp] at e
      split at e <;> cases e
      cases q
  | [e0], J, c, pos, ks, vs, as, h, e, q => by
    have l := chks_len q
    match ks, vs, e with
    | [], [], e => cases e; cases l
    | some k :: ks, v :: vs, e =>
      simp only [pairUp] at e
      split at e <;> cases e
      simp at l
  | e0 :: e1 :: es, J, c, pos, ks, vs, as, h, e, q => by
    match ks, vs, e with
    | [], [], e =>
      cases e
      unfold chks at q
      cases q
    | some k :: ks, v :: vs, e =>
      simp only [pairUp] at e
      split at e <;> cases e
      rename_i r er
      unfold chks at q
      simp only [Bool.and_eq_true] at q
      obtain ⟨q1, q2⟩ := q
      unfold chks at q2
      simp only [Bool.and_eq_true] at q2
      exact jp_cons (mean_val (chk_ok e0 h q1)) (mean_val (chk_ok e1 h q2.1)) (jp_ok es h er q2.2)
end
end Ev
end
section
/-! EvU: the checker of statements. -/
set_option autoImplicit false
set_option linter.all false
set_option maxRecDepth 100000
set_option maxHeartbeats 2000000
set_option Elab.async false
namespace Ev
open PySem PySem.Spec PyProof.Rows L2

def qAsg (s : Stmt) : Option (Expr × Expr × Pos) := match s with | .Assign [t] e pos => some (t, e, pos) | _ => none
def qExp (s : Stmt) : Option (Expr × Pos) := match s with | .Expr e pos => some (e, pos) | _ => none
def qRet (s : Stmt) : Option (Option Expr) := match s with | .Return e _ => some e | _ => none
def qIf (s : Stmt) : Option (Expr × List Stmt × List Stmt) := match s with | .If c a b _ => some (c, a, b) | _ => none
def qFor (s : Stmt) : Option (Expr × Expr × List Stmt) := match s with | .For t i b [] _ => some (t, i, b) | _ => none
def qWhl (s : Stmt) : Option (Expr × List Stmt) := match s with | .While c b [] _ => some (c, b) | _ => none
/-- name = e, not swapped with what it held -/
def asgN (c : Ck) (i : Nat) (t : Expr) : Bool := match t with | .Name x _ => stoB c i x | _ => false
def parSw (c : Ck) (x : Str) (px : Pos) (y : Str) (py : Pos) (a b : Expr) : Bool :=
  match swapMirror (fun z => c.sc.names.lookup z) [.Name x px, .Name y py] [a, b] with
  | some (some [x', y']) => x' == x && y' == y
  | _ => false
def parB (c : Ck) (i j : Nat) (t e : Expr) : Option (Expr × Expr) :=
  match t, e with
  | .Tuple [.Name x px, .Name y py] _ _, .Tuple [a, b] _ _ => if nameAt c i x && nameAt c j y && kindIs c x .local && kindIs c y .local && i != j && notStar a && notStar b && parSw c x px y py a b then some (a, b) else none
  | _, _ => none
def par3Sw (c : Ck) (ts vs : List Expr) (r : List Str) : Bool := match swapMirror (fun z => c.sc.names.lookup z) ts vs with
  | some (some r') => r' == r
  | _ => false
def par3B (c : Ck) (i j k : Nat) (t e : Expr) : Option (Expr × Expr × Expr) :=
  match t, e with
  | .Tuple [.Name x px, .Name y py, .Name z pz] _ _, .Tuple [a, b, d] _ _ => if nameAt c i x && nameAt c j y && nameAt c k z && kindIs c x .local && kindIs c y .local && kindIs c z .local && notStar a && notStar b && notStar d &&
      par3Sw c [.Name x px, .Name y py, .Name z pz] [a, b, d] [x, y, z] then some (a, b, d) else none
  | _, _ => none
def tupTg (c : Ck) (is : List Nat) (t e : Expr) : Bool :=
  match t with
  | .Tuple ts _ _ => tgB c is t && (match e with
    | .Tuple vs _ _ => (match swapMirror (fun z => c.sc.names.lookup z) ts vs with
      | some none => true
      | _ => false)
    | _ => true)
  | _ => false
def subTg (t : Expr) : Option (Expr × Expr) := match t with | .Subscript o i _ => (if notSlice i then some (o, i) else none) | _ => none
/-- name = [..] on one line -/
def setLc (c : Ck) (i : Nat) (t : Expr) (scope : Scope) (cpos : Pos) : Bool := match t with
  | .Name x px => nameAt c i x && kindIs c x .local && px.line == cpos.line && !(scope.names.any fun p => p.1 == x && (p.2 == .local || p.2 == .cell))
  | _ => false
def posOf (e : Expr) : Pos := e.pos
theorem qAsg_s {s : Stmt} {q : Expr × Expr × Pos} (h : qAsg s = some q) : s = .Assign [q.1] q.2.1 q.2.2 := by unfold qAsg at h; split at h <;> cases h; rfl
theorem qExp_s {s : Stmt} {q : Expr × Pos} (h : qExp s = some q) : s = .Expr q.1 q.2 := by unfold qExp at h; split at h <;> cases h; rfl
theorem qRet_s {s : Stmt} {q : Option Expr} (h : qRet s = some q) : ∃ p, s = .Return q p := by unfold qRet at h; split at h <;> cases h; exact ⟨_, rfl⟩
theorem qIf_s {s : Stmt} {q : Expr × List Stmt × List Stmt} (h : qIf s = some q) : ∃ p, s = .If q.1 q.2.1 q.2.2 p := by unfold qIf at h; split at h <;> cases h; exact ⟨_, rfl⟩
theorem qFor_s {s : Stmt} {q : Expr × Expr × List Stmt} (h : qFor s = some q) : ∃ p, s = .For q.1 q.2.1 q.2.2 [] p := by unfold qFor at h; split at h <;> cases h; exact ⟨_, rfl⟩
theorem qWhl_s {s : Stmt} {q : Expr × List Stmt} (h : qWhl s = some q) : ∃ p, s = .While q.1 q.2 [] p := by unfold qWhl at h; split at h <;> cases h; exact ⟨_, rfl⟩
theorem with_or {a b : Bool} (h : (a || b) = true) : a = true ∨ b = true := by simpa using h
end Ev
end
section
/-! EvV: try, several clauses with or without a name. -/
set_option autoImplicit false
set_option linter.all false
set_option maxRecDepth 100000
set_option maxHeartbeats 2000000
set_option Elab.async false
namespace Ev
open PySem PySem.Spec PyProof.Rows L2

/-- a clause: its class, its name's slot, its suite -/
structure Cl where
  c : Value
  n : Option Nat
  ts : Addr → Value → Option Addr → TS
def Cl.t (x : Cl) (a : Addr) (cls : Value) (d : Option Addr) : TS := match x.n with
  | none => x.ts a cls d
  | some i => fun D σ H => x.ts a cls d { nx := fun σ' H' => D.nx (σ'.set i none) H', rt := D.rt, bk := fun σ' H' => D.bk (σ'.set i none) H', ct := fun σ' H' => D.ct (σ'.set i none) H' } (σ.set i (some (.ref a))) H
def wCls (K : PySem.W.Frag) (Wout : WX) (D : Ends) : List Cl → WX
  | [] => Wout
  | x :: r => fun cls d σ H => ∃ b, PySem.W.exmOne K cls x.c = some b ∧ (b = true → ∀ a, H a = none → x.t a cls d D σ H) ∧ (b = false → wCls K Wout D r cls d σ H)
inductive ClsOk (X : Cx) : List ExceptHandler → List Cl → Prop
  | nil : ClsOk X [] []
  | cons {x : Str} {c : Value} {ts : Addr → Value → Option Addr → TS} {b₀ : Stmt} {suite : List Stmt} {np pos' : Pos} {hds : List ExceptHandler} {l : List Cl} (hc : Names X x c)
      (hsu : ∀ (a : Addr) (oe : Obj) (cls : Value) (d : Option Addr) (pn : List (Addr × Obj)), Zc cls d oe → (∃ vs, oe.data = .fields vs) → PSs (X.suite a ((a, oe) :: pn)) (b₀ :: suite) (ts a cls d)) (r : ClsOk X hds l) :
      ClsOk X (.ExceptHandler (some (.Name x np)) none (b₀ :: suite) pos' :: hds) (⟨c, none, ts⟩ :: l)
  | consAs {x n : Str} {i : Nat} {c : Value} {ts : Addr → Value → Option Addr → TS} {b₀ : Stmt} {suite : List Stmt} {np pos' : Pos} {hds : List ExceptHandler} {l : List Cl} (hc : Names X x c)
      (hi : X.N[i]? = some n) (hln : X.env.kindOf n = some .local)
      (hsu : ∀ (a : Addr) (oe : Obj) (cls : Value) (d : Option Addr) (pn : List (Addr × Obj)), Zc cls d oe → (∃ vs, oe.data = .fields vs) → PSs (X.suite a ((a, oe) :: pn)) (b₀ :: suite) (ts a cls d)) (r : ClsOk X hds l) :
      ClsOk X (.ExceptHandler (some (.Name x np)) (some n) (b₀ :: suite) pos' :: hds) (⟨c, some i, ts⟩ :: l)
section
variable {X : Cx} {body : List Stmt} {h₀ : ExceptHandler} {hds : List ExceptHandler} {l : List Cl} {pos : Pos} {tb : WX → TS} {Wout : WX}
theorem ps_try_cls (hs : X.stack = X.env :: X.outer) (hf : X.env.frame = some X.env.locals) (hN : X.N.Nodup) (tk : Takes X Wout)
    (hb : ∀ (W : WX) (pn : List (Addr × Obj)) (xe : Value → Shared → Prop), Takes (X.tr pn xe) W → PassesOwn (model X.prog X.w) X.A X.env xe → PSs (X.tr pn xe) body (tb W))
    (hh : ClsOk X (h₀ :: hds) l) : PS X (.Try body (h₀ :: hds) [] [] pos) (fun D σ H => tb (wCls X.K Wout D l) D σ H) := by
  refine ⟨fun pins s σ H D I h => ?_⟩
  have ok := I.ok
  have hfr : X.A.frames = some (X.env :: X.outer) := by rw [ok.frames, hs]
  refine wpAny_Try_except ?_
  refine wpAny_mono ((hb (wCls X.K Wout D l) (X.pn ++ pins) (fun e s₁ => wpAny (model X.prog X.w) X.A (noteFrame e X.env) (fun _ s₂ => wpAny (model X.prog X.w) X.A (setFlight e none) (fun _ s₃ =>
    wpAny (model X.prog X.w) X.A (handleBy e X.env (h₀ :: hds)) (SP X pins D) X.xe s₃) X.xe s₂) X.xe s₁) (fun u s' xx => ?_) PassesOwn.looking).run [] s σ H D (I.toTry _) h) (fun f s1 hsp => ?_) (fun e s1 he => he)
  · -- the catch
    obtain ⟨a, B, sI, pins', σ', H', cls, d, rfl, J', nb, up, sky, na, os, ag, w⟩ := xx
    have J : Inv X pins σ' H' sI := J'.ofTry ok
    have sky' : Sky B (X.env :: X.outer) a (Zc cls d) X.env.locals s'.heap := by rw [← hs]; exact sky
    show wpAny (model X.prog X.w) X.A (noteFrame (.ref a) X.env) _ _ _
    refine Sky.land Zc.steady hfr hf sky' fun h3 fl3 up3 => ?_
    have J3 : Inv X pins σ' H' { s' with heap := h3 } := J.landed nb fl3.1 (up.trans up3) os ag
    obtain ⟨oe3, vs3, he3, hz3, hd3⟩ := fl3.there
    have notFr : ∀ {h : PySem.Heap} {o : Obj} {vs : Array Value}, h.FunFrames B (X.env :: X.outer) → h.get? a = some o → o.data = .fields vs → a ∉ frs (X.env :: X.outer) := fun {h o vs} ff e dd hm => by
      obtain ⟨_, o', e', hnf⟩ := ff.mem hm
      rw [e] at e'; cases e'
      exact hnf _ dd
    have nfr := notFr fl3.2.2.1 he3 hd3
    have nL : a ≠ X.env.locals := fun z => nfr (List.mem_filterMap.mpr ⟨X.env, List.mem_cons_self, by rw [hf, z]⟩)
    have nF : a ∉ X.fs := fun hm => by
      obtain ⟨e, he, q⟩ := List.mem_filterMap.mp hm
      exact nfr (List.mem_filterMap.mpr ⟨e, List.mem_cons_of_mem _ he, q⟩)
    have S3 := J3.suite he3 hd3 na nL nF
    have go : ∀ {hds' : List ExceptHandler} {l' : List Cl}, ClsOk X hds' l' → wCls X.K Wout D l' cls d σ' H' →
        wpAny (model X.prog X.w) X.A (handleBy (.ref a) X.env hds') (SP X pins D) X.xe { s' with heap := h3 } := by
      intro hds' l' hk
      induction hk with
      | nil =>
        intro w
        refine wpAny_handleBy_nil ?_
        obtain ⟨k1, k2, k3, oe, vs, T, oT, ts', he, hz, hd, h1, hr⟩ := id fl3
        unfold PySem.passOn
        refine wpAny_bind (wpAny_field he hd h1 ?_)
        rw [if_neg (show ¬ ((Value.ref T == Value.none) = true) from by simp)]
        have fin : wpAny (model X.prog X.w) X.A (setFlight (.ref a) X.env.frame) (fun _ s4 => wpAny (model X.prog X.w) X.A (throw (.ref a) : Sem Flow) (SP X pins D) X.xe s4) X.xe { s' with heap := h3 } := by
          rw [hf]
          refine HandSPX.setFlight_upZ fl3 fun h4 hh4 up4 => wpAny_throw (tk _ _ ?_)
          exact ⟨a, B, sI, pins, σ', H', cls, d, rfl, J, nb, (up.trans up3).trans up4, .inr (.inr (by rw [hs]; exact hh4)), na, os, ag, w⟩
        first
          | exact wpAny_bind (wpAny_pure (wpAny_bind fin))
          | exact wpAny_bind fin
      | @cons x c ts b₀ suite np pos' hds2 l2 hc hsu r ih =>
        intro w
        obtain ⟨b, hb1, hyes, hno⟩ := w
        refine wpAny_handleBy_cons (codeAny_handlers_test ?_) (by intro q; cases q)
        have LT : PySem.W.Looks (model X.prog X.w) h3 (typeOf (.ref a)) cls := fun A Q E s k q => wpAny_typeOf_ref (k _ _ he3) (by rw [hz3.1]; exact q)
        have LM := PySem.W.exm_one (M := model X.prog X.w) (J3.kIn) LT hb1
        have test : ∀ {Q : Value → Shared → Prop} {E : Value → Shared → Prop}, Q c { s' with heap := h3 } → wpAny (model X.prog X.w) (X.A.mark (some (.ref a))) (eval (.Name x np) X.env) Q E { s' with heap := h3 } := fun {Q E} q => by
          obtain ⟨hg, hdbg, hm | ⟨hm, hv, hnn⟩⟩ := hc
          · exact ld_glob (X := X.suite a ((a, oe3) :: (X.pn ++ pins))) S3 hg hm q hdbg
          · exact ld_blt (X := X.suite a ((a, oe3) :: (X.pn ++ pins))) S3 hg hm hv q hnn hdbg
        refine test (LM.here ?_)
        cases b with
        | true =>
          refine codeAny_handlers_suite ?_
          refine HandSPX.lands_againZ fl3 fun h4 fl4 up4 => ?_
          have J4 : Inv X pins σ' H' { s' with heap := h4 } := J.landed nb fl4.1 ((up.trans up3).trans up4) os ag
          obtain ⟨oe4, vs4, he4, hz4, hd4⟩ := fl4.there
          have S4 := J4.suite he4 hd4 na nL nF
          refine wpAny_mono ((hsu a oe4 cls d (X.pn ++ pins) hz4 ⟨_, hd4⟩).run [] _ _ H' _ S4 (hyes rfl a na)) (fun f s6 hsp => ?_) (fun _ _ z => False.elim z)
          cases f with
          | next =>
            obtain ⟨σ6, H6, S6, q6⟩ := hsp
            exact ⟨_, _, S6.unsuite ok, q6⟩
          | brk =>
            obtain ⟨σ6, H6, S6, q6⟩ := hsp
            exact ⟨_, _, S6.unsuite ok, q6⟩
          | cont =>
            obtain ⟨σ6, H6, S6, q6⟩ := hsp
            exact ⟨_, _, S6.unsuite ok, q6⟩
          | ret u =>
            obtain ⟨v6, σ6, H6, S6, r6, q6⟩ := hsp
            exact ⟨_, _, _, S6.unsuite ok, r6, q6⟩
        | false =>
          show wpAny _ X.A (handleBy (.ref a) X.env hds2) _ _ _
          exact ih (hno rfl)
      | @consAs x n i c ts b₀ suite np pos' hds2 l2 hc hi hln hsu r ih =>
        intro w
        obtain ⟨b, hb1, hyes, hno⟩ := w
        have hloc : Loc X.env.scope n := .inl hln
        refine wpAny_handleBy_cons (codeAny_handlers_test ?_) (by intro q; cases q)
        have LT : PySem.W.Looks (model X.prog X.w) h3 (typeOf (.ref a)) cls := fun A Q E s k q => wpAny_typeOf_ref (k _ _ he3) (by rw [hz3.1]; exact q)
        have LM := PySem.W.exm_one (M := model X.prog X.w) (J3.kIn) LT hb1
        have test : ∀ {Q : Value → Shared → Prop} {E : Value → Shared → Prop}, Q c { s' with heap := h3 } → wpAny (model X.prog X.w) (X.A.mark (some (.ref a))) (eval (.Name x np) X.env) Q E { s' with heap := h3 } := fun {Q E} q => by
          obtain ⟨hg, hdbg, hm | ⟨hm, hv, hnn⟩⟩ := hc
          · exact ld_glob (X := X.suite a ((a, oe3) :: (X.pn ++ pins))) S3 hg hm q hdbg
          · exact ld_blt (X := X.suite a ((a, oe3) :: (X.pn ++ pins))) S3 hg hm hv q hnn hdbg
        refine test (LM.here ?_)
        cases b with
        | true =>
          refine codeAny_handlers_suite_as ?_
          refine HandSPX.lands_againZ fl3 fun h4 fl4 up4 => ?_
          have J4 : Inv X pins σ' H' { s' with heap := h4 } := J.landed nb fl4.1 ((up.trans up3).trans up4) os ag
          obtain ⟨oe4, vs4, he4, hz4, hd4⟩ := fl4.there
          have S4 := J4.suite he4 hd4 na nL nF
          refine store_ok (X := X.suite a ((a, oe4) :: (X.pn ++ pins))) (v := .ref a) S4 hN hi hloc rfl (fun s5 S5 => ?_) (.inr hln)
          refine wpAny_mono ((hsu a oe4 cls d (X.pn ++ pins) hz4 ⟨_, hd4⟩).run [] s5 _ H' _ S5 (hyes rfl a na)) (fun f s6 hsp => ?_) (fun _ _ z => False.elim z)
          have end_ : ∀ {σ6 : L2.St} {H6 : Hp} {Q : Shared → Prop}, Inv (X.suite a ((a, oe4) :: (X.pn ++ pins))) [] σ6 H6 s6 → (∀ s7, Inv X pins (σ6.set i none) H6 s7 → Q s7) →
              wpAny (model X.prog X.w) X.A (do bindName X.env n .none; unbindBehindTheSuite X.env n pos') (fun _ s7 => Q s7) X.xe s6 := fun {σ6 H6 Q} S6 hq => gone_ok (S6.unsuite ok) hN hi hln hq
          cases f with
          | next =>
            obtain ⟨σ6, H6, S6, q6⟩ := hsp
            exact end_ S6 fun s7 J7 => ⟨_, _, J7, q6⟩
          | brk =>
            obtain ⟨σ6, H6, S6, q6⟩ := hsp
            exact end_ S6 fun s7 J7 => ⟨_, _, J7, q6⟩
          | cont =>
            obtain ⟨σ6, H6, S6, q6⟩ := hsp
            exact end_ S6 fun s7 J7 => ⟨_, _, J7, q6⟩
          | ret u =>
            obtain ⟨v6, σ6, H6, S6, r6, q6⟩ := hsp
            exact end_ S6 fun s7 J7 => ⟨_, _, _, J7, r6, q6⟩
        | false =>
          show wpAny _ X.A (handleBy (.ref a) X.env hds2) _ _ _
          exact ih (hno rfl)
    exact go hh w
  · cases f with
    | next =>
      obtain ⟨σ', H', J', q⟩ := hsp
      exact wpAny_execs_nil ⟨σ', H', J'.ofTry ok, q⟩
    | brk =>
      obtain ⟨σ', H', J', q⟩ := hsp
      exact ⟨σ', H', J'.ofTry ok, q⟩
    | cont =>
      obtain ⟨σ', H', J', q⟩ := hsp
      exact ⟨σ', H', J'.ofTry ok, q⟩
    | ret u =>
      obtain ⟨v, σ', H', J', r, q⟩ := hsp
      exact ⟨v, σ', H', J'.ofTry ok, r, q⟩
end
end Ev
end
section
/-! EvY1: what an exception is; e.f in a suite. -/
set_option autoImplicit false
set_option linter.all false
set_option maxRecDepth 100000
set_option maxHeartbeats 2000000
set_option Elab.async false
namespace Ev
open PySem PySem.Spec PyProof.Rows L2

/-- the classes of exceptions, by number, and their field -/
structure XC where
  n : Nat
  cls : Nat → Value
  fld : Nat → Option Str
def HasF (P : Program) (w : World) (K : Frag) (f : Str) (pl : List D) (d : Option Addr) (H : Hp) : Prop :=
  ∃ x dd o v, pl = [x] ∧ d = some dd ∧ H dd = some (.frz o (.xd [(f, v)])) ∧ Den P w K H x v
theorem HasF.tf {P : Program} {w : World} {K : Frag} {f : Str} {pl : List D} {d : Option Addr} {H H' : Hp} (t : TF H H') (h : HasF P w K f pl d H) : HasF P w K f pl d H' := by
  obtain ⟨x, dd, o, v, e1, e2, e3, e4⟩ := h
  exact ⟨x, dd, o, v, e1, e2, t.frz _ _ _ e3, e4.tf t⟩
def XC.xs (c : XC) (P : Program) (w : World) (K : Frag) : Exs := ⟨fun k pl cls d H => k < c.n ∧ cls = c.cls k ∧ ∀ f, c.fld k = some f → HasF P w K f pl d H⟩
def XC.xp (c : XC) (tb : List (Addr × Str)) (P : Program) (w : World) (K : Frag) (k : Nat) (a : Addr) (d : Option Addr) : XP :=
  ⟨tb, fun pl u H => u = .ref a ∧ ∀ f, c.fld k = some f → HasF P w K f pl d H, fun t h => ⟨h.1, fun f e => (h.2 f e).tf t⟩⟩

/-- the reading of a field: the dict is known -/
theorem pe_xfz {X : Cx} {a C : Addr} {oe : Obj} {cls : Value} {d : Option Addr} {pn : List (Addr × Obj)} {e : Expr} {te : TE} {pos : Pos} {n : Str} (T : XfC X.K C) (hno : PySem.W.findIn X.K (.ref C) n = some none)
    (hz : Zc cls d oe) (hf : ∃ vs, oe.data = .fields vs) (hcls : cls = .ref C) (he : PE (X.suite a ((a, oe) :: pn)) e te) (hb : attributeBase e n X.env (eval e X.env) = eval e X.env) :
    PE (X.suite a ((a, oe) :: pn)) (.Attribute e n pos) (fun σ H Q => te σ H fun x H1 => x = .ref a ∧ ∃ (dd : Addr) (o : Obj) (fs : List (Str × V)) (v : V), d = some dd ∧ H1 dd = some (.frz o (.xd fs)) ∧ fs.lookup n = some v ∧ Q v H1) := by
  refine ⟨fun pins s σ H Q I h => ?_⟩
  refine attr_of hb (L2.thn (he.run pins s σ H _ I h) fun u s1 hh => ?_)
  obtain ⟨x, H1, I1, rx, ex, dd, o, fs, v, ed, ea, l, q⟩ := hh
  subst ex
  obtain rfl : u = Value.ref a := rx
  subst hcls
  subst ed
  obtain ⟨ha, _⟩ := I1.pin (a, oe) (List.mem_append_left _ List.mem_cons_self)
  obtain ⟨vs, hd⟩ := hf
  have hx : ObjOk X.prog X.w H1 s1.heap dd (.xd fs) := (I1.hok dd _ ea).2
  obtain ⟨mA, hns, hr⟩ := hx
  obtain ⟨od, ho, hl⟩ := lookIn_ns hns
  obtain ⟨u, hu, ru⟩ := RelO.some_of (v := v) (o := mA n) (by rw [← l]; exact hr n)
  have J : PySem.W.InstAt s1.heap a oe C (some od) := ⟨ha, hz.1, by unfold PySem.W.notCls; rw [hd] <;> rfl, by rw [hz.2]; exact ho⟩
  exact HandSPX.exc_get I1.kIn J T.ga T.gg T.exC (PySem.W.findObj_own T.hdC hno rfl (by rw [hl, hu])) (handed_of ru) ⟨v, H1, I1.tok _, ru, q⟩

/-- a suite's surroundings -/
abbrev Jx.suite (J : Jx) (c : XC) (k : Nat) (a : Addr) (oe : Obj) (d : Option Addr) (pn : List (Addr × Obj)) : Jx :=
  { J with X := J.X.suite a ((a, oe) :: pn), xp := c.xp J.xp.tb J.X.prog J.X.w J.X.K k a d, W := fun _ _ _ => False }
section
variable {J : Jx} {c : XC} {k : Nat} {a C : Addr} {oe : Obj} {d : Option Addr} {pn : List (Addr × Obj)}
theorem je_exf {i : Nat} {x f : Str} {np pos : Pos} (T : XfC J.X.K C) (hno : PySem.W.findIn J.X.K (.ref C) f = some none) (hz : Zc (c.cls k) d oe) (hf : ∃ vs, oe.data = .fields vs) (hC : c.cls k = .ref C) (hfl : c.fld k = some f)
    (hN : J.X.N[i]? = some x) (hv : Vis J.X.env.scope x) (hd : (x == ("__debug__" : Str)) = false) (hcd : (x == ("__classdict__" : Str)) = false) (hb : attributeBase (.Name x np) f J.X.env (eval (.Name x np) J.X.env) = eval (.Name x np) J.X.env) :
    JE (J.suite c k a oe d pn) (.Attribute (.Name x np) f pos) (.exf i) := by
  refine (pe_xfz (X := J.X) (a := a) (oe := oe) (d := d) (pn := pn) (pos := pos) T hno hz hf hC (pe_var (X := J.X.suite a ((a, oe) :: pn)) hN hv hd hcd) hb).imp fun σ H Q h => ?_
  obtain ⟨env, hp, ρ, he, hh, fi⟩ := h
  unfold evalE at fi
  obtain ⟨v, e, f1⟩ := Fin.opt fi
  unfold excOf at e
  split at e
  · rename_i y e2
    cases e
    obtain ⟨u, h1, h2⟩ := he.2 i _ e2
    obtain ⟨rfl, h3⟩ := h2
    obtain ⟨x', dd, o, v', q1, q2, q3, q4⟩ := h3 f hfl
    cases q1
    refine ⟨_, h1, rfl, dd, o, _, v', q2, q3, by simp [List.lookup], f1.here hh v' (.d q4)⟩
  · cases e
end
end Ev
end
section
/-! EvY2: try. -/
set_option autoImplicit false
set_option linter.all false
set_option maxRecDepth 100000
set_option maxHeartbeats 2000000
set_option Elab.async false
namespace Ev
open PySem PySem.Spec PyProof.Rows L2
theorem takes_len {X : Cx} {W : WX} (t : Takes X W) : Takes X (fun cls d _ H => ∀ σ : L2.St, σ.length = X.N.length → W cls d σ H) :=
  fun u s' ⟨a, B, sI, pins, σ, H, cls, d, e, I, nb, up, sky, na, os, ag, w⟩ => t u s' ⟨a, B, sI, pins, σ, H, cls, d, e, I, nb, up, sky, na, os, ag, w σ I.len⟩
theorem Fin.nox_bindF {F F' : Fx} {Xs Xs' : Exs} {W W' : Value → Option Addr → Hp → Prop} {ρ : List Addr} {H : Hp} {α β : Type} {r : Res α} {f : α → Heap → Res β} {k : β → List Addr → Heap → Hp → Prop}
    (h : Fin F Xs W ρ H (r.nox.bind f) k) : Fin F' Xs' W' ρ H r (fun a ρ' h' H' => Fin F Xs W ρ' H' (f a h') k) := by
  cases r with
  | ok a h1 => exact fun ρ' H' x y => Fin.ext x h
  | exc c pl h1 => exact h.elim
  | bad => exact h.elim
/-- what a body's end asks -/
def Post (J : Jx) (D : Ends) : Fl → List Addr → Heap → Hp → Prop := fun f ρ' _ H' => match f with
  | .next env' => ∀ σ', J.F.env ρ' H' env' σ' → D.nx σ' H'
  | .ret v => ∀ u, J.F.denP ρ' H' v u → D.rt u H'
def objO : Obj := { cls := .none, dict := none, data := .fields #[] }
/-- the clauses, as the model's -/
def clsOf (J : Jx) (c : XC) : List (Nat × Option Nat) → List (List S) → List Cl
  | (k, n) :: cs, ss :: r => ⟨c.cls k, n, fun a cls d D σ H => cls = c.cls k ∧ (tS1 (J.suite c k a objO d []) (evalSs J.g ss) D σ H)⟩ :: clsOf J c cs r
  | _, _ => []
section
variable {J : Jx} {c : XC}
theorem env_noExn {F F' : Fx} (h1 : F.P = F'.P) (h2 : F.w = F'.w) (h3 : F.K = F'.K) (h4 : F.tv = F'.tv) {ρ : List Addr} {H : Hp} {env : Env} {σ : L2.St} (h : F'.env ρ H env σ) : F.env ρ H (env.map noExn) σ := by
  obtain ⟨P, w, K, tv, xp⟩ := F
  obtain ⟨P', w', K', tv', xp'⟩ := F'
  obtain rfl : P = P' := h1
  obtain rfl : w = w' := h2
  obtain rfl : K = K' := h3
  obtain rfl : tv = tv' := h4
  refine ⟨by rw [List.length_map]; exact h.1, fun i n e => ?_⟩
  rw [List.getElem?_map] at e
  cases q : env[i]? with
  | none => rw [q] at e; cases e
  | some o =>
    rw [q] at e
    cases o with
    | none => cases e
    | some x =>
      cases x with
      | exn pl => cases e
      | v x =>
        cases e
        obtain ⟨u, a, b⟩ := h.2 i _ q
        exact ⟨u, a, b⟩
theorem env_setNone {F : Fx} {ρ : List Addr} {H : Hp} {env : Env} {σ : L2.St} (h : F.env ρ H env σ) (i : Nat) : F.env ρ H (env.set i none) (σ.set i none) := by
  refine ⟨by simpa using h.1, fun j n e => ?_⟩
  by_cases hj : j = i
  · subst hj
    rw [List.getElem?_set] at e
    simp at e
  · rw [List.getElem?_set_ne (Ne.symm hj)] at e
    obtain ⟨u, a, b⟩ := h.2 j n e
    exact ⟨u, by rw [List.getElem?_set_ne (Ne.symm hj)]; exact a, b⟩
theorem evalH_w (hxs : J.Xs = c.xs J.X.prog J.X.w J.X.K) (hx : ∀ k j, k < c.n → j < c.n → PySem.W.exmOne J.X.K (c.cls k) (c.cls j) = some (decide (j = k))) {k0 : Nat} {pl : List D} {cls : Value} {d : Option Addr} {D : Ends}
    {ρ : List Addr} {hp : Heap} {H : Hp} {env : Env} {σ : L2.St} (hh : J.F.heap ρ hp H) (hE : ∀ (i : Nat) (n : NV), env[i]? ≠ some (some n)) (hl : env.length = σ.length) (hd : J.Xs.d k0 pl cls d H) :
    ∀ (cs : List (Nat × Option Nat)) (ss : List (List S)), (cs.all fun p => decide (p.1 < c.n)) = true → Fin J.F J.Xs J.W ρ H (evalH J.g k0 pl env hp cs ss) (Post J D) →
      wCls J.X.K (fun cls d _ H => J.W cls d H) D (clsOf J c cs ss) cls d σ H
  | [], _, _, h => by
    unfold evalH at h
    exact h ρ H cls d (Ext.refl _ _) hh hd
  | _ :: _, [], _, h => by
    unfold evalH at h
    exact h ρ H cls d (Ext.refl _ _) hh hd
  | (k, n) :: cs, s :: ss, hn, h => by
    have hd' := hd
    rw [hxs] at hd'
    obtain ⟨hk0, hcls, hfl⟩ := hd'
    simp only [List.all_cons, Bool.and_eq_true, decide_eq_true_eq] at hn
    unfold evalH at h
    refine ⟨decide (k = k0), by rw [hcls]; exact hx k0 k hk0 hn.1, fun e a na => ?_, fun e => ?_⟩
    · have ek : k = k0 := of_decide_eq_true e
      subst ek
      rw [if_pos rfl] at h
      cases n with
      | none =>
        refine ⟨hcls, env, hp, ρ, ⟨hl, fun i n e => absurd e (hE i n)⟩, hh, ?_⟩
        refine (Fin.nox_bindF h).mono fun r ρ' h' H' x y z => ?_
        cases r with
        | ret v => exact fun u du => Fin.here z y u du
        | next env' => exact fun σ' e' => Fin.here z y σ' (env_noExn (F := J.F) (F' := (J.suite c k a objO d []).F) rfl rfl rfl rfl e')
      | some i =>
        refine ⟨hcls, env.set i (some (.exn pl)), hp, ρ, ⟨by simpa using hl, fun j n e => ?_⟩, hh, ?_⟩
        · by_cases hj : j = i
          · subst hj
            rw [List.getElem?_set] at e
            split at e
            · split at e
              · cases e
                rename_i hlt
                exact ⟨.ref a, by rw [List.getElem?_set]; simp; omega, rfl, hfl⟩
              · cases e
            · rename_i q; exact absurd rfl q
          · rw [List.getElem?_set_ne (Ne.symm hj)] at e
            exact absurd e (hE j n)
        · refine (Fin.nox_bindF h).mono fun r ρ' h' H' x y z => ?_
          cases r with
          | ret v => exact fun u du => Fin.here z y u du
          | next env' => exact fun σ' e' => Fin.here z y _ (env_setNone (env_noExn (F := J.F) (F' := (J.suite c k a objO d []).F) rfl rfl rfl rfl e') i)
    · have ek : k ≠ k0 := of_decide_eq_false e
      rw [if_neg ek] at h
      exact evalH_w hxs hx hh hE hl hd cs ss hn.2 h
theorem js_tri {s : S} {b : Stmt} {h₀ : ExceptHandler} {hds : List ExceptHandler} {pos : Pos} {cs : List (Nat × Option Nat)} {suites : List (List S)} (ok : J.Ok) (hs : J.X.stack = J.X.env :: J.X.outer) (hf : J.X.env.frame = some J.X.env.locals)
    (hxs : J.Xs = c.xs J.X.prog J.X.w J.X.K) (hx : ∀ k j, k < c.n → j < c.n → PySem.W.exmOne J.X.K (c.cls k) (c.cls j) = some (decide (j = k)))
    (hb : ∀ (W : Value → Option Addr → Hp → Prop) (pn : List (Addr × Obj)) (xe : Value → Shared → Prop), ({ J with X := J.X.tr pn xe, W := W } : Jx).Ok → JSs { J with X := J.X.tr pn xe, W := W } [b] [s])
    (hcl : ClsOk J.X (h₀ :: hds) (clsOf J c cs suites)) (hn : (cs.all fun p => decide (p.1 < c.n)) = true) : JS J (.Try [b] (h₀ :: hds) [] [] pos) (.tri s cs suites) := by
  refine (ps_try_cls (X := J.X) (Wout := fun cls d _ H => J.W cls d H) (tb := fun W => fun D σ H => σ.length = J.X.N.length → tS1 { J with W := fun cls d H => ∀ σ : L2.St, σ.length = J.X.N.length → W cls d σ H } (evalSs J.g [s]) D σ H) hs hf ok.nd ok.tk (fun W pn xe tk po => ?_) hcl).imp fun D σ H h => ?_
  · have z := hb (fun cls d H => ∀ σ : L2.St, σ.length = J.X.N.length → W cls d σ H) pn xe ⟨po, ok.nd, ok.guards, ok.units, takes_len tk⟩
    exact ⟨fun pins s σ H D I h => z.run pins s σ H D I (h I.len)⟩
  · intro hlen
    obtain ⟨env, hp, ρ, he, hh, fi⟩ := h
    refine ⟨env, hp, ρ, he, hh, ?_⟩
    unfold evalS at fi
    unfold evalSs
    cases e : evalS J.g s env hp with
    | bad => rw [e] at fi; exact fi.elim
    | ok r h1 =>
      rw [e] at fi
      cases r with
      | next env' => exact fi
      | ret v => exact fi
    | exc k pl h1 =>
      rw [e] at fi
      intro ρ' H' cls d x y hd σ' hl'
      refine evalH_w hxs hx y (fun i n q => ?_) (by rw [List.length_map, he.1, hlen, hl']) hd cs suites hn (Fin.ext x fi)
      rw [List.getElem?_map] at q
      cases q2 : env[i]? with
      | none => rw [q2] at q; cases q
      | some _ => rw [q2] at q; cases q
end
end Ev
end
section
/-! EvZ1: own exceptions whose __init__ says super().__init__(..): the making. -/
set_option autoImplicit false
set_option linter.all false
set_option maxRecDepth 100000
set_option maxHeartbeats 2000000
set_option Elab.async false
namespace Ev
open PySem PySem.Spec PyProof.Rows L2

/-- the built-in class over which an own one stands -/
structure BaseX (B newId initId : String) (bmB : List Value) : Prop where
  fb : ExcBaseFacts B newId initId bmB
  kf : PySem.W.KxsFacts B initId
/-- what the written part says of the class at C -/
structure ExK (P : Program) (K : Frag) (C : Addr) (B newId initId : String) (bmB : List Value) : Prop where
  base : BaseX B newId initId bmB
  init : PySem.W.excInitIn K C bmB newId = true
  sup : PySem.W.ks_superIn K C C "__init__" = some (some (.builtin initId))
  subB : PySem.W.subIn K (.ref C) (.type B) = some true
  tp : PySem.W.nsIn K cStatics "thirdparty.any" = some none
  mro : PySem.W.mroIn K C (.ref C) = some true
  cd : ∃ cd, PySem.W.clsIn K C = some cd
  top : (P.main.scope.names.lookup ("super" : Str)).isSome = false

/-- super().__init__(e), the code known -/
theorem super_init {X : Cx} {body : List Stmt} {B newId initId : String} {bmB : List Value} {C cc cda f a : Addr} {od cod cld : Option Addr} {oc ccl ccl2 : Value} {osl ccs csl : Array (Option Value)} {fd : FuncData} {ar : Arg} {vs : Array Value} {file : Str} {tf : Tok}
    {p0 p1 p2 p3 pos : Pos} {e : Expr} {ta : TA} {pl : Sem Bool} {σ : L2.St} {H : Hp} {s : Shared} {Q : Hp → Prop} (T : ExK X.prog X.K C B newId initId bmB)
    (hks : X.env.kindOf "super" = some .globalImplicit) (hkc : X.env.kindOf "__class__" = some .free) (hfu : X.env.func = some f) (hf : X.K.lookup f = some ⟨oc, od, .func fd, osl⟩) (hp : (fd.params.posonlyargs ++ fd.params.args).head? = some ar)
    (hco : X.env.code = .ref cda) (hcode : X.K.lookup cda = some ⟨ccl, cod, .fields vs, ccs⟩) (hvs : vs[2]? = some (.str file tf)) (hfile : ((X.prog.main.file : Str) == file) = true)
    (hcell : X.K.lookup cc = some ⟨ccl2, cld, .cell (some (.ref C)), csl⟩) (hcc : X.env.cells.lookup ("__class__" : Str) = some cc) (hm : X.mg "super" = none) (hN : X.N[0]? = some ar.arg) (hka : X.env.kindOf ar.arg = some .local)
    (hi : interactive X.env = false)
    (hs : swapsWith (.Call (.Attribute (.Call (.Name "super" p0) [] [] p1) "__init__" p2) [e] [] p3) none pos.line X.env = pure false)
    (he : eval (.Call (.Attribute (.Call (.Name "super" p0) [] [] p1) "__init__" p2) [e] [] p3) X.env = (do
      let ov ← attributeBase (.Call (.Name "super" p0) [] [] p1) "__init__" X.env (eval (.Call (.Name "super" p0) [] [] p1) X.env)
      standAt p2.atName
      let (f, first) ← holding [ov] (getMethod ov "__init__" pl)
      callWith p3 f first (backTo p3 (starEach [e] X.env)) []))
    (hst : starEach [e] X.env = (false, eval e X.env) :: starEach [] X.env)
    (hE : PA X [e] ta) (I : Inv X [] σ H s) (hσ : σ[0]? = some (some (.ref a))) (hH : H a = some (exo a C none)) (h : ta σ H fun ws H1 => ws.length ≤ 1000 ∧ H1 a = some (exo a C none) ∧ Q H1) :
    PySem.wpAt (model X.prog X.w) X.A (.func body X.env) (exec (.Expr (.Call (.Attribute (.Call (.Name "super" p0) [] [] p1) "__init__" p2) [e] [] p3) pos) X.env) (fun fl s' => fl = .next ∧ ∃ H1, Inv X [] σ H1 s' ∧ Q H1) X.xe s := by
  have KX := I.kIn
  obtain ⟨cd, hcd⟩ := T.cd
  obtain ⟨m, hns, hloc⟩ := id I.loc
  obtain ⟨u, hu, hlk⟩ := hloc 0 ar.arg (.ref a) hN hσ (.inl hka)
  obtain rfl : u = Value.ref a := hu
  have hma : m ar.arg = some (.ref a) := by
    rcases hlk with hlk | ⟨hlk, _⟩
    · exact hlk.2
    · rw [hka] at hlk
      rcases hlk with z | z <;> cases z
  obtain ⟨t1, hoa⟩ := exo_at I.hok hH
  obtain ⟨mb, hb1, hb2⟩ := I.mod.blt
  obtain ⟨oD, hD1, hD2⟩ : ∃ oD, s.heap.get? C = some oD ∧ oD.data = .cls cd := by
    unfold PySem.W.clsIn at hcd
    split at hcd
    · rename_i c d cd' sl ho
      cases hcd
      exact ⟨_, KX _ _ ho, rfl⟩
    · cases hcd
  refine ks_wpAt_Expr_any (ks_wpAt_MethodCall (pl := pl) (ks_wpAt_super_base (f := f) (cc := cda) hks hkc (by decide) hfu (KX _ _ hf) rfl hp hco (KX _ _ hcode) rfl hvs hfile T.top ?_) he) hi hs
  refine PySem.W.ks_loadName_global I.ok.kind hks (Calls.loadGlobal_builtin (by rw [I.ok.glob]; exact I.mod.glob.keeps I.bk) hm (by rw [I.ok.blt]; exact hb1.keeps I.bk) ((hb2 "super" (by decide)).trans (by decide +kernel)) ⟨rfl, ?_⟩)
  refine wpAny_loadName_free I.ok.kind hkc hcc ⟨_, KX _ _ hcell, rfl⟩ ?_
  refine wpAny_loadName_local I.ok.kind hka hns hma ?_
  have IA : PySem.W.InstAt s.heap a _ C none := ⟨hoa, rfl, rfl, trivial⟩
  have hsub : PySem.W.Looks (model X.prog X.w) s.heap (isSubtype (.ref C) (.ref C)) true := PySem.W.looks_mroIn KX T.mro
  obtain ⟨hh, g, d, tk, os⟩ := s
  refine ks_wpAny_isType_cls hD1 hD2 ⟨rfl, ?_⟩
  refine ks_wpAny_call_super hD1 hD2 hoa rfl (fun c z => by cases z) hsub fun h1 hso k1 => ?_
  have I1 : Inv X [] σ H ⟨h1, g, d, tk, os⟩ := I.kept (t' := tk) k1
  have KX1 := I1.kIn
  have IA1 : PySem.W.InstAt h1 a _ C none := ⟨k1 _ _ hoa, rfl, rfl, trivial⟩
  have hI1 : PySem.W.Looks (model X.prog X.w) h1 (isInstance (.ref a) (.type B)) true := IA1.type.andThen (PySem.W.looks_subIn KX1 T.subB)
  have hsup := T.sup
  unfold PySem.W.ks_superIn at hsup
  rw [hcd] at hsup
  have nxC : a ≠ C := PySem.W.ks_ne KX1 IA1 hcd
  refine PySem.W.kxs_getMethod T.base.kf hso (PySem.W.looks_opaque KX1 T.tp) (l₀ := cd.mro) (fun A Q E s k q => wpAny_bind ((PySem.W.looks_clsIn KX1 hcd) A _ E s k (wpAny_pure q))) rfl KX1 hsup hI1 nxC (by decide) ?_
  have k2 : ∀ b o, h1.get? b = some o → (h1.push (PySem.W.kxs_mw initId a)).get? b = some o := fun b o z => Heap.get?_push_of_some _ z
  have I2 : Inv X [] σ H ⟨h1.push (PySem.W.kxs_mw initId a), g, d, tk + 1, os⟩ := I1.kept (t' := tk + 1) k2
  have hu2 : (h1.push (PySem.W.kxs_mw initId a)).get? h1.objs.size = some (PySem.W.kxs_mw initId a) := Heap.get?_push_at rfl rfl
  have I3 : Inv X [(h1.objs.size, PySem.W.kxs_mw initId a)] σ H ⟨h1.push (PySem.W.kxs_mw initId a), g, d, tk + 1, os⟩ := I2.pins_of fun p hp => by
    obtain rfl : p = _ := by simpa using hp
    refine ⟨hu2, I1.hok.fresh (Nat.le_refl _), fun z => ?_, I1.nofs (Nat.le_refl _), fun v z => by cases z⟩
    have y := I1.lt
    rw [← z] at y
    exact absurd y (Nat.lt_irrefl _)
  show wpAny _ _ (callWith p3 (.ref h1.objs.size) [] (backTo p3 (starEach [e] X.env)) []) _ _ _
  suffices hrun : wpAny (model X.prog X.w) X.A (spliced (backTo p3 (starEach [e] X.env))) (fun vs s' => PySem.W.KxsAt initId h1.objs.size a s'.heap ∧ wpAny (model X.prog X.w) X.A (call (.ref h1.objs.size) vs) (fun x s' => Flow.next = Flow.next ∧ ∃ H1, Inv X [] σ H1 s' ∧ Q H1) X.xe s') X.xe ⟨h1.push (PySem.W.kxs_mw initId a), g, d, tk + 1, os⟩ by
    rw [hst] at hrun ⊢
    exact PySem.W.kxs_callWith (i := initId) (x := a) rfl (Calls.evalArgs_plain hrun)
  refine L2.thn (hE.run p3 _ _ σ H _ I3 h) fun us s1 hh1 => ?_
  obtain ⟨ws, H1, I4, r1, hlen, hH1, q⟩ := hh1
  have hu4 : s1.heap.get? h1.objs.size = some (PySem.W.kxs_mw initId a) := (I4.pin (h1.objs.size, PySem.W.kxs_mw initId a) (List.mem_append_right _ (List.mem_singleton.mpr rfl))).1
  refine ⟨hu4, ?_⟩
  obtain ⟨t2, hoa4⟩ := exo_at I4.hok hH1
  have hz : us.length ≤ sizeLine := by
    rw [← Paired.length r1, sizeLine_eq]
    omega
  obtain ⟨hp4, g4, d4, tk4, os4⟩ := s1
  obtain ⟨nm, N', qn, bs, bm, hdct, sn, sub, ab, col, dd, k0, k1', k2', k3, k5, hC, hT⟩ := PySem.W.excInit_of I4.kIn T.init
  refine wpAny_call (codeAny_of_tree ?_)
  show wpAny _ X.A.in1 (callAny (.ref _) ⟨us, []⟩) _ _ _
  simp only [callAny]
  refine wpAny_bind (wpAny_load hu4 ?_)
  simp only [PySem.W.kxs_mw, show (Value.type "method-wrapper" == Value.type "method" || Value.type "method-wrapper" == Value.type "builtin_function_or_method" || Value.type "method-wrapper" == Value.type "method-wrapper") = true by decide, if_true]
  refine PySem.W.KFB.if_so (by decide) ?_
  refine wpAny_bind (PySem.W.check_bound_init T.base.fb.toExcCallFacts hC hoa4 rfl ?_)
  refine wpAny_bind (wpAny_pure (wpAny_pure ?_))
  refine ⟨plainId_quiet T.base.fb.init.plain _, codeAny_builtin T.base.fb.initEntry ?_⟩
  refine PySem.W.exc_init_tree (cls := .ref C) (t0 := t2) (dv := none) (c2 := .none) (c3 := .none) (b4 := .bool false) hoa4 hz fun h' k e' t' => ?_
  have J := I4.write (t' := tk4) (x := a) (e := a) (o := exo a C none) (by rw [hH1]; exact True.intro) (.inl rfl) k ⟨_, e'⟩ (exo_ok e')
  have eu : upd H1 a (exo a C none) = H1 := by
    funext b
    by_cases hb : b = a
    · rw [hb, upd_same, hH1]
    · rw [upd_ne hb]
  rw [eu] at J
  have J' : Inv X [] σ H1 ⟨h', g4, d4, tk4, os4⟩ := J.pins_of fun p hp => absurd hp (by simp)
  exact ⟨trivial, H1, J', q⟩
end Ev
end
section
/-! EvZ2: own exceptions: __init__ as a def, the class called, raise. -/
set_option autoImplicit false
set_option linter.all false
set_option maxRecDepth 100000
set_option maxHeartbeats 2000000
set_option Elab.async false
namespace Ev
open PySem PySem.Spec PyProof.Rows L2 NdefX

/-- the def's code object: it tells the file -/
structure CodeF (P : Program) (K : Frag) (cda : Addr) (qual : Str) : Prop where
  cd : PySem.W.codeIn K (.ref cda) qual = true
  file : ∃ (ccl : Value) (cod : Option Addr) (vs : Array Value) (ccs : Array (Option Value)) (file : Str) (tf : Tok), K.lookup cda = some ⟨ccl, cod, .fields vs, ccs⟩ ∧ vs[2]? = some (.str file tf) ∧ ((P.main.file : Str) == file) = true
section
variable {P : Program} {w : World} {K : Frag} {mg : Str → Option Value} {base : PySem.Heap} {CX : CXT} {k : Nat} {f C cc : Addr} {F : NF} {N ps : List Str} {sp : Sp} {B newId initId : String} {bmB : List Value}
/-- a def that closes over __class__ and begins with super().__init__(e) -/
theorem fn_super {oc : Value} {od : Option Addr} {doc pm ctv : Value} {osl : Array (Option Value)} {ar : Arg} {p0 p1 p2 p3 pos : Pos} {e : Expr} {rest : List Stmt} {ccl2 : Value} {cld : Option Addr} {csl : Array (Option Value)} {pl : PySem.Env → Sem Bool}
    (T : ExK P K C B newId initId bmB) (S : NScope N ps ["__class__"] F.scope) (hcl : F.cl = [(("__class__" : Str), cc)]) (lk : K.lookup f = some ⟨oc, od, .func (F.fd doc pm ctv), osl⟩) (hcode : CodeF P K F.c F.qual)
    (hcell : K.lookup cc = some ⟨ccl2, cld, .cell (some (.ref C)), csl⟩) (hm : mg "super" = none) (hbody : F.body = .Expr (.Call (.Attribute (.Call (.Name "super" p0) [] [] p1) "__init__" p2) [e] [] p3) pos :: rest)
    (hN0 : N[0]? = some ar.arg) (hp : (F.params.posonlyargs ++ F.params.args).head? = some ar) (hka : F.scope.names.lookup ar.arg = some .local) (hks : F.scope.names.lookup ("super" : Str) = some .globalImplicit)
    (len : ∀ vs H Q E, sp vs H Q E → vs.length = ps.length)
    (hi : ∀ L : Addr, interactive (envF F f L) = false)
    (hs : ∀ L : Addr, swapsWith (.Call (.Attribute (.Call (.Name "super" p0) [] [] p1) "__init__" p2) [e] [] p3) none pos.line (envF F f L) = pure false)
    (he : ∀ L : Addr, eval (.Call (.Attribute (.Call (.Name "super" p0) [] [] p1) "__init__" p2) [e] [] p3) (envF F f L) = (do
      let ov ← attributeBase (.Call (.Name "super" p0) [] [] p1) "__init__" (envF F f L) (eval (.Call (.Name "super" p0) [] [] p1) (envF F f L))
      standAt p2.atName
      let (g, first) ← holding [ov] (getMethod ov "__init__" (pl (envF F f L)))
      callWith p3 g first (backTo p3 (starEach [e] (envF F f L))) []))
    (hst : ∀ L : Addr, starEach [e] (envF F f L) = (false, eval e (envF F f L)) :: starEach [] (envF F f L))
    (hrun : ∀ (A : Around) (outer : List PySem.Env) (s : Shared) (H : Hp) (vs : List V) (Q : VK) (E : XK), Room k (A.deeper (envF F f s.heap.objs.size)) → sp vs H Q E →
      ∃ a ta t, vs[0]? = some (.ref a) ∧ H a = some (exo a C none) ∧ PA (ncx CX P w K mg base N F f A outer s H E) [e] ta ∧ PSs (ncx CX P w K mg base N F f A outer s H E) rest t ∧
        ta (startF N vs [none]) H (fun ws H1 => ws.length ≤ 1000 ∧ H1 a = some (exo a C none) ∧ t { nx := fun _ H' => Q .non H', rt := Q } (startF N vs [none]) H1)) :
    FnOk P w K mg base CX (k + 1) f (F.fd doc pm ctv) ps sp := by
  refine ⟨len, fun A outer s H args us vs Q E hr e0 hb r hsp => ?_⟩
  have hl := len _ _ _ _ hsp
  have KX : K.In s.heap := e0.mod.kin.keeps fun b o e => (e0.bs b o e).1
  have lim : s.heap.NoLimit := e0.mod.nolimit.keeps fun b o e => (e0.bs b o e).1
  refine codeAny_call_function hr.depth (KX _ _ lk) rfl S.co S.gen rfl (PySem.W.codeRec_of KX hcode.cd) (hb _ _ _ _ ?_)
  refine wpAny_newFunctionEnv S.nocell (fun ⟨n, _⟩ hy => S.par n (List.of_mem_zip hy).1) (fun h₁ hns hsb => ⟨lim.fresh _ hsb, ?_⟩) S.kind
  show codeAny _ _ (.func F.body (envF F f s.heap.objs.size)) _ _
  refine ks_codeAny_funcAt ?_
  have kp : ∀ b o, s.heap.get? b = some o → h₁.get? b = some o := fun b o e => hsb.extBut b o (Nat.ne_of_lt (Heap.lt_size e)) (Heap.get?_push_of_some _ e)
  obtain ⟨a, ta, t, hv, hH, hA, ht, hq⟩ := hrun A outer s H vs Q E (hr.deeper _) hsp
  have hC : CellsAt F.cl ["__class__"] [none] s.heap H := by
    rw [hcl]
    have one : ∀ {y : Str} {c : Addr}, List.lookup y [(("__class__" : Str), cc)] = some c → y = "__class__" ∧ c = cc := fun {y c} h => by
      by_cases q : y = "__class__"
      · subst q
        simp [List.lookup] at h
        exact ⟨rfl, h.symm⟩
      · have q' : (y == ("__class__" : Str)) = false := by simpa using q
        simp [List.lookup, q'] at h
    refine ⟨rfl, fun y c h => ?_, fun x y c h1 h2 => ?_, fun i y h => ?_⟩
    · obtain ⟨_, rfl⟩ := one h
      have z := e0.mod.kin _ _ hcell
      exact ⟨(e0.bs _ _ z).2, _, _, (e0.bs _ _ z).1, rfl⟩
    · rw [(one h1).1, (one h2).1]
    · match i, h with
      | 0, h =>
        simp at h
        subst h
        exact ⟨cc, by simp [List.lookup], fun v z => by simp at z⟩
      | i + 1, h => simp at h
  have I : Inv (ncx CX P w K mg base N F f A outer s H E) [] (startF N vs [none]) H { s with heap := h₁, toks := s.toks + (ps.zip us).length } := inv_startN S hr.hd e0 hl r hC hns kp
  obtain ⟨ccl, cod, fvs, ccs, file, tf, hc1, hc2, hc3⟩ := hcode.file
  have hσ : (startF N vs [none])[0]? = some (some (.ref a)) := by
    cases vs with
    | nil => cases hv
    | cons v vs' =>
      simp at hv
      subst hv
      rfl
  rw [hbody]
  refine ks_wpAt_execs_cons (PySem.wpAt_mono (super_init (X := ncx CX P w K mg base N F f A outer s H E) (a := a) (ta := ta) (pl := pl (envF F f s.heap.objs.size)) (Q := fun H1 => t { nx := fun _ H' => Q .non H', rt := Q } (startF N vs [none]) H1) T hks (S.frk _ (by simp)) rfl lk hp rfl hc1 hc2 hc3 hcell (by rw [show (ncx CX P w K mg base N F f A outer s H E).env.cells = F.cl from rfl, hcl]; simp [List.lookup]) hm hN0 hka (hi _) (hs _) (he _) (hst _) hA I hσ hH hq) (fun fl s1 hs1 => ?_) fun _ _ z => z)
  obtain ⟨rfl, H1, I1, q1⟩ := hs1
  refine PySem.wpAt_of_wpAny (wpAny_mono (ht.run [] s1 _ H1 _ I1 q1) (fun fl s' hs => ?_) fun e s' hs => hs)
  have fin : ∀ {σ' : L2.St} {H' : Hp} {v : V} {u : Value}, Inv (ncx CX P w K mg base N F f A outer s H E) [] σ' H' s' → L2.RelV v u → Q v H' → CE outer P w H s Q u s' :=
    fun {σ' H' v u} J rv q => ⟨v, H', J.os, J.bare, J.base, J.hok, rv, q⟩
  cases fl with
  | ret u =>
    obtain ⟨v, σ', H', J, rv, q⟩ := hs
    exact fin J rv q
  | next =>
    obtain ⟨σ', H', J, q⟩ := hs
    exact fin (v := V.non) (u := Value.none) J rfl q
  | brk =>
    obtain ⟨_, _, _, q⟩ := hs
    exact False.elim q
  | cont =>
    obtain ⟨_, _, _, q⟩ := hs
    exact False.elim q
end
end Ev
end
section
/-! EvZ3: own exceptions: self.f = e in __init__; the class called; raise. -/
set_option autoImplicit false
set_option linter.all false
set_option maxRecDepth 100000
set_option maxHeartbeats 2000000
set_option Elab.async false
namespace Ev
open PySem PySem.Spec PyProof.Rows L2 NdefX

structure ExS (K : Frag) (C : Addr) (B : String) (bmB : List Value) : Prop where
  sf : StoreFacts B bmB "object.__setattr__" "object"
  sa : PySem.W.findIn K (.ref C) "__setattr__" = some (some (.builtin "object.__setattr__"))
  over : PySem.W.excOver K C bmB = true
  hd : PySem.W.hasDictIn K C = true
  exC : PySem.W.subIn K (.ref C) (.type "BaseException") = some true
  tyC : PySem.W.typeIn K (.ref C) = some (.type "type")
  kC : PySem.W.keepIn K (.ref C) = true
section
open Builtin Builtin.ObjectAttr
variable {prog : Program} {w : World} {A : Around} {R : Result → Shared → Prop} {hp : PySem.Heap} {g : Array GenState} {d : Drawn} {t : Nat} {os : OsState}
theorem osa_new {K : Frag} {B : String} {bmB : List Value} {name : Str} {tk : Tok} {v : Value} {x C : Addr} {fv : Array Value} (T : ExS K C B bmB) (X : K.In hp) (hx : hp.get? x = some ({ cls := .ref C, data := .fields fv } : Obj)) (ht : PySem.W.takerIn K C name = some none)
    (hq : ∀ h' tk' dx, (∀ b o, b ≠ x → hp.get? b = some o → h'.get? b = some o) → hp.objs.size ≤ dx → dx ≠ x → h'.get? x = some ({ cls := .ref C, dict := some dx, data := .fields fv } : Obj) →
      h'.Ns1 dx (fun y => if y = name then some v else none) → R (.ok (.ret .none)) ⟨h', g, d, tk', os⟩) :
    codeAny (model prog w) A (.call (.builtin "object.__setattr__") ⟨[.ref x, .str name tk, v], []⟩) R ⟨hp, g, d, t, os⟩ := by
  have IA : PySem.W.InstAt hp x { cls := .ref C, data := .fields fv } C none := ⟨hx, rfl, rfl, trivial⟩
  have hxs : x ≠ hp.objs.size := Nat.ne_of_lt (Heap.lt_size hx)
  refine PySem.W.osa_openX (s := ⟨hp, g, d, t, os⟩) T.sf X IA T.over ht fun b => ?_
  obtain ⟨cd, hcd, hh⟩ := PySem.W.any_some (show (PySem.W.clsIn K C).any (·.hasDict) = true from T.hd)
  have hcls : PySem.W.Looks (model prog w) hp (classData C) cd := PySem.W.looks_clsIn X hcd
  obtain ⟨nm, bs, mro, ns, qn, hd, sn, sb, ab, col, del⟩ := cd
  dsimp only at hh
  subst hh
  show wpAny _ _ (storeInOwnDict (.ref x) (.ref C) (.str name tk) name v b) _ _ _
  unfold storeInOwnDict ownDictForStores
  repeat (first | with_reducible refine HandSPX.store_in_new ?_ ?_ | with_reducible refine wpAny_loadPart_at hx ?_ | with_reducible refine hcls.at ?_ | wp_step)
  · exact ⟨_, #[], _, (Heap.get?_update_ne _ _ _ _ hxs.symm).trans (Heap.get?_push_at rfl rfl), rfl, fun e he => absurd he (by simp), fun _ => rfl⟩
  · intro h' tk' hn' hs
    have hx₁ : (hp.push { cls := .type "dict", data := .dict #[] }).get? x = some ({ cls := .ref C, data := .fields fv } : Obj) := Heap.get?_push_of_some _ hx
    refine hq h' tk' hp.objs.size (fun b o hb ho => ?_) (Nat.le_refl _) hxs.symm ?_ hn'
    · exact (hs.2 b (Nat.ne_of_lt (Heap.lt_size ho))).trans ((Heap.get?_update_ne _ _ _ _ hb).trans (Heap.get?_push_of_some _ ho))
    · exact (hs.2 x hxs).trans (Heap.get?_update_self _ hx₁ rfl)
end
section
variable {X : Cx} {pins : List (Addr × Obj)} {σ : L2.St} {H : Hp} {s : Shared} {a C : Addr} {f : Str} {y : V} {u : Value} {B : String} {bmB : List Value}
theorem ost_newB {Q : Unit → Shared → Prop} {E : Value → Shared → Prop} {A : Around} (T : ExS X.K C B bmB) (I : Inv X pins σ H s) (e : H a = some (exo a C none)) (ht : PySem.W.takerIn X.K C f = some none) (ry : RelV y u)
    (h : ∀ dx s', H dx = none → dx ≠ a → Inv X pins σ (upd (upd H dx (exd dx [(f, y)])) a (exo a C (some dx))) s' → Q () s') : wpAny (model X.prog X.w) A (setAttr (.ref a) f u) Q E s := by
  obtain ⟨t1, ho⟩ := exo_at I.hok e
  obtain ⟨hp, g, d, t, os⟩ := s
  refine PySem.W.set_plain I.kIn (ox := { cls := .ref C, dict := none, data := .fields #[.ref t1, .none, .none, .none, .bool false, .none] }) (od := none) ⟨ho, rfl, rfl, trivial⟩ T.sa ?_
  refine osa_new T I.kIn ho ht fun h' tk' dx k dn dne hx hn => ?_
  have hnd : H dx = none := I.hok.fresh dn
  have nd : ∀ {b : Addr} {o : Obj}, hp.get? b = some o → b ≠ dx := fun {b o} q => Nat.ne_of_lt (Nat.lt_of_lt_of_le (Heap.lt_size q) dn)
  have na : ∀ {b : Addr}, H b = none → b ≠ a := fun {b} n z => by
    rw [z, e] at n
    cases n
  have Un1 : Un X.fs [] H (upd (upd H dx (exd dx [(f, y)])) a (exo a C (some dx))) hp h' :=
    ⟨fun b o q n _ _ => k b o (na n) q, fun b o q n _ _ => ⟨o.slots, k b o (na n) q⟩, fun b o q n _ => by rw [upd_ne (na n), upd_ne (nd q)]; exact n, fun b o q _ => by
      by_cases hb : b = a
      · exact ⟨_, by rw [hb]; exact hx⟩
      · exact ⟨o, k b o hb q⟩, fun b xs q => by rw [upd_ne (at_ne e q exo_tup), upd_ne (ne_of_none q hnd)]; exact q, fun b o v q => by rw [upd_ne (at_ne e q exo_frz), upd_ne (ne_of_none q hnd)]; exact q,
      fun b ps q => ⟨#[], by rw [upd_ne (at_ne e q exo_tbl), upd_ne (ne_of_none q hnd), q]; simp⟩⟩
  refine h dx _ hnd dne (I.un (t' := tk') Un1 fun b o q => ?_)
  by_cases hb : b = a
  · subst hb
    rw [upd_same] at q
    cases q
    exact exo_ok hx
  · rw [upd_ne hb] at q
    by_cases hd : b = dx
    · subst hd
      rw [upd_same] at q
      cases q
      exact exd_ok hn (relO_put (fs := []) ry fun g => True.intro)
    · rw [upd_ne hd] at q
      refine (I.hok b o q).stay (fun c v hc z => k c v ?_ z) (fun c hc => by rw [upd_ne (at_ne e hc exo_own), upd_ne (ne_of_none hc hnd)]; exact hc) (fun c xs hc => by rw [upd_ne (at_ne e hc exo_tup), upd_ne (ne_of_none hc hnd)]; exact hc)
      rcases hc with hc | hc
      · rw [hc]
        exact hb
      · exact at_ne e hc exo_own
/-- self.f = e -/
def tOstB (f : Str) (C : Addr) (to te : TE) : TS := fun D σ H => te σ H fun y H1 => to σ H1 fun x H2 => ∃ a : Addr, x = .ref a ∧ H2 a = some (exo a C none) ∧ ∀ dx, H2 dx = none → dx ≠ a → D.nx σ (upd (upd H2 dx (exd dx [(f, y)])) a (exo a C (some dx)))
theorem ps_ostB {o e : Expr} {to te : TE} {p' pos : Pos} (T : ExS X.K C B bmB) (ht : PySem.W.takerIn X.K C f = some none) (ho : PE X o to) (he : PE X e te) (hs : swapsWith e (some (.Attribute o f p')) pos.line X.env = pure false) :
    PS X (.Assign [.Attribute o f p'] e pos) (tOstB f C to te) := by
  refine ⟨fun pins s σ H D I h => ?_⟩
  refine plainObj_wpAny_Assign_Attribute (L2.thn (he.run pins s σ H _ I h) fun v s1 ⟨y, H1, I1, r1, q1⟩ => L2.thn (ho.run pins s1 σ H1 _ I1 q1) fun u s2 ⟨x, H2, I2, r2, a, ex, ea, q⟩ => ?_) hs
  subst ex
  obtain rfl : u = Value.ref a := r2
  exact ost_newB T I2 ea ht r1 fun dx s' n ne J => ⟨σ, _, J, q dx n ne⟩
end
/-! ### the class called -/
/-- what its __init__ leaves: the exception at a, its dict (none, or at d) -/
def tMkB (C : Addr) (sp : Sp) (ta : TA) : L2.St → Hp → XK → Prop := fun σ H Q => ta σ H fun vs H1 => vs.length ≤ 1000 ∧ ∀ a, H1 a = none → sp (.ref a :: vs) (upd H1 a (exo a C none))
  (fun v H2 => v = .non ∧ ((H2 = upd H1 a (exo a C none) ∧ Q (.ref C) none H1) ∨ ∃ (d : Addr) (fs : List (Str × V)), H2 a = some (exo a C (some d)) ∧ H2 d = some (exd d fs) ∧ H1 d = none ∧ Q (.ref C) (some d) (upd (del H2 a) d (.xd fs)))) (fun _ _ _ => False)
section
variable {X : Cx} {B newId initId : String} {bmB : List Value} {C fI : Addr} {CX : CXT} {x : Str} {k : Nat} {fd : FuncData} {ps : List Str} {sp : Sp} {es : List Expr} {e : Expr} {ta : TA} {p pos : Pos}
theorem mk_endN {pins : List (Addr × Obj)} {σ : L2.St} {H1 : Hp} {hp hp2 h2 : PySem.Heap} {g1 g2 : Array GenState} {d1 d2 : Drawn} {t1 t2 : Nat} {os1 os2 : OsState} {a : Addr} {Q : XK} (T : Raises X (.ref C)) (I1 : Inv X pins σ H1 ⟨hp, g1, d1, t1, os1⟩)
    (ha : hp.objs.size ≤ a) (k : ∀ b o, hp.get? b = some o → hp2.get? b = some o) (un : Un (frs X.stack) [] (upd H1 a (exo a C none)) (upd H1 a (exo a C none)) hp2 h2) (hok : HOk X.prog X.w (upd H1 a (exo a C none)) h2) (ho : os2 = os1) (hb : AllBare g2)
    (q : Q (.ref C) none H1) : MkP X pins σ Q (.ref a) ⟨h2, g2, d2, t2, os2⟩ := by
  obtain ⟨t0, hoe⟩ := exo_at hok upd_same
  have hn : H1 a = none := I1.hok.fresh ha
  obtain ⟨G, g1', g2'⟩ := restrict h2 fun b => decide (b ≠ a)
  have gk : ∀ b, b ≠ a → G.get? b = h2.get? b := fun b hb => g1' b (decide_eq_true hb)
  have ge : G.get? a = none := g2' a (by simp)
  have nha : ∀ {b : Addr} {o : Obj}, hp.get? b = some o → b ≠ a := fun {b o} z => Nat.ne_of_lt (Nat.lt_of_lt_of_le (Heap.lt_size z) ha)
  have up : ∀ {b : Addr}, b ≠ a → H1 b = none → upd H1 a (exo a C none) b = none := fun {b} hb n => by rw [upd_ne hb]; exact n
  have U : Un (frs X.stack) [] H1 H1 hp G :=
    ⟨fun b o z n hf hx => by rw [gk b (nha z)]; exact un.keep b o (k b o z) (up (nha z) n) hf hx, fun b o z n hf hx => by rw [gk b (nha z)]; exact un.slot b o (k b o z) (up (nha z) n) hf hx, fun _ _ _ n _ => n,
      fun b o z hx => by rw [gk b (nha z)]; exact un.there b o (k b o z) hx, fun _ _ z => z, fun _ _ _ z => z, fun b ps z => ⟨#[], by rw [z]; simp⟩⟩
  have hok3 : HOk X.prog X.w H1 G := fun b o z => by
    have hba : b ≠ a := fun e => by rw [e, hn] at z; cases z
    refine (hok b o (by rw [upd_ne hba]; exact z)).stay (fun c v hc y => ?_) (fun c hc => ?_) (fun c xs hc => ?_)
    · have hca : c ≠ a := by
        rcases hc with hc | hc
        · rw [hc]; exact hba
        · exact at_ne (upd_same (o := exo a C none)) hc exo_own
      rw [gk c hca]; exact y
    · have := at_ne (upd_same (o := exo a C none)) hc exo_own
      rw [upd_ne this] at hc; exact hc
    · have := at_ne (upd_same (o := exo a C none)) hc exo_tup
      rw [upd_ne this] at hc; exact hc
  have J : Inv X pins σ H1 ⟨G, g2, d2, t2, os2⟩ := I1.call' (ch := []) ho U hok3 hb (fun b z => absurd z (by simp))
  refine ⟨a, _, _, ⟨G, g2, d2, t2, os2⟩, _, .ref C, none, rfl, J, fun b o z => ?_, ge, hoe, ⟨rfl, rfl⟩, rfl, rfl, hn, rfl, hb, T, q⟩
  by_cases hba : b = a
  · rw [hba, ge] at z
    cases z
  · exact (gk b hba).symm.trans z
theorem pmk_exB (T : ExK X.prog X.K C B newId initId bmB) (S : ExS X.K C B bmB) (iC : PySem.W.findIn X.K (.ref C) "__init__" = some (some (.ref fI))) (tI : PySem.W.typeIn X.K (.ref fI) = some (.type "function"))
    (F1 : FnOk X.prog X.w X.K X.mg X.base CX k fI fd ps sp) (hr : Room (k + 1) X.A) (hb : Binds X.K fd ps []) (hx : Passes CX X (fun _ _ _ => False)) (hg : Gl X x) (hm : X.mg x = some (.ref C)) (ha : PA X (e :: es) ta)
    (hdb : (x == ("__debug__" : Str)) = false) (he : starEach (e :: es) X.env = (false, eval e X.env) :: starEach es X.env) (hpl : (backTo pos (starEach es X.env)).any (·.1) = false) :
    PMk X (.Call (.Name x p) (e :: es) [] pos) (tMkB C sp ta) := by
  intro pins s σ H Q I h
  refine wpAny_Call_Name_kw (ld_glob I hg hm ?_ hdb)
  refine PySem.W.callWith_K (h₀ := X.base) I.ok.mod.kin S.kC (thn (ha.run pos pins s σ H _ I h) fun us s1 ⟨vs, H1, I1, r1, hz, q1⟩ => ⟨I1.kIn, ?_⟩) he hpl
  show wpAny _ _ (call (.ref C) us) _ _ _
  obtain ⟨nm, N', qn, bs, bm, hdct, sn, sub, ab, col, dd, k0, k1', k2', k3, k5, hC, hT⟩ := PySem.W.excInit_of I1.kIn T.init
  obtain ⟨hp, g, dr, tk, os⟩ := s1
  have hsz : hp.objs.size ≤ hp.objs.size + 1 := Nat.le_succ _
  have hn : H1 (hp.objs.size + 1) = none := I1.hok.fresh hsz
  have hq := q1 (hp.objs.size + 1) hn
  have kk : ∀ b o, hp.get? b = some o → ((hp.push (PySem.W.kdv_tup us)).push (PySem.HandSPX.excO C hp.objs.size)).get? b = some o := fun b o e => Heap.get?_push_of_some _ (Heap.get?_push_of_some _ e)
  have hget : ((hp.push (PySem.W.kdv_tup us)).push (PySem.HandSPX.excO C hp.objs.size)).get? (hp.objs.size + 1) = some (PySem.HandSPX.excO C hp.objs.size) := by heap_get
  have I2 : Inv X pins σ (upd H1 (hp.objs.size + 1) (exo (hp.objs.size + 1) C none)) ⟨(hp.push (PySem.W.kdv_tup us)).push (PySem.HandSPX.excO C hp.objs.size), g, dr, tk, os⟩ :=
    I1.laid (t' := tk) (a := hp.objs.size + 1) (o := exo (hp.objs.size + 1) C none) (h' := (hp.push (PySem.W.kdv_tup us)).push (PySem.HandSPX.excO C hp.objs.size)) kk hsz (exo_ok hget)
  have r2 : Vals (V.ref (hp.objs.size + 1) :: vs) (Value.ref (hp.objs.size + 1) :: us) := .cons rfl r1
  have hl : (Value.ref (hp.objs.size + 1) :: us ++ []).length = ps.length := by
    have e := r2.length
    rw [F1.len _ _ _ _ hq] at e
    rw [List.append_nil]
    exact e.symm
  have hus : us.length ≤ sizeLine := by
    rw [← Paired.length r1, sizeLine_eq]
    omega
  refine wpAny_call (PySem.HandSPX.call_own T.base.fb hT hC (PySem.W.looks_findIn I1.kIn iC) (fun self => PySem.W.bind_fn I1.kIn self tI) hus
    (codeAny_mono (F1.run _ X.stack _ _ ⟨Value.ref (hp.objs.size + 1) :: us, []⟩ (Value.ref (hp.objs.size + 1) :: us) _ _ (fun _ _ _ => False) (hr.make C us []) (I2.env0.make C us []) (by have z := hb _ (Value.ref (hp.objs.size + 1) :: us) I2.kIn hl; rw [List.append_nil] at z; exact z) r2 hq) fun r s' hq' => ?_))
  cases r with
  | error er => exact hx pins σ _ _ er s' I2 hq'
  | ok fl =>
    cases fl with
    | ret u =>
      obtain ⟨v, H2, os2, bare2, un2, hok2, rv, ev, q2⟩ := hq'
      subst ev
      obtain ⟨h2, g2, d2, t2, os'⟩ := s'
      refine ⟨rv, ?_⟩
      rcases q2 with ⟨eH, q2⟩ | ⟨d, fs, ea, ed, hd1, q2⟩
      · subst eH
        exact mk_endN (raises_own S.exC S.tyC) I1 hsz kk un2 hok2 os2 bare2 q2
      · exact mk_end (raises_own S.exC S.tyC) I1 hsz kk un2 hok2 os2 bare2 ea ed hd1 q2
    | next => exact False.elim hq'
    | brk => exact False.elim hq'
    | cont => exact False.elim hq'
/-- the exception's dict is known from now on -/
theorem MkP.freeze {pins : List (Addr × Obj)} {σ : L2.St} {Q : XK} {u : Value} {s' : Shared} (h : MkP X pins σ (fun cls d H => (d = none ∧ Q cls d H) ∨ ∃ dd fs, d = some dd ∧ H dd = some (.xd fs) ∧ ∀ o, Q cls d (upd H dd (.frz o (.xd fs)))) u s') : MkP X pins σ Q u s' := by
  obtain ⟨a, oe, vs, sI, H', cls, d, e1, I, k, n1, g1, z, e2, e3, na, os, ag, R, q⟩ := h
  rcases q with ⟨rfl, q⟩ | ⟨dd, fs, rfl, hd, q⟩
  · exact ⟨a, oe, vs, sI, H', cls, none, e1, I, k, n1, g1, z, e2, e3, na, os, ag, R, q⟩
  · have hx : ObjOk X.prog X.w H' sI.heap dd (.xd fs) := I.hok dd _ hd
    obtain ⟨mA, hns, hr⟩ := id hx
    obtain ⟨o, es, ep, ho, hrest⟩ := id hns
    have hne : ∀ b, H' b = none → b ≠ dd := fun b n z => by rw [z, hd] at n; cases n
    have hnt : ∀ b xs, H' b = some (.tup xs) → b ≠ dd := fun b xs n z => by rw [z, hd] at n; cases n
    have hno : ∀ b c, H' b = some (.own c) → b ≠ dd := fun b xs n z => by rw [z, hd] at n; cases n
    have hnf : ∀ b o xs, H' b = some (.frz o xs) → b ≠ dd := fun b o xs n z => by rw [z, hd] at n; cases n
    have hnb : ∀ b ps, H' b = some (.tbl ps) → b ≠ dd := fun b xs n z => by rw [z, hd] at n; cases n
    have J := I.un (h' := sI.heap) (t' := sI.toks) (H' := upd H' dd (.frz o (.xd fs))) ⟨fun b o q _ _ _ => q, fun b o q _ _ _ => ⟨o.slots, q⟩, fun b o q nn _ => by rw [upd_ne (hne b nn)]; exact nn, fun b o q _ => ⟨o, q⟩,
      fun b xs q => by rw [upd_ne (hnt b xs q)]; exact q, fun b o xs q => by rw [upd_ne (hnf b o xs q)]; exact q, fun b ps q => ⟨#[], by rw [upd_ne (hnb b ps q), q]; simp⟩⟩ (fun b o' q => by
        by_cases hb : b = dd
        · subst hb
          rw [upd_same] at q
          cases q
          exact ⟨ho, mA, hns, hr⟩
        · rw [upd_ne hb] at q
          exact (I.hok b o' q).stay (fun _ _ _ q => q) (fun c q => by rw [upd_ne (hno c b q)]; exact q) fun c xs q => by rw [upd_ne (hnt c xs q)]; exact q)
    exact ⟨a, oe, vs, sI, _, cls, some dd, e1, J, k, n1, g1, z, e2, e3, by rw [upd_ne (hne a na)]; exact na, os, ag, R, q o⟩
theorem PMk.freeze {t : L2.St → Hp → XK → Prop} (h : PMk X e t) : PMk X e (fun σ H Q => t σ H (fun cls d H => (d = none ∧ Q cls d H) ∨ ∃ dd fs, d = some dd ∧ H dd = some (.xd fs) ∧ ∀ o, Q cls d (upd H dd (.frz o (.xd fs))))) :=
  fun pins s σ H Q I q => thn (h pins s σ H _ I q) fun u s' z => MkP.freeze z
end
end Ev
end
section
/-! EvZ4: raise of own exceptions. -/
set_option autoImplicit false
set_option linter.all false
set_option maxRecDepth 100000
set_option maxHeartbeats 2000000
set_option Elab.async false
namespace Ev
open PySem PySem.Spec PyProof.Rows L2 NdefX

/-- what __init__ promises: the field f is made, or none -/
def spI (C : Addr) (fl : Option Str) : Sp := fun vs H Q _ => ∃ (a : Addr) (v : V), vs = [.ref a, v] ∧ H a = some (exo a C none) ∧ (match fl with
  | some f => ∀ dx, H dx = none → dx ≠ a → Q .non (upd (upd H dx (exd dx [(f, v)])) a (exo a C (some dx)))
  | none => Q .non H)
/-- a class that can be made and raised -/
structure ExMk (J : Jx) (xc : XC) (x : Str) (k : Nat) : Prop where
  ex : ∃ (B newId initId : String) (bmB : List Value) (C fI : Addr) (j : Nat) (fd : FuncData) (ps : List Str), ExK J.X.prog J.X.K C B newId initId bmB ∧ ExS J.X.K C B bmB ∧ PySem.W.findIn J.X.K (.ref C) "__init__" = some (some (.ref fI)) ∧ PySem.W.typeIn J.X.K (.ref fI) = some (.type "function") ∧
    FnOk J.X.prog J.X.w J.X.K J.X.mg J.X.base (L2.CX J.X.prog J.X.w) j fI fd ps (spI C (xc.fld k)) ∧ Room (j + 1) J.X.A ∧ Binds J.X.K fd ps [] ∧ J.X.mg x = some (.ref C) ∧ xc.cls k = .ref C ∧ k < xc.n
section
variable {J : Jx} {xc : XC}
theorem passes_no {X : Cx} : Passes (L2.CX X.prog X.w) X (fun _ _ _ => False) := fun _ _ _ _ _ _ _ ⟨_, _, _, _, _, _, _, _, _, _, _, _, z⟩ => z.elim
theorem js_raise {x : Str} {k : Nat} {a : Expr} {e : E} {p pos pos2 : Pos} (ok : J.Ok) (hc : J.X.calm = true) (hxs : J.Xs = xc.xs J.X.prog J.X.w J.X.K) (hm : ExMk J xc x k) (hg : Gl J.X x) (hdb : (x == ("__debug__" : Str)) = false) (ha : JA J [a] [e])
    (hs : starEach [a] J.X.env = (false, eval a J.X.env) :: starEach [] J.X.env) : JS J (.Raise (some (.Call (.Name x p) [a] [] pos)) none pos2) (.raise k [e]) := by
  obtain ⟨B, newId, initId, bmB, C, fI, j, fd, ps, T, S, iC, tI, F1, hr, hb, hmx, hcl, hk⟩ := hm.ex
  refine (ps_raise hc ok.tk (PMk.freeze (pmk_exB (e := a) (es := []) (p := p) (pos := pos) T S iC tI F1 hr hb passes_no hg hmx ha hdb hs rfl))).imp fun D σ H h => ?_
  obtain ⟨env, hp, ρ, he, hh, fi⟩ := h
  unfold evalS at fi
  have eq : evalEs J.g [e] env hp = (evalE J.g e env hp).bind fun v h1 => .ok [v] h1 := by
    unfold evalEs
    unfold evalEs
    rfl
  refine ⟨env, hp, ρ, he, hh, ?_⟩
  rw [eq] at fi ⊢
  generalize evalE J.g e env hp = r at fi
  cases r with
  | bad => exact fi.elim
  | exc c pl h1 => exact fi
  | ok v h1 =>
    rw [Res.bind_ok, Res.bind_ok] at fi
    intro ρ1 H1 x1 y1 us ds
    have fi1 := Fin.ext x1 fi
    obtain ⟨xs, e1, fi2⟩ := Fin.opt fi1
    cases ds with
    | @cons _ u _ us' d1 d2 =>
      cases d2
      cases v with
      | ref n => cases e1
      | thk => cases e1
      | d v =>
        cases e1
        cases d1 with
        | d d1 =>
          refine ⟨by simp, fun b nb => ⟨b, u, rfl, upd_same, ?_⟩⟩
          have other : ∀ dx, upd H1 b (exo b C none) dx = none → H1 dx = none := fun dx n => by
            by_cases z : dx = b
            · rw [z]; exact nb
            · rw [upd_ne z] at n; exact n
          cases hfl : xc.fld k with
          | none =>
            refine ⟨rfl, .inl ⟨rfl, .inl ⟨rfl, ?_⟩⟩⟩
            exact fi2 ρ1 H1 _ _ (Ext.refl _ _) y1 (by rw [hxs]; exact ⟨hk, hcl.symm, fun f e => by rw [hfl] at e; cases e⟩)
          | some f =>
            intro dx nd ne
            have ndx := other dx nd
            refine ⟨rfl, .inr ⟨dx, [(f, u)], upd_same, by rw [upd_ne ne, upd_same], ndx, .inr ⟨dx, _, rfl, upd_same, fun o => ?_⟩⟩⟩
            have eH : upd (upd (del (upd (upd (upd H1 b (exo b C none)) dx (exd dx [(f, u)])) b (exo b C (some dx))) b) dx (.xd [(f, u)])) dx (.frz o (.xd [(f, u)])) = upd H1 dx (.frz o (.xd [(f, u)])) := by
              funext q
              by_cases h1 : q = dx
              · rw [h1, upd_same, upd_same]
              · rw [upd_ne h1, upd_ne h1, upd_ne h1]
                by_cases h2 : q = b
                · rw [h2, del_same, nb]
                · rw [del_ne h2, upd_ne h2, upd_ne h1, upd_ne h2]
            rw [eH]
            have nw := New.upd (.frz o (.xd [(f, u)])) ndx
            exact fi2 ρ1 _ _ _ (Ext.nw nw) (HeapOk.new nw y1) (by rw [hxs]; exact ⟨hk, hcl.symm, fun g e => by rw [hfl] at e; cases e; exact ⟨v, dx, o, u, rfl, rfl, upd_same, d1.tf nw.tf⟩⟩)
end
end Ev
end
section
/-! EvX1: the checker of except suites (simple forms). -/
set_option autoImplicit false
set_option linter.all false
set_option maxRecDepth 100000
set_option maxHeartbeats 2000000
set_option Elab.async false
namespace Ev
open PySem PySem.Spec PyProof.Rows L2
/-- the name of the clause: its slot, its field -/
abbrev Xf := Option (Nat × Str)
def exfB (c : Ck) (xf : Xf) (i : Nat) (a : Expr) : Bool :=
  match xf, a with
  | some (j, f), .Attribute (.Name x _) n _ => j == i && f == n && nameAt c i x && visB c x && okName x
  | _, _ => false
mutual
def chkU (c : Ck) (xf : Xf) : E → Expr → Bool
  | .lit d, a => litB d a
  | .exf i, a => exfB c xf i a
  | .tup es, a => match a with
    | .Tuple as _ _ => as.all notStar && chkUs c xf es as
    | _ => false
  | _, _ => false
def chkUs (c : Ck) (xf : Xf) : List E → List Expr → Bool
  | [], as => as.isEmpty
  | e :: es, as => match as with
    | a :: as => chkU c xf e a && chkUs c xf es as
    | [] => false
end
def chkUS (c : Ck) (xf : Xf) : S → Stmt → Bool
  | .asg i e, s => withP (qAsg s) fun p => asgN c i p.1 && notComp p.2.1 && chkU c xf e p.2.1
  | .ret e, s => match s with
    | .Return (some a) _ => chkU c xf e a
    | _ => false
  | _, _ => false
/-- what a suite's surroundings must have -/
structure USt (J : Jx) (c : Ck) (xf : Xf) : Prop where
  ok : J.Ok
  sto : ∀ i x, stoB c i x = true → J.X.N[i]? = some x ∧ Loc J.X.env.scope x ∧ (J.X.fn x = true ∨ J.X.env.scope.names.lookup x = some .local)
  exf : ∀ i a, exfB c xf i a = true → JE J a (.exf i)
section
variable {J : Jx} {c : Ck} {xf : Xf}
mutual
theorem chkU_ok : ∀ (e : E) {a : Expr}, USt J c xf → chkU c xf e a = true → JE J a e
  | .lit d, a, h, q => by unfold chkU at q; exact (lit_is q).1
  | .exf i, a, h, q => by unfold chkU at q; exact h.exf i a q
  | .tup es, a, h, q => by
    unfold chkU at q
    split at q
    · simp only [Bool.and_eq_true] at q
      exact je_tup (chkUs_ok es h q.1 q.2)
    · cases q
  | .slot _, _, _, q => by simp [chkU] at q
  | .glob _, _, _, q => by simp [chkU] at q
  | .lst _ _, _, _, q => by simp [chkU] at q
  | .rws _, _, _, q => by simp [chkU] at q
  | .dct _ _, _, _, q => by simp [chkU] at q
  | .bin _ _ _, _, _, q => by simp [chkU] at q
  | .catM _ _, _, _, q => by simp [chkU] at q
  | .neg _, _, _, q => by simp [chkU] at q
  | .not _, _, _, q => by simp [chkU] at q
  | .cmp _ _ _, _, _, q => by simp [chkU] at q
  | .chain _ _ _ _ _, _, _, q => by simp [chkU] at q
  | .and _ _, _, _, q => by simp [chkU] at q
  | .or _ _, _, _, q => by simp [chkU] at q
  | .ite _ _ _, _, _, q => by simp [chkU] at q
  | .idx _ _, _, _, q => by simp [chkU] at q
  | .sliL _ _, _, _, q => by simp [chkU] at q
  | .sliH _ _, _, _, q => by simp [chkU] at q
  | .sliB _ _ _, _, _, q => by simp [chkU] at q
  | .rev _, _, _, q => by simp [chkU] at q
  | .isi _ _, _, _, q => by simp [chkU] at q
  | .call _ _, _, _, q => by simp [chkU] at q
  | .bi _ _, _, _, q => by simp [chkU] at q
  | .mt _ _ _, _, _, q => by simp [chkU] at q
  | .comp _ _ _ _ _ _ _, _, _, q => by simp [chkU] at q
  | .comp2 _ _ _ _ _ _ _ _ _ _ _, _, _, q => by simp [chkU] at q
  | .lam _ _, _, _, q => by simp [chkU] at q
  | .act _, _, _, q => by simp [chkU] at q
  | .frz _, _, _, q => by simp [chkU] at q
theorem chkUs_ok : ∀ (es : List E) {as : List Expr}, USt J c xf → as.all notStar = true → chkUs c xf es as = true → JA J as es
  | [], as, h, n, q => by
    unfold chkUs at q
    cases as with
    | nil => exact ja_nil
    | cons _ _ => cases q
  | e :: es, as, h, n, q => by
    unfold chkUs at q
    cases as with
    | nil => cases q
    | cons a as =>
      simp only [Bool.and_eq_true] at q
      simp only [List.all_cons, Bool.and_eq_true] at n
      exact ja_cons (chkU_ok e h q.1) (chkUs_ok es h n.2 q.2) (star_cons n.1)
end
theorem chkUS_ok {s : S} {a : Stmt} (h : USt J c xf) (q : chkUS c xf s a = true) : JSs J [a] [s] := by
  refine jss_cons ?_ jss_nil
  unfold chkUS at q
  split at q
  · obtain ⟨⟨t, e, pos⟩, e1, q0⟩ := with_some q
    obtain rfl := qAsg_s e1
    simp only [Bool.and_eq_true] at q0
    obtain ⟨⟨q1, q2⟩, q3⟩ := q0
    unfold asgN at q1
    split at q1
    · obtain ⟨b1, b2, b3⟩ := h.sto _ _ q1
      exact js_asg h.ok b1 b2 (chkU_ok _ h q3) (swaps_ok q2 _ _ _) b3
    · cases q1
  · split at q
    · exact js_ret (chkU_ok _ h q)
    · cases q
  · cases q
end
end Ev
end
section
/-! EvX2: the clauses of a try, from the checker. -/
set_option autoImplicit false
set_option linter.all false
set_option maxRecDepth 100000
set_option maxHeartbeats 2000000
set_option Elab.async false
namespace Ev
open PySem PySem.Spec PyProof.Rows L2
structure XOk (J : Jx) (xc : XC) (ex : List (Str × Nat)) : Prop where
  mg : ∀ x k, ex.lookup x = some k → J.X.mg x = some (xc.cls k) ∧ k < xc.n
  one : ∀ k j, k < xc.n → j < xc.n → PySem.W.exmOne J.X.K (xc.cls k) (xc.cls j) = some (decide (j = k))
  fld : ∀ k f, xc.fld k = some f → ∃ C, xc.cls k = .ref C ∧ XfC J.X.K C ∧ PySem.W.findIn J.X.K (.ref C) f = some none
  xs : J.Xs = xc.xs J.X.prog J.X.w J.X.K
def clsB (c : Ck) (ex : List (Str × Nat)) (fld : Nat → Option Str) : List (Nat × Option Nat) → List (List S) → List ExceptHandler → Bool
  | [], [], [] => true
  | (k, none) :: cs, [s] :: ss, .ExceptHandler (some (.Name x _)) none [b] _ :: hs => ex.lookup x == some k && glB c x && chkUS c none s b && clsB c ex fld cs ss hs
  | (k, some i) :: cs, [s] :: ss, .ExceptHandler (some (.Name x _)) (some y) [b] _ :: hs => ex.lookup x == some k && glB c x && nameAt c i y && kindIs c y .local && chkUS c ((fld k).map fun f => (i, f)) s b && clsB c ex fld cs ss hs
  | _, _, _ => false
section
variable {J : Jx} {c : Ck} {xc : XC} {ex : List (Str × Nat)}
theorem pss_if {X : Cx} {b : List Stmt} {P : Prop} {t : TS} (h : P → PSs X b t) : PSs X b (fun D σ H => P ∧ t D σ H) := ⟨fun pins s σ H D I z => (h z.1).run pins s σ H D I z.2⟩
theorem suite_ok (h : JCk J c) (k : Nat) (a : Addr) (oe : Obj) (d : Option Addr) (pn : List (Addr × Obj)) : (J.suite xc k a oe d pn).Ok := ⟨fun _ _ z => z.elim, h.ok.nd, h.ok.guards, h.ok.units, takes_none5⟩
theorem ust_of (h : JCk J c) (o : XOk J xc ex) {k : Nat} {a : Addr} {oe : Obj} {d : Option Addr} {pn : List (Addr × Obj)} {xf : Xf} (hz : Zc (xc.cls k) d oe) (hf : ∃ vs, oe.data = .fields vs) (hx : ∀ i f, xf = some (i, f) → xc.fld k = some f) : USt (J.suite xc k a oe d pn) c xf where
  ok := suite_ok h k a oe d pn
  sto := fun i x q => (have z := sto_is (J := J) h q; z)
  exf := fun i a q => by
    unfold exfB at q
    split at q
    · rename_i j f x np n pos
      simp only [Bool.and_eq_true, beq_iff_eq] at q
      obtain ⟨⟨⟨⟨q1, q2⟩, q3⟩, q4⟩, q5⟩ := q
      subst q1
      subst q2
      have e := hx _ _ rfl
      obtain ⟨C, hC, T, hno⟩ := o.fld k _ e
      obtain ⟨n1, n2, _⟩ := ok_name q5
      exact je_exf T hno hz hf hC e (name_at h q3) (vis_is h q4) n1 n2 rfl
    · cases q
theorem cls_ok (h : JCk J c) (o : XOk J xc ex) : ∀ (cs : List (Nat × Option Nat)) (ss : List (List S)) (hs : List ExceptHandler), clsB c ex xc.fld cs ss hs = true → ClsOk J.X hs (clsOf J xc cs ss) ∧ (cs.all fun p => decide (p.1 < xc.n)) = true := by
  intro cs ss hs
  fun_induction clsB c ex xc.fld cs ss hs with
  | case1 => exact fun _ => ⟨.nil, rfl⟩
  | case2 k cs s ss x _ b _ hs ih =>
    intro q
    simp only [Bool.and_eq_true, beq_iff_eq] at q
    obtain ⟨⟨⟨q1, q2⟩, q3⟩, q4⟩ := q
    obtain ⟨i1, i2⟩ := ih q4
    obtain ⟨g1, g2, _⟩ := gl_is h q2
    obtain ⟨m1, m2⟩ := o.mg x k q1
    refine ⟨.cons ⟨g1, g2, .inl m1⟩ (fun a oe cls d pn hz hf => pss_if fun e => ?_) i1, by simp [m2, i2]⟩
    subst e
    exact chkUS_ok (ust_of h o hz hf fun i f e => by cases e) q3
  | case3 k i cs s ss x _ y b _ hs ih =>
    intro q
    simp only [Bool.and_eq_true, beq_iff_eq] at q
    obtain ⟨⟨⟨⟨⟨q1, q2⟩, q5⟩, q6⟩, q3⟩, q4⟩ := q
    obtain ⟨i1, i2⟩ := ih q4
    obtain ⟨g1, g2, _⟩ := gl_is h q2
    obtain ⟨m1, m2⟩ := o.mg x k q1
    refine ⟨.consAs ⟨g1, g2, .inl m1⟩ (name_at h q5) (kind_is h q6) (fun a oe cls d pn hz hf => pss_if fun e => ?_) i1, by simp [m2, i2]⟩
    subst e
    exact chkUS_ok (ust_of h o hz hf fun i' f e => by
      cases e2 : xc.fld k with
      | none => rw [e2] at e; cases e
      | some g => rw [e2] at e; cases e; rfl) q3
  | case4 => exact fun q => by cases q
end
end Ev
end
section
/-! EvU: the checker of statements. -/
set_option autoImplicit false
set_option linter.all false
set_option maxRecDepth 100000
set_option maxHeartbeats 2000000
set_option Elab.async false
namespace Ev
open PySem PySem.Spec PyProof.Rows L2

mutual
def chkS (c : Ck) (ex : List (Str × Nat)) (fld : Nat → Option Str) : S → Stmt → Bool
  | .asg i e, s => withP (qAsg s) fun p =>
      (asgN c i p.1 && notComp p.2.1 && chk c .val e [p.2.1]) ||
      (match e with
        | .comp _ elt own is ik its eifs => withP (pLc [p.2.1]) fun q => setLc c i p.1 q.2.2.2.2 p.2.1.pos && chk c .val e [p.2.1]
        | .comp2 _ elt own t1 k1 i1 c1 t2 k2 i2 c2 => withP (pLc2 [p.2.1]) fun q => setLc c i p.1 q.2.2.2 p.2.1.pos && chk c .val e [p.2.1]
        | _ => false)
  | .asgT is e, s => withP (qAsg s) fun p => tupTg c is p.1 p.2.1 && notComp p.2.1 && chk c .val e [p.2.1]
  | .par i j e1 e2, s => withP (qAsg s) fun p => withP (parB c i j p.1 p.2.1) fun q => chk c .val e1 [q.1] && chk c .val e2 [q.2]
  | .par3 i j k e1 e2 e3, s => withP (qAsg s) fun p => withP (par3B c i j k p.1 p.2.1) fun q => chk c .val e1 [q.1] && chk c .val e2 [q.2.1] && chk c .val e3 [q.2.2]
  | .sets o i e, s => withP (qAsg s) fun p => withP (subTg p.1) fun q => notComp p.2.1 && chk c .val e [p.2.1] && chk c .val o [q.1] && chk c .val i [q.2]
  | .expr e, s => withP (qExp s) fun p => notComp p.1 && chk c .val e [p.1]
  | .ret e, s => withP (qRet s) fun o => match o with
    | some a => chk c .val e [a]
    | none => (match e with | .lit .non => true | _ => false)
  | .ite e a b, s => withP (qIf s) fun p => chk c .tst e [p.1] && chkSs c ex fld a p.2.1 && chkSs c ex fld b p.2.2
  | .for is ik its body, s => withP (qFor s) fun p => notSet p.2.1 && tgB c is p.1 && withP (walkB c ik p.1 p.2.1) (fun as => as.all notStar && chks c its as) && chkSs c ex fld body p.2.2
  | .while e body, s => withP (qWhl s) fun p => chk c .tst e [p.1] && chkSs c ex fld body p.2
  | .raise k es, s => (match s, es with
    | .Raise (some (.Call (.Name x _) [a] [] _)) none _, [e] => ex.lookup x == some k && glB c x && notStar a && chk c .val e [a]
    | _, _ => false)
  | .tri s cs ss, st => c.top && (match st with
    | .Try [b] (h :: hs) [] [] _ => chkS c ex fld s b && clsB c ex fld cs ss (h :: hs)
    | _ => false)
def chkSs (c : Ck) (ex : List (Str × Nat)) (fld : Nat → Option Str) : List S → List Stmt → Bool
  | [], as => as.isEmpty
  | s :: ss, as => match as with
    | [] => false
    | a :: as => chkS c ex fld s a && chkSs c ex fld ss as
end
theorem set_lc {J : Jx} {c : Ck} {i : Nat} {t : Expr} {scope : Scope} {cpos : Pos} {elt : Expr} {gs : List Comprehension} (h : JCk J c) (q : setLc c i t scope cpos = true) : ∃ y py, t = .Name y py ∧ J.X.N[i]? = some y ∧ J.X.env.scope.names.lookup y = some .local ∧
    ∀ l, swapsWith (.ListComp elt gs scope cpos) (some (.Name y py)) l J.X.env = pure true := by
  unfold setLc at q
  split at q
  · rename_i x px
    simp only [Bool.and_eq_true, Bool.not_eq_true'] at q
    obtain ⟨⟨⟨q1, q2⟩, q3⟩, q4⟩ := q
    exact ⟨x, px, rfl, name_at h q1, kind_is h q2, fun l => sw_true h.kd (kind_is h q2) q3 q4⟩
  · cases q
theorem set_ok (e : E) {J : Jx} {c : Ck} {i : Nat} {t a : Expr} {pos : Pos} (h : JCk J c) (q : (match e with
        | .comp _ elt own is ik its eifs => withP (pLc [a]) fun q => setLc c i t q.2.2.2.2 a.pos && chk c .val e [a]
        | .comp2 _ elt own t1 k1 i1 c1 t2 k2 i2 c2 => withP (pLc2 [a]) fun q => setLc c i t q.2.2.2 a.pos && chk c .val e [a]
        | _ => false) = true) : JS J (.Assign [t] a pos) (.asg i e) := by
  split at q
  · rename_i mu e own is ik its eifs
    obtain ⟨⟨elt, tg, iter, ifs, scope⟩, e3, q0⟩ := with_some q
    clear q
    obtain ⟨p, e4⟩ := pLc_s e3
    have e5 := List.cons.inj e4
    obtain rfl := e5.1
    clear e4 e5
    simp only [Bool.and_eq_true] at q0
    obtain ⟨qs, qc⟩ := q0
    obtain ⟨y, py, rfl, hy, hyl, hsw⟩ := set_lc (elt := elt) (gs := [⟨tg, iter, ifs, 0⟩]) (cpos := p) h qs
    unfold chk at qc
    obtain ⟨⟨elt', tg', iter', ifs', scope'⟩, e6, q⟩ := with_some qc
    rw [e3] at e6
    cases e6
    clear qc
    simp only [Bool.and_eq_true] at q
    obtain ⟨⟨⟨⟨⟨⟨q1, q2⟩, q3⟩, q4⟩, q5⟩, q6⟩, q7⟩ := q
    obtain ⟨xs, e4, q8⟩ := with_some q5
    simp only [Bool.and_eq_true] at q8
    have B := blk_is h q1
    have K := B.kind
    have W := walk_is (its := its) h e4 (fun _ => chks_ok its h q8.1 q8.2) (fun hk => by
      subst hk
      simp only [walkB, Option.some.injEq] at e4
      subst e4
      exact walk_one its h q8.2) (chks_len q8.2)
    have own_e := own_ix c own
    have sub : ∀ j ∈ is, j ∈ (ownOf c own).map (·.2) := by rw [own_e]; exact comp_sub q3
    cases mu
    · have z := js_setLc (pos := p) (spos := pos) (py := py) h.ok h.calm hy hyl (hsw _) W B (jgc_is h K q4) sub (fun s H C cl fp => chkI_ok eifs (jck_blk h K s H C cl fp) q6) (fun s H C cl fp => mean_val (chk_ok e (jck_blk h K s H C cl fp) q7)) (iter_ok q2 _)
      rw [own_e] at z
      exact z
    · have z := js_setLcM (pos := p) (spos := pos) (py := py) h.ok h.calm hy hyl (hsw _) W B (jgc_is h K q4) sub (fun s H C cl fp => chkI_ok eifs (jck_blk h K s H C cl fp) q6) (fun s H C cl fp => mean_val (chk_ok e (jck_blk h K s H C cl fp) q7)) (iter_ok q2 _)
      rw [own_e] at z
      exact z
  · rename_i mu e own t1 k1 i1 c1 t2 k2 i2 c2
    obtain ⟨⟨elt, ⟨tg, iter, ifs⟩, ⟨tg2, iter2, ifs2⟩, scope⟩, e3, q0⟩ := with_some q
    clear q
    obtain ⟨p, e4⟩ := pLc2_s e3
    have e5 := List.cons.inj e4
    obtain rfl := e5.1
    clear e4 e5
    simp only [Bool.and_eq_true] at q0
    obtain ⟨qs, qc⟩ := q0
    obtain ⟨y, py, rfl, hy, hyl, hsw⟩ := set_lc (elt := elt) (gs := [⟨tg, iter, ifs, 0⟩, ⟨tg2, iter2, ifs2, 0⟩]) (cpos := p) h qs
    unfold chk at qc
    obtain ⟨⟨elt', ⟨tg', iter', ifs'⟩, ⟨tg2', iter2', ifs2'⟩, scope'⟩, e6, q⟩ := with_some qc
    rw [e3] at e6
    cases e6
    clear qc
    simp only [Bool.and_eq_true] at q
    obtain ⟨⟨⟨⟨⟨⟨⟨⟨⟨⟨⟨⟨q0, q1⟩, q2⟩, q3⟩, q4⟩, q5⟩, q6⟩, q7⟩, q8⟩, q9⟩, q10⟩, q11⟩, q12⟩ := q
    cases mu
    · obtain ⟨xs, e4, qa⟩ := with_some q8
      obtain ⟨xs2, e5, qb⟩ := with_some q9
      simp only [Bool.and_eq_true] at qa qb
      have B := blk_is h q1
      have K := B.kind
      have W := walk_is (its := i1) h e4 (fun _ => chks_ok i1 h qa.1 qa.2) (fun hk => by
        subst hk
        simp only [walkB, Option.some.injEq] at e4
        subst e4
        exact walk_one i1 h qa.2) (chks_len qa.2)
      have own_e := own_ix c own
      have sub : ∀ j ∈ t1, j ∈ (ownOf c own).map (·.2) := by rw [own_e]; exact comp_sub q4
      have sub2 : ∀ j ∈ t2, j ∈ (ownOf c own).map (·.2) := by rw [own_e]; exact comp_sub q5
      have z := js_setLc2 (pos := p) (spos := pos) (py := py) h.ok h.calm hy hyl (hsw _) W B (jgc_is h K q6) sub (jgc_is h K q7) sub2 (fun s H C cl fp => chkI_ok c1 (jck_blk h K s H C cl fp) q10)
        (fun s H C cl fp => walk_is (its := i2) (jck_blk h K s H C cl fp) e5 (fun _ => chks_ok i2 (jck_blk h K s H C cl fp) qb.1 qb.2) (fun hk => by
          subst hk
          simp only [walkB, Option.some.injEq] at e5
          subst e5
          exact walk_one i2 (jck_blk h K s H C cl fp) qb.2) (chks_len qb.2))
        (fun s H C cl fp => chkI_ok c2 (jck_blk h K s H C cl fp) q11) (fun s H C cl fp => mean_val (chk_ok e (jck_blk h K s H C cl fp) q12)) (iter_ok q2 _) (fun env => iter_ok q3 env)
      rw [own_e] at z
      exact z
    · cases q0
  · cases q
structure JCk2 (J : Jx) (c : Ck) (xc : XC) (ex : List (Str × Nat)) : Prop where
  ck : JCk J c
  xo : XOk J xc ex
  fr : c.top = true → J.X.stack = J.X.env :: J.X.outer ∧ J.X.env.frame = some J.X.env.locals
  mkx : ∀ x k, ex.lookup x = some k → ExMk J xc x k
theorem JCk2.tr {J : Jx} {c : Ck} {xc : XC} {ex : List (Str × Nat)} (h : JCk2 J c xc ex) (W : Value → Option Addr → Hp → Prop) (pn : List (Addr × Obj)) (xe : Value → Shared → Prop) (ok : ({ J with X := J.X.tr pn xe, W := W } : Jx).Ok) : JCk2 { J with X := J.X.tr pn xe, W := W } c xc ex where
  ck := ⟨ok, h.ck.calm, h.ck.kd, h.ck.N, h.ck.sc, h.ck.top, h.ck.bl, h.ck.gl, fun x i np e => ⟨(h.ck.fn x i np e).ex⟩, fun a e W' pn' xe' ok' p1 p2 => h.ck.act a e W' pn' xe' ok' p1 p2, fun x i e => by
    obtain ⟨LA, j, LC, hc⟩ := h.ck.lam x i e
    exact ⟨⟨LA.ex⟩, j, ⟨LC.ex⟩, fun y i' np e => ⟨(hc y i' np e).ex⟩⟩⟩
  xo := ⟨h.xo.mg, h.xo.one, h.xo.fld, h.xo.xs⟩
  fr := h.fr
  mkx := fun x k e => ⟨(h.mkx x k e).ex⟩
section
variable {xc : XC} {ex : List (Str × Nat)}
mutual
theorem chkS_ok : ∀ (st : S) {J : Jx} {c : Ck} {s : Stmt}, JCk2 J c xc ex → chkS c ex xc.fld st s = true → JS J s st
  | .asg i e, J, c, s, h, q => by
    unfold chkS at q
    obtain ⟨⟨t, a, pos⟩, e1, q0⟩ := with_some q
    clear q
    obtain rfl := qAsg_s e1
    simp only at q0
    rcases with_or q0 with q1 | q1
    · simp only [Bool.and_eq_true] at q1
      obtain ⟨⟨q2, q3⟩, q4⟩ := q1
      unfold asgN at q2
      split at q2
      · obtain ⟨b1, b2, b3⟩ := sto_is h.ck q2
        exact js_asg h.ck.ok b1 b2 (mean_val (chk_ok e h.ck q4)) (swaps_ok q3 _ _ _) b3
      · cases q2
    · exact set_ok e h.ck q1
  | .asgT is e, J, c, s, h, q => by
    unfold chkS at q
    obtain ⟨⟨t, a, pos⟩, e1, q0⟩ := with_some q
    clear q
    obtain rfl := qAsg_s e1
    simp only [Bool.and_eq_true] at q0
    obtain ⟨⟨q2, q3⟩, q4⟩ := q0
    unfold tupTg at q2
    split at q2
    · rename_i ts k p
      simp only [Bool.and_eq_true] at q2
      obtain ⟨q5, q6⟩ := q2
      have sw : swappedStores [.Tuple ts k p] a J.X.env = pure none := by
        cases a with
        | Tuple vs k2 p2 =>
          simp only at q6
          split at q6
          · rename_i hm
            refine swap_mirror h.ck.kd ?_
            show swapMirror (fun z => J.X.env.scope.names.lookup z) ts vs = _
            rw [h.ck.sc]
            exact hm
          · cases q6
        | _ => exact stores_ok rfl _
      match is, q5 with
      | i :: j :: is, q5 => exact js_asgT (mean_val (chk_ok e h.ck q4)) (jg_is h.ck q5) (swapsS_ok q3 _ _) sw (assign_one rfl _)
      | [i], q5 => cases q5
      | [], q5 => cases q5
    · cases q2
  | .par i j e1 e2, J, c, s, h, q => by
    unfold chkS at q
    obtain ⟨⟨t, a, pos⟩, e3, q0⟩ := with_some q
    clear q
    obtain rfl := qAsg_s e3
    obtain ⟨⟨a1, a2⟩, e4, q1⟩ := with_some q0
    clear q0
    simp only [Bool.and_eq_true] at q1
    unfold parB at e4
    simp only at e4
    split at e4
    · rename_i x px y py k pt b1 b2 k2 pt2
      split at e4 <;> cases e4
      rename_i hc
      simp only [Bool.and_eq_true, bne_iff_ne, ne_eq] at hc
      obtain ⟨⟨⟨⟨⟨⟨⟨c1, c2⟩, c3⟩, c4⟩, c5⟩, c6⟩, c7⟩, c8⟩ := hc
      have sw : swappedStores [.Tuple [.Name x px, .Name y py] k pt] (.Tuple [a1, a2] k2 pt2) J.X.env = pure (some [x, y]) := by
        refine swap_mirror h.ck.kd ?_
        show swapMirror (fun z => J.X.env.scope.names.lookup z) _ _ = _
        rw [h.ck.sc]
        unfold parSw at c8
        split at c8
        · rename_i x' y' hm
          simp only [Bool.and_eq_true] at c8
          rw [hm, eq_of_beq c8.1, eq_of_beq c8.2]
        · cases c8
      exact js_par h.ck.ok h.ck.calm (name_at h.ck c1) (name_at h.ck c2) c5 (kind_is h.ck c3) (kind_is h.ck c4) (ja_cons (mean_val (chk_ok e1 h.ck q1.1)) (ja_cons (mean_val (chk_ok e2 h.ck q1.2)) ja_nil (star_cons c7)) (star_cons c6)) sw (swapsS_ok rfl _ _)
    · cases e4
  | .par3 i j k e1 e2 e3, J, c, s, h, q => by
    unfold chkS at q
    obtain ⟨⟨t, a, pos⟩, ea, q0⟩ := with_some q
    clear q
    obtain rfl := qAsg_s ea
    obtain ⟨⟨a1, a2, a3⟩, e4, q1⟩ := with_some q0
    clear q0
    simp only [Bool.and_eq_true] at q1
    unfold par3B at e4
    simp only at e4
    split at e4
    · rename_i x px y py z pz kk pt b1 b2 b3 k2 pt2
      split at e4 <;> cases e4
      rename_i hc
      simp only [Bool.and_eq_true] at hc
      obtain ⟨⟨⟨⟨⟨⟨⟨⟨⟨c1, c2⟩, c3⟩, c4⟩, c5⟩, c6⟩, c7⟩, c8⟩, c9⟩, c10⟩ := hc
      have sw : swappedStores [.Tuple [.Name x px, .Name y py, .Name z pz] kk pt] (.Tuple [a1, a2, a3] k2 pt2) J.X.env = pure (some [x, y, z]) := by
        refine swap_mirror h.ck.kd ?_
        show swapMirror (fun z => J.X.env.scope.names.lookup z) _ _ = _
        rw [h.ck.sc]
        unfold par3Sw at c10
        split at c10
        · rename_i r hm
          rw [hm, eq_of_beq c10]
        · cases c10
      exact js_par3 h.ck.ok h.ck.calm (name_at h.ck c1) (name_at h.ck c2) (name_at h.ck c3) (kind_is h.ck c4) (kind_is h.ck c5) (kind_is h.ck c6)
        (ja_cons (mean_val (chk_ok e1 h.ck q1.1.1)) (ja_cons (mean_val (chk_ok e2 h.ck q1.1.2)) (ja_cons (mean_val (chk_ok e3 h.ck q1.2)) ja_nil (star_cons c9)) (star_cons c8)) (star_cons c7)) sw (swapsS_ok rfl _ _)
    · cases e4
  | .sets o i e, J, c, s, h, q => by
    unfold chkS at q
    obtain ⟨⟨t, a, pos⟩, e3, q0⟩ := with_some q
    clear q
    obtain rfl := qAsg_s e3
    obtain ⟨⟨a1, a2⟩, e4, q1⟩ := with_some q0
    clear q0
    simp only [Bool.and_eq_true] at q1
    obtain ⟨⟨⟨q2, q3⟩, q4⟩, q5⟩ := q1
    unfold subTg at e4
    simp only at e4
    split at e4
    · split at e4 <;> cases e4
      rename_i p hn
      refine js_sets (mean_val (chk_ok e h.ck q3)) (mean_val (chk_ok o h.ck q4)) (mean_val (chk_ok i h.ck q5)) (fun v => ?_) (swapsS_ok q2 _ _) (stores_ok2 rfl _) (assign_one rfl _)
      cases a2 <;> (first | (cases hn; done) | rfl)
    · cases e4
  | .expr e, J, c, s, h, q => by
    unfold chkS at q
    obtain ⟨⟨a, pos⟩, e1, q0⟩ := with_some q
    clear q
    obtain rfl := qExp_s e1
    simp only [Bool.and_eq_true] at q0
    exact js_expr (mean_val (chk_ok e h.ck q0.2)) (swaps_ok q0.1 _ _ _)
  | .ret e, J, c, s, h, q => by
    unfold chkS at q
    obtain ⟨o, e1, q0⟩ := with_some q
    clear q
    obtain ⟨p, rfl⟩ := qRet_s e1
    cases o with
    | some a => exact js_ret (mean_val (chk_ok e h.ck q0))
    | none =>
      simp only at q0
      split at q0
      · exact js_retN
      · cases q0
  | .ite e a b, J, c, s, h, q => by
    unfold chkS at q
    obtain ⟨⟨t, x, y⟩, e1, q0⟩ := with_some q
    clear q
    obtain ⟨p, rfl⟩ := qIf_s e1
    simp only [Bool.and_eq_true] at q0
    obtain ⟨⟨q1, q2⟩, q3⟩ := q0
    exact js_if (mean_tst (chk_ok e h.ck q1)) (chkSs_ok a h q2) (chkSs_ok b h q3)
  | .for is ik its body, J, c, s, h, q => by
    unfold chkS at q
    obtain ⟨⟨t, it, b⟩, e1, q0⟩ := with_some q
    clear q
    obtain ⟨p, rfl⟩ := qFor_s e1
    simp only [Bool.and_eq_true] at q0
    obtain ⟨⟨⟨q1, q2⟩, q3⟩, q4⟩ := q0
    obtain ⟨xs, e4, q8⟩ := with_some q3
    simp only [Bool.and_eq_true] at q8
    have W := walk_is (its := its) h.ck e4 (fun _ => chks_ok its h.ck q8.1 q8.2) (fun hk => by
      subst hk
      simp only [walkB, Option.some.injEq] at e4
      subst e4
      exact walk_one its h.ck q8.2) (chks_len q8.2)
    exact js_for h.ck.ok h.ck.calm W (jg_is h.ck q2) (chkSs_ok body h q4) (iter_ok q1 _)
  | .while e body, J, c, s, h, q => by
    unfold chkS at q
    obtain ⟨⟨t, b⟩, e1, q0⟩ := with_some q
    clear q
    obtain ⟨p, rfl⟩ := qWhl_s e1
    simp only [Bool.and_eq_true] at q0
    exact js_while h.ck.ok (mean_tst (chk_ok e h.ck q0.1)) (chkSs_ok body h q0.2)
  | .raise k es, J, c, s, h, q => by
    unfold chkS at q
    split at q
    · simp only [Bool.and_eq_true, beq_iff_eq] at q
      obtain ⟨⟨⟨q1, q2⟩, q3⟩, q4⟩ := q
      obtain ⟨g1, g2, _⟩ := gl_is h.ck q2
      exact js_raise h.ck.ok h.ck.calm h.xo.xs (h.mkx _ _ q1) g1 g2 (ja_cons (mean_val (chk_ok _ h.ck q4)) ja_nil (star_cons q3)) (star_cons q3)
    · cases q
  | .tri s cs ss, J, c, st, h, q => by
    unfold chkS at q
    simp only [Bool.and_eq_true] at q
    obtain ⟨q0, q⟩ := q
    split at q
    · rename_i b h0 hs pos
      simp only [Bool.and_eq_true] at q
      obtain ⟨f1, f2⟩ := h.fr q0
      obtain ⟨k1, k2⟩ := cls_ok h.ck h.xo cs ss (h0 :: hs) q.2
      exact js_tri h.ck.ok f1 f2 h.xo.xs h.xo.one (fun W pn xe ok => jss_cons (chkS_ok s (h.tr W pn xe ok) q.1) jss_nil) k1 k2
    · cases q
theorem chkSs_ok : ∀ (ss : List S) {J : Jx} {c : Ck} {as : List Stmt}, JCk2 J c xc ex → chkSs c ex xc.fld ss as = true → JSs J as ss
  | [], J, c, as, h, q => by
    unfold chkSs at q
    cases as with
    | nil => exact jss_nil
    | cons _ _ => cases q
  | s :: ss, J, c, as, h, q => by
    unfold chkSs at q
    cases as with
    | nil => cases q
    | cons a as =>
      simp only [Bool.and_eq_true] at q
      exact jss_cons (chkS_ok s h q.1) (chkSs_ok ss h q.2)
end
end
end Ev
end
section
/-! EvW: the head: the law's def is called. -/
set_option autoImplicit false
set_option linter.all false
set_option maxRecDepth 100000
set_option maxHeartbeats 2000000
set_option Elab.async false
namespace Ev
open PySem PySem.Spec PyProof.Rows L2

/-- what is tracked at the start: the script, the tables at ts -/
def H0 (a : Addr) (ts : List Addr) (u : Option HO) : Hp := fun b => if b = a then u else if b ∈ ts then some (.tbl #[]) else none
section
variable {P : Program} {w : World} {K : Frag} {mg mb : Str → Option Value} {k : Nat} {fa a : Addr} {cs : List (Addr × Addr)} {fd : FuncData} {x : Str} {sp : Sp} {s₁ : Shared} {vs : List Value} {ns : List Int}
/-- the call, from the abstract heap -/
theorem law_from {u : Option HO} (KX : K.In s₁.heap) (hns : s₁.heap.Ns mainGlobals mg) (hb : s₁.heap.Ns builtinsNs mb) (hbb : ∀ x : Str, x ≠ "__name__" → mb x = bootBuiltins x) (hlim : s₁.heap.NoLimit) (hg : s₁.gens = #[])
    (hT : ∀ p ∈ cs, s₁.heap.get? p.2 = some { cls := .none, data := .fields #[] }) (nT : ∀ p ∈ cs, K.lookup p.2 = none) (C : ∀ p ∈ cs, PySem.W.CodeHd s₁.heap p.1 p.2)
    (hbm : ∃ (bm : Addr) (ob : Obj), mg "__builtins__" = some (.ref bm) ∧ bm ≠ builtinsNs ∧ s₁.heap.get? bm = some ob ∧ ob.cls = .type "module" ∧ ob.dict = some builtinsNs ∧ ob.data = .plain)
    (ha : s₁.heap.get? a = some { cls := .type "list", data := .seq vs.toArray }) (hr : Fit k callerA) (aT : a ∉ cs.map (·.2))
    (F : ∀ base : PySem.Heap, K.In base → base.Ns mainGlobals mg → (∀ p ∈ cs, LamX.TabB base mg p.1 p.2) → Does P w K mg base k fa fd [x] sp) (hbind : ∀ (s : Shared) (u : Value), BindsTo s fd ⟨[u], []⟩ [(x, u)])
    (hu : ∀ o, u = some o → (∃ xs, o = .frz { cls := .type "list", data := .seq vs.toArray } (.lst xs)) ∧ ObjOk P w (H0 a (cs.map (·.2)) u) s₁.heap a o ∧ K.lookup a = none)
    (hsp : sp [.ref a] (H0 a (cs.map (·.2)) u) (fun v _ => v = .bl true) fun _ _ _ => False) :
    codeAny (model P w) callerA (.call (.ref fa) ⟨[.ref a], []⟩) (fun r s' => r = .ok (.ret (.bool true)) ∧ OldK s₁.heap s'.heap ∧ s'.os = s₁.os ∧ AllBare s'.gens) s₁ := by
  have isT : ∀ b : Addr, b ∈ cs.map (·.2) → s₁.heap.get? b = some { cls := .none, data := .fields #[] } := fun b hb => by
    obtain ⟨p, hp, e⟩ := List.mem_map.mp hb
    rw [← e]; exact hT p hp
  generalize hH : H0 a (cs.map (·.2)) u = H at hsp hu
  have atA : H a = u := by rw [← hH]; exact if_pos rfl
  have atT : ∀ b, b ∈ cs.map (·.2) → H b = some (.tbl #[]) := fun b hb => by
    rw [← hH]
    exact (if_neg (fun z : b = a => aT (by rw [← z]; exact hb))).trans (if_pos hb)
  have else_ : ∀ b, b ≠ a → b ∉ cs.map (·.2) → H b = none := fun b h1 h2 => by
    rw [← hH]
    exact (if_neg h1).trans (if_neg h2)
  have hok : HOk P w H s₁.heap := fun b o e => by
    by_cases h1 : b = a
    · subst h1
      exact (hu o (atA.symm.trans e)).2.1
    · by_cases h2 : b ∈ cs.map (·.2)
      · rw [atT b h2] at e
        cases e
        exact isT b h2
      · rw [else_ b h1 h2] at e
        cases e
  have grd : ∀ {b : Addr} {o : Obj}, s₁.heap.get? b = some o → H b = none → (hidT s₁.heap H).get? b = some o := fun e n => hidT_get e n
  -- what is neither the script nor a table is not tracked
  have notA : ∀ {b : Addr} {o : Obj}, s₁.heap.get? b = some o → (∀ vs n, o.data ≠ .seq vs n) → o.data ≠ .fields #[] → H b = none := fun {b o} e h1 h2 => else_ b (fun z => by
    rw [z, ha] at e
    cases e
    exact h1 _ _ rfl) fun z => by
    rw [isT b z] at e
    cases e
    exact h2 rfl
  have ofD : ∀ {b : Addr} {o : Obj} {es : Array DictEntry} {ep : Nat}, s₁.heap.get? b = some o → o.data = .dict es ep → H b = none := fun {b o es ep} e d =>
    notA e (fun vs n z => by rw [d] at z; cases z) fun z => by rw [d] at z; cases z
  have nsK : ∀ {b : Addr} {m : Str → Option Value}, s₁.heap.Ns b m → (hidT s₁.heap H).Ns b m := fun {b m} ⟨o, es, ep, e, d, r⟩ => ⟨o, es, ep, grd e (ofD e d), d, r⟩
  have hKb : K.In (hidT s₁.heap H) := fun b o e => grd (KX b o e) (by
    by_cases h1 : b = a
    · subst h1
      rw [atA]
      cases u with
      | none => rfl
      | some o' => rw [(hu o' rfl).2.2] at e; cases e
    · refine else_ b h1 fun z => ?_
      obtain ⟨p, hp, ep⟩ := List.mem_map.mp z
      rw [← ep, nT p hp] at e
      cases e)
  have hM : L2.Mod K mg (hidT s₁.heap H) := ⟨hKb, nsK hns, ⟨mb, nsK hb, hbb⟩, let ⟨mc, h1, h2⟩ := hlim; ⟨mc, nsK h1, h2⟩⟩
  have TB : ∀ p ∈ cs, LamX.TabB (hidT s₁.heap H) mg p.1 p.2 := fun p hp => by
    have hTp := hT p hp
    refine ⟨?_, ?_, fun z => ?_⟩
    · obtain ⟨o, us, file, tf, flags, tg, inF, text, tt, e1, r1, r2, r3, r4, r5, r6, r7, r8, hne⟩ := C p hp
      refine ⟨o, us, file, tf, flags, tg, inF, text, tt, grd e1 (notA e1 (fun vs n z => ?_) fun z => ?_), r1, r2, r3, r4, r5, r6, r7, r8, hne⟩
      · rw [r2] at z; cases z
      · rw [r2] at z; cases z; simp at r3
    · obtain ⟨bm, ob, b1, b2, b3, b4, b5, b6⟩ := hbm
      have nG : bm ≠ mainGlobals := fun q => by
        obtain ⟨o, es, ep, e, hd, _⟩ := hns
        rw [q, e] at b3
        cases b3
        rw [hd] at b6
        cases b6
      have nP : bm ≠ p.2 := fun q => by
        rw [q, hTp] at b3
        cases b3
        cases b6
      refine ⟨bm, ob, b1, b2, nG, nP, grd b3 (notA b3 (fun vs n z => ?_) fun z => ?_), b4, b5, b6⟩
      · rw [b6] at z; cases z
      · rw [b6] at z; cases z
    · obtain ⟨o, es, ep, e, hd, _⟩ := hns
      rw [z, hTp] at e
      cases e
      cases hd
  have nil : ∀ b : Addr, b ∉ ([] : List Addr) := fun b => by simp
  have e0 : Env0 P w K mg (hidT s₁.heap H) callerA [] s₁ H := ⟨rfl, hM, fun b o e => of_hidT e, Nat.le_of_eq (hidT_size _ _), trivial, fun b hb => absurd (show b ∈ ([] : List Addr) from hb) (nil b), hok, .of_eq hg⟩
  refine codeAny_mono ((F _ hKb (nsK hns) TB).run callerA [] s₁ H ⟨[.ref a], []⟩ [.ref a] [.ref a] _ _ hr e0 (hbind s₁ (.ref a)) (.cons rfl .nil) hsp) fun r s' h => ?_
  match r, h with
  | .error e, ⟨_, _, _, _, _, _, _, _, _, _, _, _, z⟩ => exact z.elim
  | .ok .next, h => exact False.elim h
  | .ok .brk, h => exact False.elim h
  | .ok .cont, h => exact False.elim h
  | .ok (.ret v), ⟨y, H', os, bare, un, hok', r', q⟩ =>
    have q' : y = .bl true := q
    subst q'
    obtain rfl : v = Value.bool true := r'
    have same : ∀ b o, b ∉ cs.map (·.2) → s₁.heap.get? b = some o → s'.heap.get? b = some o := fun b o nb e => by
      cases q : H b with
      | none => exact un.keep b o e q (fun z => nil b z) (nil b)
      | some v =>
        have hb : b = a := by
          by_cases z : b = a
          · exact z
          · rw [else_ b z nb] at q; cases q
        subst hb
        rw [atA] at q
        subst q
        obtain ⟨⟨xs, e2⟩, _, _⟩ := hu v rfl
        subst e2
        obtain ⟨e3, _⟩ := hok' b _ (un.frzs b _ _ atA)
        rw [ha] at e
        cases e
        exact e3
    have grown : ∀ p ∈ cs, ∃ more : Array Value, s'.heap.get? p.2 = some { cls := .none, data := .fields more } := fun p hp => by
      obtain ⟨more, z⟩ := un.tbls p.2 #[] (atT p.2 (List.mem_map.mpr ⟨p, hp, rfl⟩))
      exact ⟨_, hok' p.2 _ z⟩
    refine ⟨rfl, ⟨fun b o e => ?_, fun b o e => ?_⟩, os, bare⟩
    · by_cases hb : b ∈ cs.map (·.2)
      · obtain ⟨p, hp, ep⟩ := List.mem_map.mp hb
        obtain ⟨more, hm⟩ := grown p hp
        rw [← ep] at e ⊢
        rw [hT p hp] at e
        cases e
        exact .inr (.inl ⟨((C p hp).tab (hT p hp)).isCodeTable, rfl, #[], more, rfl, by rw [Array.empty_append]; exact hm⟩)
      · exact .inl (same b o hb e)
    · by_cases hb : b ∈ cs.map (·.2)
      · obtain ⟨p, hp, ep⟩ := List.mem_map.mp hb
        obtain ⟨more, hm⟩ := grown p hp
        rw [← ep]
        exact ⟨_, hm⟩
      · exact ⟨o, same b o hb e⟩
end
/-- what is known of the law's def, at the head's heap -/
def LawAt (l : PySem.W.OpenLaw) (w : World) (K : Frag) (k n : Nat) (x : Str) (mg : Str → Option Value) (h : PySem.Heap) (fa : Addr) : Prop :=
  ∃ (fd : FuncData) (cs : List (Addr × Addr)) (sp : Sp), (∀ p ∈ cs, h.get? p.2 = some { cls := .none, data := .fields #[] }) ∧ (∀ p ∈ cs, K.lookup p.2 = none) ∧ (∀ p ∈ cs, PySem.W.CodeHd h p.1 p.2) ∧ (∀ (s : Shared) (u : Value), BindsTo s fd ⟨[u], []⟩ [(x, u)]) ∧
    (∀ (H : Hp) (a : Addr) (ns : List Int), ns.length ≤ n → (∀ z ∈ ns, Builtin.Int.intBits z ≤ 1048576) → (∀ p ∈ cs, H p.2 = some (.tbl #[])) → SqZ K H a (ns.map V.int) → sp [.ref a] H (fun v _ => v = .bl true) fun _ _ _ => False) ∧
    ∀ base : PySem.Heap, K.In base → base.Ns mainGlobals mg → (∀ p ∈ cs, LamX.TabB base mg p.1 p.2) → Does l.prog w K mg base k fa fd [x] sp
theorem walk_law {l : PySem.W.OpenLaw} {n k : Nat} {q : Program} {loose : List Str} {XP : (Str → Option Value) → PySem.Heap → Prop} {YP : World → PySem.Heap → Prop} {d : DefRec} {K : Params → Frag} {x : Str}
    (hn : l.most = some n) (hn2 : n ≤ sizeLine) (hdf : d.params.defaults = []) (hr : Room k callerA) (hY : ∀ (w : World) (h : PySem.Heap), YP w h → (K w.params).In h)
    (F : ∀ (w : World) (mg : Str → Option Value) (fa : Addr) (h : PySem.Heap), YP w h → (K w.params).In h → h.Ns mainGlobals mg → mg d.name = some (.ref fa) → LawAt l w (K w.params) k n x mg h fa) :
    PySem.W.WalkO q loose XP YP l.row.toRowW d [] (fun f vs => PySem.call f vs) := by
  refine Att.attach_callB hn hdf fun w s₀ s₁ mg mb fa o pm cd doc a vs ns G Y ho hd hcd hmg hobj hints hlen hbits hg => ?_
  have KX := hY w _ Y
  obtain ⟨fd, cs, sp, hT, nT, C, hb, hsp, hF⟩ := F w mg fa _ Y KX G.T.g hmg
  have rv := vals_ints hints
  have lenV := hints.length
  have hl : ns.length ≤ sizeLine := Nat.le_trans hlen hn2
  have aT : a ∉ cs.map (·.2) := fun z => by
    obtain ⟨p, hp, e⟩ := List.mem_map.mp z
    have q := hT p hp
    rw [e, hobj] at q
    have z' : Data.seq vs.toArray _ = Data.fields #[] := congrArg Obj.data (Option.some.inj q)
    cases z'
  have atT : ∀ u p, p ∈ cs → H0 a (cs.map (·.2)) u p.2 = some (.tbl #[]) := fun u p hp =>
    (if_neg (fun z : p.2 = a => aT (List.mem_map.mpr ⟨p, hp, z⟩))).trans (if_pos (List.mem_map.mpr ⟨p, hp, rfl⟩))
  cases hk : (K w.params).lookup a with
  | some o =>
    have e := KX a o hk
    rw [hobj] at e
    cases e
    exact law_from (u := none) KX G.T.g G.T.b G.T.builtins G.T.nolimit hg hT nT C G.T.bmain hobj ⟨hr, rfl⟩ aT hF hb (fun o z => nomatch z)
      (hsp _ a ns hlen hbits (fun p hp => atT none p hp) (.inr ⟨vs.toArray, _, hk, by rw [List.size_toArray, lenV]; exact hl, by simpa using rv⟩))
  | none =>
    refine law_from (u := some (.frz { cls := .type "list", data := .seq vs.toArray } (.lst (ns.map V.int)))) KX G.T.g G.T.b G.T.builtins G.T.nolimit hg hT nT C G.T.bmain hobj ⟨hr, rfl⟩ aT hF hb (fun o z => ?_)
      (hsp _ a ns hlen hbits (fun p hp => atT _ p hp) (.inl ⟨_, if_pos rfl⟩))
    cases z
    exact ⟨⟨_, rfl⟩, ⟨hobj, by rw [List.length_map]; exact hl, vs, _, rv, hobj⟩, hk⟩
end Ev
end
section
/-! EvHa: arguments are bound, by position. -/
set_option autoImplicit false
set_option linter.all false
set_option maxRecDepth 100000
set_option maxHeartbeats 2000000
set_option Elab.async false
namespace Ev
open PySem PySem.Spec PyProof.Rows L2

theorem zip_none {ns : List Str} {us : List Value} {y : Str} (h : y ∉ ns) : (ns.zip us).lookup y = none := by
  induction ns generalizing us with
  | nil => rfl
  | cons n ns ih =>
    cases us with
    | nil => rfl
    | cons u us =>
      simp only [List.mem_cons, not_or] at h
      have e : (y == n) = false := by simpa using h.1
      simp only [List.zip_cons_cons, List.lookup, e]
      exact ih h.2
theorem zip_some {ns : List Str} {us : List Value} (hl : us.length = ns.length) {y : Str} (h : y ∈ ns) : ((ns.zip us).lookup y).isSome = true := by
  induction ns generalizing us with
  | nil => cases h
  | cons n ns ih =>
    cases us with
    | nil => simp at hl
    | cons u us =>
      by_cases e : y = n
      · subst e; simp [List.lookup]
      · have e' : (y == n) = false := by simpa using e
        simp only [List.zip_cons_cons, List.lookup, e']
        exact ih (by simpa using hl) ((List.mem_cons.mp h).resolve_left e)
theorem zip_again {ns : List Str} {us : List Value} (hl : us.length = ns.length) (nd : ns.Nodup) : ns.filterMap (fun n => ((ns.zip us).lookup n).map (n, ·)) = ns.zip us := by
  induction ns generalizing us with
  | nil => rfl
  | cons n ns ih =>
    cases us with
    | nil => simp at hl
    | cons u us =>
      obtain ⟨h1, h2⟩ := List.nodup_cons.mp nd
      rw [List.zip_cons_cons, List.filterMap_cons]
      simp only [List.lookup, beq_self_eq_true, Option.map_some]
      congr 1
      have key : ∀ l : List Str, (∀ y ∈ l, y ≠ n) → l.filterMap (fun x => Option.map (fun x_1 => (x, x_1)) (match x == n with | true => some u | false => List.lookup x (ns.zip us))) = l.filterMap (fun n => ((ns.zip us).lookup n).map (n, ·)) := by
        intro l
        induction l with
        | nil => intro _; rfl
        | cons y l ihl =>
          intro hl
          have e : (y == n) = false := by simpa using hl y (List.mem_cons_self ..)
          rw [List.filterMap_cons, List.filterMap_cons, ihl fun z hz => hl z (List.mem_cons_of_mem _ hz)]
          simp only [e]
      exact (key ns fun y hy e => h1 (e ▸ hy)).trans (ih (by simpa using hl) h2)
theorem bind_all {name qual : Str} {as : List Arg} {body : FuncBody} {scope : Scope} {g : Addr} {cl : List (Str × Addr)} {kV doc pm cdv ct : Value} {an : Option Addr} {bl : Addr} {us : List Value} (nd : (as.map (·.arg)).Nodup) (hl : us.length = as.length) :
    bindArgs { name := name, qualname := qual, params := ⟨[], as, none, [], [], none, []⟩, body := body, scope := scope, globals := g, closure := cl, defaults := .none, kwdefaults := kV, doc := doc, pyModule := pm, annotations := an, code := cdv, closureTuple := ct, builtins := bl } ⟨us, []⟩ = pure ((as.map (·.arg)).zip us) := by
  have hl' : us.length = (as.map (·.arg)).length := by rw [List.length_map]; exact hl
  have m : (as.map (·.arg)).filter (fun n => (((as.map (·.arg)).zip us).lookup n).isNone) = [] := by
    rw [List.filter_eq_nil_iff]
    intro y hy
    have := zip_some hl' hy
    cases e : ((as.map (·.arg)).zip us).lookup y with
    | none => rw [e] at this; cases this
    | some _ => simp
  unfold bindArgs
  have tk : List.take as.length (as.map (·.arg)) = as.map (·.arg) := by
    rw [← List.length_map (f := fun x : Arg => x.arg)]
    exact List.take_length
  have fm : List.filterMap ((fun n => Option.map (fun x => (n, x)) (List.lookup n ((as.map (·.arg)).zip us))) ∘ fun x : Arg => x.arg) as = (as.map (·.arg)).zip us := by
    rw [← List.filterMap_map]
    exact zip_again hl' nd
  simp [seqItems?, m, zip_again hl' nd, hl]
  rw [if_neg]
  · simp only [fm]
    rfl
  · simp [tk, m]
end Ev
end
section
/-! EvHb: the exceptions' __init__, by a checker; what the head tells of a class. -/
set_option autoImplicit false
set_option linter.all false
set_option maxRecDepth 100000
set_option maxHeartbeats 2000000
set_option Elab.async false
namespace Ev
open PySem PySem.Spec PyProof.Rows L2 NdefX

/-- super().__init__('..'); self.f = p | super().__init__(p) -/
def initB (fl : Option Str) (params : Arguments) (body : List Stmt) (sc : Scope) : Bool :=
  match params with
  | ⟨[], [a0, a1], none, [], [], none, []⟩ => nscB [a0.arg, a1.arg, "__class__"] [a0.arg, a1.arg] ["__class__"] sc && decide (sc.names.lookup ("super" : Str) = some .globalImplicit) && okName a0.arg && okName a1.arg &&
    (match fl, body with
      | some f, [.Expr (.Call (.Attribute (.Call (.Name su _) [] [] _) ini pa) [.Constant (.str _) _ _] [] pc) _, .Assign [.Attribute (.Name s1 _) f' _] (.Name v1 _) _] => su == ("super" : Str) && ini == ("__init__" : Str) && s1 == a0.arg && f' == f && v1 == a1.arg && pa.endLine == pc.line
      | none, [.Expr (.Call (.Attribute (.Call (.Name su _) [] [] _) ini pa) [.Name v1 _] [] pc) _] => su == ("super" : Str) && ini == ("__init__" : Str) && v1 == a1.arg && pa.endLine == pc.line
      | _, _ => false)
  | _ => false
theorem super_eval {env : PySem.Env} {e o : Expr} {m : Str} {p2 p3 : Pos} (hl : (p2.endLine == p3.line) = true) (hst : starEach [e] env = (false, eval e env) :: starEach [] env) :
    eval (.Call (.Attribute o m p2) [e] [] p3) env = (do
      let ov ← attributeBase o m env (eval o env)
      standAt p2.atName
      let (g, first) ← holding [ov] (getMethod ov m (plainOf o env))
      callWith p3 g first (backTo p3 (starEach [e] env)) []) := by
  rw [arm_eval_Call, hst]
  congr 1
  funext ov
  congr 1
  funext _
  exact mcall_line (by rfl) hl
section
variable {P : Program} {w : World} {K : Frag} {mg : Str → Option Value} {base : PySem.Heap}
theorem init_fn {C cc f cda : Addr} {B newId initId : String} {bmB : List Value} {name qual : Str} {params : Arguments} {body : List Stmt} {scope : Scope} {oc doc pm ctv ccl2 : Value} {od cld : Option Addr} {osl csl : Array (Option Value)} {fl : Option Str}
    (T : ExK P K C B newId initId bmB) (S : ExS K C B bmB) (ht : ∀ g, fl = some g → PySem.W.takerIn K C g = some none) (lk : K.lookup f = some ⟨oc, od, .func (PySem.W.fnX name qual params body scope [(("__class__" : Str), cc)] .none .none doc pm none (.ref cda) ctv), osl⟩) (hcode : CodeF P K cda qual)
    (hcell : K.lookup cc = some ⟨ccl2, cld, .cell (some (.ref C)), csl⟩) (hm : mg "super" = none) (h : initB fl params body scope = true) :
    ∃ ps, FnOk P w K mg base (L2.CX P w) 1 f (PySem.W.fnX name qual params body scope [(("__class__" : Str), cc)] .none .none doc pm none (.ref cda) ctv) ps (spI C fl) ∧ Binds K (PySem.W.fnX name qual params body scope [(("__class__" : Str), cc)] .none .none doc pm none (.ref cda) ctv) ps [] := by
  unfold initB at h
  split at h
  · rename_i a0 a1
    simp only [Bool.and_eq_true, decide_eq_true_eq] at h
    obtain ⟨⟨⟨⟨h1, h2⟩, h3⟩, h4⟩, h5⟩ := h
    have NS := nscope_by h1
    obtain ⟨o1, o2, _⟩ := ok_name h3
    obtain ⟨o3, o4, _⟩ := ok_name h4
    have nd : [a0.arg, a1.arg].Nodup := by
      have := NS.nd.sublist (show List.Sublist [a0.arg, a1.arg] [a0.arg, a1.arg, ("__class__" : Str)] from List.sublist_append_left [a0.arg, a1.arg] [("__class__" : Str)])
      exact this
    refine ⟨[a0.arg, a1.arg], ?_, Binds.all fun us hl => bind_all (as := [a0, a1]) nd (by simpa using hl)⟩
    have pv : ∀ {X : Cx} (e : X.N = [a0.arg, a1.arg, ("__class__" : Str)]) (es : X.env.scope = scope) {i : Nat} {x : Str} {p : Pos}, [a0.arg, a1.arg][i]? = some x → PE X (.Name x p) (tVar i) := fun {X} e es {i x p} hi => by
      have hx : x ∈ [a0.arg, a1.arg] := List.mem_of_getElem? hi
      refine pe_var (by rw [e]; exact (show [a0.arg, a1.arg, ("__class__" : Str)][i]? = some x from by
        match i, hi with
        | 0, hi => exact hi
        | 1, hi => exact hi
        | i + 2, hi => simp at hi)) (.inl (by rw [es]; exact NS.par x hx)) ?_ ?_
      · rcases List.mem_cons.mp hx with rfl | hx
        · exact o1
        · rw [List.mem_singleton.mp hx]; exact o3
      · rcases List.mem_cons.mp hx with rfl | hx
        · exact o2
        · rw [List.mem_singleton.mp hx]; exact o4
    split at h5
    · rename_i g su ps1 pc1 ini pa sx kk pk pcall pex s1 ps1' f' pf v1 pv1 pas
      simp only [Bool.and_eq_true, beq_iff_eq] at h5
      obtain ⟨⟨⟨⟨⟨rfl, rfl⟩, rfl⟩, rfl⟩, rfl⟩, hl⟩ := h5
      refine fn_super (F := ⟨name, qual, _, _, scope, [(("__class__" : Str), cc)], cda⟩) (N := [a0.arg, a1.arg, "__class__"]) (ar := a0) (k := 0) (pl := plainOf _) T NS rfl lk hcode hcell hm rfl rfl rfl (NS.par _ (by simp)) h2 (fun vs H Q E z => ?_) (fun _ => by unfold interactive; simp [NS.kind]) (fun _ => rfl) (fun L => super_eval (by rw [hl]; simp) rfl) (fun _ => rfl) fun A outer s H vs Q E hr hsp => ?_
      · obtain ⟨a, v, rfl, _⟩ := z
        rfl
      · obtain ⟨a, v, rfl, hH, q⟩ := hsp
        refine ⟨a, _, _, rfl, hH, pa_cons pe_str pa_nil, pss_one (ps_ostB S (ht _ rfl) (pv rfl rfl (i := 0) rfl) (pv rfl rfl (i := 1) rfl) rfl), by simp, hH, ?_⟩
        refine ⟨v, rfl, .ref a, rfl, a, rfl, hH, fun dx n ne => ?_⟩
        exact q dx n ne
    · rename_i su ps1 pc1 ini pa v1 pv1 pcall pex
      simp only [Bool.and_eq_true, beq_iff_eq] at h5
      obtain ⟨⟨⟨rfl, rfl⟩, rfl⟩, hl⟩ := h5
      refine fn_super (F := ⟨name, qual, _, _, scope, [(("__class__" : Str), cc)], cda⟩) (N := [a0.arg, a1.arg, "__class__"]) (ar := a0) (k := 0) (pl := plainOf _) T NS rfl lk hcode hcell hm rfl rfl rfl (NS.par _ (by simp)) h2 (fun vs H Q E z => ?_) (fun _ => by unfold interactive; simp [NS.kind]) (fun _ => rfl) (fun L => super_eval (by rw [hl]; simp) rfl) (fun _ => rfl) fun A outer s H vs Q E hr hsp => ?_
      · obtain ⟨a, v, rfl, _⟩ := z
        rfl
      · obtain ⟨a, v, rfl, hH, q⟩ := hsp
        refine ⟨a, _, _, rfl, hH, pa_cons (pv rfl rfl (i := 1) rfl) pa_nil, pss_nil, v, rfl, by simp, hH, q⟩
    · cases h5
  · cases h
end
end Ev
end
section
/-! EvHc: what the head tells: constants, classes of exceptions, defs. -/
set_option autoImplicit false
set_option linter.all false
set_option maxRecDepth 100000
set_option maxHeartbeats 2000000
set_option Elab.async false
namespace Ev
open PySem PySem.Spec PyProof.Rows L2 NdefX He

/-! ### constants -/
def lhs0 : Leaf → Int
  | .none => reduceHash 0xFCA86420
  | .num i => hashInt i
  | .text _ => 0
theorem lhs0_ok {w : World} {l : Leaf} (h : ∀ x, l ≠ .text x) : lhs0 l = l.key.hash w := by
  cases l with
  | none => simp [lhs0, Leaf.key, NestedKey.hash]
  | num i => simp [lhs0, Leaf.key, NestedKey.hash]
  | text x => exact absurd rfl (h x)
/-- a key that is no text, as the entry has it -/
def keyB (k : D) (e : DictEntry) : Bool := match k, e.key with
  | .non, .none => decide (e.hash = lhs0 .none)
  | .bl b, .bool c => b == c && decide (e.hash = lhs0 (.num (if b then 1 else 0)))
  | .int i, .int j _ => decide (i = j) && decide (e.hash = lhs0 (.num i))
  | _, _ => false
def keysB : List D → List DictEntry → Bool
  | [], [] => true
  | k :: ks, e :: es => keyB k e && keysB ks es
  | _, _ => false
mutual
def denB (K : Frag) : D → Value → Bool
  | .non, u => (match u with | .none => true | _ => false)
  | .bl b, u => (match u with | .bool c => b == c | _ => false)
  | .int i, u => (match u with | .int j _ => decide (i = j) | _ => false)
  | .str s, u => (match u with | .str x _ => decide (x = T s) && decide (s.length ≤ sizeLine) | _ => false)
  | .tup xs, u => (match u with
    | .ref a => (match K.lookup a with
      | some ⟨.type c, _, .seq its _, _⟩ => decide (c = "tuple") && decide (its.size ≤ sizeLine) && denBs K xs its.toList
      | _ => false)
    | _ => false)
  | .lst xs, u => (match u with
    | .ref a => (match K.lookup a with
      | some ⟨.type c, none, .seq its _, sl⟩ => decide (c = "list") && decide (its.size ≤ sizeLine) && sl.isEmpty && denBs K xs its.toList
      | _ => false)
    | _ => false)
  | .dct ks vs, u => (match u with
    | .ref a => (match K.lookup a with
      | some ⟨.type c, none, .dict es _, sl⟩ => decide (c = "dict") && sl.isEmpty && !(a == sysModules) && decide (es.size ≤ sizeLine) && keysB ks es.toList && decide (ks.map leafOf).Nodup && denBs K vs (es.toList.map (·.val))
      | _ => false)
    | _ => false)
def denBs (K : Frag) : List D → List Value → Bool
  | [], us => us.isEmpty
  | x :: xs, us => (match us with
    | [] => false
    | u :: us => denB K x u && denBs K xs us)
end
theorem keys_ok {P : Program} {w : World} {K : Frag} : ∀ {ks : List D} {es : List DictEntry}, keysB ks es = true → ∃ (us : List V) (kvs : List (Leaf × Value)), Vals us (es.map (·.key)) ∧ (∀ H, Dens P w K H ks us) ∧ Pairs (leafKind P w) es kvs ∧ ks.map leafOf = kvs.map (fun p => some p.1) ∧ (∀ e ∈ es, ∃ k, (leafKind P w).is k e.key = true ∧ e.hash = (leafKind P w).hash k)
  | [], [], _ => ⟨[], [], .nil, fun _ => .nil, .nil, rfl, fun e h => by cases h⟩
  | [], _ :: _, h => by cases h
  | _ :: _, [], h => by cases h
  | k :: ks, e :: es, h => by
    obtain ⟨h1, h2⟩ := Bool.and_eq_true_iff.mp (show (keyB k e && keysB ks es) = true from h)
    obtain ⟨us, kvs, i1, i2, i3, i4, i5⟩ := keys_ok (P := P) (w := w) (K := K) h2
    obtain ⟨l, u, q1, q2, q3, q4, q5⟩ : ∃ (l : Leaf) (u : V), RelV u e.key ∧ (∀ H, Den P w K H k u) ∧ Leaf.isOf l e.key = true ∧ leafOf k = some l ∧ e.hash = l.key.hash w := by
      unfold keyB at h1
      obtain ⟨eh, ek, ev⟩ := e
      cases k with
      | non => cases ek <;> first | (cases h1; done) | exact ⟨.none, .non, rfl, fun _ => .non, rfl, rfl, by exact (of_decide_eq_true h1).trans (lhs0_ok (l := .none) (fun x z => by cases z))⟩
      | bl b =>
        cases ek with
        | bool c =>
          obtain ⟨h3, h4⟩ := Bool.and_eq_true_iff.mp h1
          obtain rfl := eq_of_beq h3
          refine ⟨.num (if b then 1 else 0), .bl b, rfl, fun _ => .bl b, ?_, rfl, (of_decide_eq_true h4).trans (lhs0_ok (l := .num (if b then 1 else 0)) (fun x z => by cases z))⟩
          cases b <;> rfl
        | _ => cases h1
      | int i =>
        cases ek with
        | int j t =>
          obtain ⟨h3, h4⟩ := Bool.and_eq_true_iff.mp h1
          obtain rfl := of_decide_eq_true h3
          refine ⟨.num i, .int i, ⟨t, rfl⟩, fun _ => .int i, ?_, rfl, (of_decide_eq_true h4).trans (lhs0_ok (l := .num i) (fun x z => by cases z))⟩
          simp [Leaf.isOf]
        | _ => cases h1
      | _ => cases h1
    refine ⟨u :: us, (l, e.val) :: kvs, .cons q1 i1, fun H => .cons (q2 H) (i2 H), .cons q3 rfl i3, by simp [q4, i4], fun e' he => ?_⟩
    rcases List.mem_cons.mp he with rfl | he
    · exact ⟨l, q3, q5⟩
    · exact i5 e' he
mutual
theorem denB_ok {P : Program} {w : World} {K : Frag} : ∀ {d : D} {u : Value}, denB K d u = true → ∃ v, RelV v u ∧ ∀ H, Den P w K H d v
  | .non, u, h => by
    unfold denB at h
    split at h
    · exact ⟨.non, rfl, fun _ => .non⟩
    · cases h
  | .bl b, u, h => by
    unfold denB at h
    split at h
    · obtain rfl := eq_of_beq h
      exact ⟨.bl b, rfl, fun _ => .bl b⟩
    · cases h
  | .int i, u, h => by
    unfold denB at h
    split at h
    · obtain rfl := of_decide_eq_true h
      exact ⟨.int i, ⟨_, rfl⟩, fun _ => .int i⟩
    · cases h
  | .str s, u, h => by
    unfold denB at h
    split at h
    · obtain ⟨h1, h2⟩ := Bool.and_eq_true_iff.mp h
      have e := of_decide_eq_true h1
      exact ⟨.str (T s), ⟨_, by rw [e]⟩, fun _ => .str (of_decide_eq_true h2)⟩
    · cases h
  | .tup xs, u, h => by
    unfold denB at h
    split at h
    · rename_i a
      split at h
      · rename_i c d its n sl e
        simp only [Bool.and_eq_true, decide_eq_true_eq] at h
        obtain ⟨⟨h1, h2⟩, h3⟩ := h
        obtain ⟨us, q1, q2⟩ := denBs_ok (P := P) (w := w) h3
        exact ⟨.ref a, rfl, fun H => .tup (.inr ⟨_, its, n, e, congrArg Value.type h1, rfl, h2, q1⟩) (q2 H)⟩
      · cases h
    · cases h
  | .lst xs, u, h => by
    unfold denB at h
    split at h
    · rename_i a
      split at h
      · rename_i c its n sl e
        simp only [Bool.and_eq_true, decide_eq_true_eq] at h
        obtain ⟨⟨⟨h1, h2⟩, h4⟩, h3⟩ := h
        obtain ⟨us, q1, q2⟩ := denBs_ok (P := P) (w := w) h3
        subst h1
        rw [Array.isEmpty_iff.mp h4] at e
        exact ⟨.ref a, rfl, fun H => .lst (.inr ⟨its, n, e, h2, q1⟩) (q2 H)⟩
      · cases h
    · cases h
  | .dct ks vs, u, h => by
    unfold denB at h
    split at h
    · rename_i a
      split at h
      · rename_i c es n sl e
        simp only [Bool.and_eq_true, decide_eq_true_eq, Bool.not_eq_true'] at h
        obtain ⟨⟨⟨⟨⟨⟨h1, h2⟩, h4⟩, h5⟩, h6⟩, h7⟩, h3⟩ := h
        obtain ⟨ws, q1, q2⟩ := denBs_ok (P := P) (w := w) h3
        obtain ⟨us, kvs, k1, k2, k3, k4, k5⟩ := keys_ok (P := P) (w := w) (K := K) h6
        subst h1
        rw [Array.isEmpty_iff.mp h2] at e
        refine ⟨.ref a, rfl, fun H => .dct (us := us) (ws := ws) ⟨h4, _, .inr e, es, n, kvs, ⟨rfl, rfl, rfl⟩, rfl, fun e he => k5 e (Array.mem_toList_iff.mpr he), k3, ?_, k1, q1, h5⟩ (k2 H) (q2 H)⟩
        rw [k4] at h7
        have : (kvs.map (fun p => some p.1)) = (kvs.map (·.1)).map some := by simp
        rw [this] at h7
        exact (List.pairwise_map.mp h7).imp fun h z => h (congrArg some z)
      · cases h
    · cases h
theorem denBs_ok {P : Program} {w : World} {K : Frag} : ∀ {ds : List D} {us : List Value}, denBs K ds us = true → ∃ vs, Vals vs us ∧ ∀ H, Dens P w K H ds vs
  | [], us, h => by
    unfold denBs at h
    cases us with
    | nil => exact ⟨[], .nil, fun _ => .nil⟩
    | cons _ _ => cases h
  | d :: ds, us, h => by
    unfold denBs at h
    cases us with
    | nil => cases h
    | cons u us =>
      obtain ⟨h1, h2⟩ := Bool.and_eq_true_iff.mp h
      obtain ⟨v, a1, a2⟩ := denB_ok (P := P) (w := w) h1
      obtain ⟨vs, b1, b2⟩ := denBs_ok (P := P) (w := w) h2
      exact ⟨v :: vs, .cons a1 b1, fun H => .cons (a2 H) (b2 H)⟩
end
/-! ### classes of exceptions -/
inductive Bs where | value | look | over
  deriving DecidableEq
def Bs.B : Bs → String
  | .value => "ValueError"
  | .look => "LookupError"
  | .over => "OverflowError"
def Bs.newId (b : Bs) : String := b.B ++ ".__new__"
def Bs.initId (b : Bs) : String := b.B ++ ".__init__"
def Bs.bmB : Bs → List Value
  | .value => [.type "ValueError", .type "Exception", .type "BaseException", .type "object"]
  | .look => [.type "LookupError", .type "Exception", .type "BaseException", .type "object"]
  | .over => [.type "OverflowError", .type "ArithmeticError", .type "Exception", .type "BaseException", .type "object"]
theorem Bs.base (b : Bs) : BaseX b.B b.newId b.initId b.bmB := by
  cases b
  · exact ⟨PySem.F.excBase_ValueError, PySem.W.kxs_ValueError⟩
  · exact ⟨PySem.F.excBase_LookupError, PySem.W.kxs_LookupError⟩
  · exact ⟨PySem.F.excBase_OverflowError, PySem.W.kxs_OverflowError⟩
theorem Bs.sf (b : Bs) : StoreFacts b.B b.bmB "object.__setattr__" "object" := by
  cases b
  · exact PySem.F.store_ValueError
  · exact PySem.F.store_LookupError
  · exact PySem.F.store_OverflowError
structure XI where
  name : Str
  fl : Option Str
  bs : Bs
def fdAt (K : Frag) (f : Addr) : Option FuncData := match K.lookup f with | some ⟨_, _, .func fd, _⟩ => some fd | _ => none
/-- the def at f closes over __class__, which is C; its body has the form -/
def initAt (P : Program) (K : Frag) (C f : Addr) (fl : Option Str) : Bool := match fdAt K f with
  | some fd => (match fd.body, fd.closure, fd.code, fd.annotations with
    | .stmts b, [(x, cc)], .ref cda, none => initB fl fd.params b fd.scope && x == ("__class__" : Str) && decide (fd.globals = mainGlobals) && decide (fd.builtins = builtinsNs) && decide (fd.defaults = .none) && decide (fd.kwdefaults = .none) &&
      (match K.lookup cc with | some ⟨_, _, .cell (some (.ref C')), _⟩ => C' == C | _ => false) && PySem.W.codeIn K (.ref cda) fd.qualname &&
      (match K.lookup cda with | some ⟨_, _, .fields vs, _⟩ => (match (vs[2]? : Option Value) with | some (.str file _) => (P.main.file : Str) == file | _ => false) | _ => false)
    | _, _, _, _ => false)
  | none => false
def exB (P : Program) (K : Frag) (x : XI) : Bool :=
  decide (PySem.W.nsIn K mainGlobals x.name = some (some (.ref (ga K x.name)))) &&
  PySem.W.excInitIn K (ga K x.name) x.bs.bmB x.bs.newId && decide (PySem.W.ks_superIn K (ga K x.name) (ga K x.name) "__init__" = some (some (.builtin x.bs.initId))) && decide (PySem.W.subIn K (.ref (ga K x.name)) (.type x.bs.B) = some true) &&
  decide (PySem.W.nsIn K cStatics "thirdparty.any" = some none) && decide (PySem.W.mroIn K (ga K x.name) (.ref (ga K x.name)) = some true) && (PySem.W.clsIn K (ga K x.name)).isSome && !(P.main.scope.names.lookup ("super" : Str)).isSome &&
  decide (PySem.W.findIn K (.ref (ga K x.name)) "__setattr__" = some (some (.builtin "object.__setattr__"))) && PySem.W.excOver K (ga K x.name) x.bs.bmB && PySem.W.hasDictIn K (ga K x.name) && decide (PySem.W.subIn K (.ref (ga K x.name)) (.type "BaseException") = some true) && decide (PySem.W.typeIn K (.ref (ga K x.name)) = some (.type "type")) && PySem.W.keepIn K (.ref (ga K x.name)) &&
  decide (PySem.W.findIn K (.ref (ga K x.name)) "__init__" = some (some (.ref (ma K (ga K x.name) "__init__")))) && decide (PySem.W.typeIn K (.ref (ma K (ga K x.name) "__init__")) = some (.type "function")) &&
  (match x.fl with | some f => decide (PySem.W.takerIn K (ga K x.name) f = some none) && decide (PySem.W.findIn K (.ref (ga K x.name)) f = some none) && xfB K (ga K x.name) | none => true) && initAt P K (ga K x.name) (ma K (ga K x.name) "__init__") x.fl
def exmB (K : Frag) (xs : List XI) : Bool := (List.range xs.length).all fun k => (List.range xs.length).all fun j => match xs[k]?, xs[j]? with
  | some a, some b => decide (PySem.W.exmOne K (.ref (ga K a.name)) (.ref (ga K b.name)) = some (decide (j = k)))
  | _, _ => false
def xcOf (K : Frag) (xs : List XI) : XC := ⟨xs.length, fun k => match xs[k]? with | some x => .ref (ga K x.name) | none => .none, fun k => (xs[k]?).bind (·.fl)⟩
/-- an exception's class, as the head has it -/
structure ExAt (P : Program) (w : World) (K : Frag) (mg : Str → Option Value) (base : PySem.Heap) (x : XI) : Prop where
  mgx : mg x.name = some (.ref (ga K x.name))
  k : ExK P K (ga K x.name) x.bs.B x.bs.newId x.bs.initId x.bs.bmB
  s : ExS K (ga K x.name) x.bs.B x.bs.bmB
  iC : PySem.W.findIn K (.ref (ga K x.name)) "__init__" = some (some (.ref (ma K (ga K x.name) "__init__")))
  tI : PySem.W.typeIn K (.ref (ma K (ga K x.name) "__init__")) = some (.type "function")
  fl : ∀ f, x.fl = some f → PySem.W.takerIn K (ga K x.name) f = some none ∧ PySem.W.findIn K (.ref (ga K x.name)) f = some none ∧ XfC K (ga K x.name)
  fn : ∃ fd ps, FnOk P w K mg base (L2.CX P w) 1 (ma K (ga K x.name) "__init__") fd ps (spI (ga K x.name) x.fl) ∧ Binds K fd ps []
theorem exB_ok {P : Program} {w : World} {K : Frag} {mg : Str → Option Value} {h base : PySem.Heap} {x : XI} (X : K.In h) (G : h.Ns mainGlobals mg) (hs : mg "super" = none) (e : exB P K x = true) : ExAt P w K mg base x := by
  unfold exB at e
  simp only [Bool.and_eq_true, decide_eq_true_eq, Bool.not_eq_true'] at e
  obtain ⟨⟨⟨⟨⟨⟨⟨⟨⟨⟨⟨⟨⟨⟨⟨⟨⟨e1, e2⟩, e3⟩, e4⟩, e5⟩, e6⟩, e7⟩, e8⟩, e9⟩, e10⟩, e11⟩, e12⟩, e13⟩, e14⟩, e15⟩, e16⟩, e17⟩, e18⟩ := e
  have hk : ExK P K (ga K x.name) x.bs.B x.bs.newId x.bs.initId x.bs.bmB := ⟨x.bs.base, e2, e3, e4, e5, e6, Option.isSome_iff_exists.mp e7, e8⟩
  have hS : ExS K (ga K x.name) x.bs.B x.bs.bmB := ⟨x.bs.sf, e9, e10, e11, e12, e13, e14⟩
  have hfl : ∀ f, x.fl = some f → PySem.W.takerIn K (ga K x.name) f = some none ∧ PySem.W.findIn K (.ref (ga K x.name)) f = some none ∧ XfC K (ga K x.name) := fun f q => by
    rw [q] at e17
    simp only [Bool.and_eq_true, decide_eq_true_eq] at e17
    exact ⟨e17.1.1, e17.1.2, xfB_ok e17.2⟩
  refine ⟨PySem.W.mg_of X G e1, hk, hS, e15, e16, hfl, ?_⟩
  unfold initAt fdAt at e18
  split at e18
  · rename_i fd q
    split at q
    · rename_i c d fd' sl lk
      cases q
      split at e18
      · rename_i b y cc cda q1 q2 q3 q4
        simp only [Bool.and_eq_true, decide_eq_true_eq, beq_iff_eq] at e18
        obtain ⟨⟨⟨⟨⟨⟨⟨⟨f1, f2⟩, f3⟩, f4⟩, f5⟩, f6⟩, f7⟩, f8⟩, f9⟩ := e18
        obtain ⟨n1, n2, n3, n4, n5, n6, n7, n8, n9, n10, n11, n12, n13, n14, n15⟩ := fd
        dsimp only at q1 q2 q3 q4 f1 f2 f3 f4 f5 f6 f7 f8 f9
        subst q1 q2 q3 q4 f2 f3 f4 f5 f6
        split at f7
        · rename_i cl3 cd3 C' sl3 hcc
          obtain rfl := eq_of_beq f7
          split at f9
          · rename_i cl4 cd4 vs4 sl4 hcd
            split at f9
            · rename_i file tf hv
              obtain ⟨ps, z1, z2⟩ := init_fn (w := w) (mg := mg) (base := base) hk hS (fun g q => (hfl g q).1) lk ⟨f8, _, _, _, _, _, _, hcd, hv, by simpa using f9⟩ hcc hs f1
              exact ⟨_, ps, z1, z2⟩
            · cases f9
          · cases f9
        · cases f7
      · cases e18
    · cases q
  · cases e18
end Ev
end
section
/-! EvHd: all defs of a text, level by level. -/
set_option autoImplicit false
set_option linter.all false
set_option maxRecDepth 100000
set_option maxHeartbeats 2000000
set_option Elab.async false
namespace Ev
open PySem PySem.Spec PyProof.Rows L2 NdefX He LamX

/-- a def of the text -/
structure DI where
  name : Str
  N : List Str
  np : Nat
  st : Stmt
  d : Def
  act : Bool
  lam : Bool
def DI.ps (x : DI) : List Str := x.N.take x.np
/-- a text -/
structure LD where
  dis : List DI
  xs : List XI
  gl : List (Str × D)
  bl : List Str
  fuel : Nat
def idx {α β : Type} (f : α → Nat → β) : Nat → List α → List β
  | _, [] => []
  | n, x :: xs => f x n :: idx f (n + 1) xs
def LD.glI (L : LD) : List (Str × Nat) := idx (fun (p : Str × D) i => (p.1, i)) 0 L.gl
def LD.exI (L : LD) : List (Str × Nat) := idx (fun (p : XI) i => (p.name, i)) 0 L.xs
def LD.fnI (L : LD) : List (Str × Nat × Nat) := (idx (fun (p : DI) i => (p, i)) 0 L.dis).filterMap fun q => if q.1.act then none else some (q.1.name, q.2, q.1.np)
def LD.lmI (L : LD) : List (Str × Nat) := (idx (fun (p : DI) i => (p, i)) 0 L.dis).filterMap fun q => if q.1.act then some (q.1.name, q.2) else none
def LD.prog (L : LD) : Prog := ⟨fun i => (L.dis[i]?).map (·.d), fun k => (L.gl[k]?).map (·.2), L.fuel⟩
def LD.fld (L : LD) : Nat → Option Str := fun k => (L.xs[k]?).bind (·.fl)
def LD.ck (L : LD) (x : DI) : Ck := { N := x.N, sc := defScope x.st, top := true, bl := L.bl, gl := L.glI, fn := L.fnI, act := if x.act then x.N.head? else none, lm := if x.lam then L.lmI else [] }
def fscB (N ps : List Str) (sc : Scope) : Bool := decide (sc.kind = .function) && !sc.isCoroutine && !sc.isGenerator && decide N.Nodup && decide (N.take ps.length = ps) && (ps.all fun x => decide (sc.names.lookup x = some .local) || decide (sc.names.lookup x = some .cell)) && sc.names.all fun y => !decide (y.2 = .free)
def parsB (a : Arguments) (ps : List Str) : Bool := match a with
  | ⟨[], as, none, [], [], none, []⟩ => decide (as.map (·.arg) = ps)
  | _ => false
def LD.okD (L : LD) (x : DI) : Bool := fscB x.N x.ps (defScope x.st) && parsB (defArgs x.st) x.ps && decide (x.d.ps = x.np) && decide (x.d.ns = x.N.length) && decide (x.np ≤ x.N.length) && (!x.act || (decide (x.np = 1) && (x.N.head?.any okName))) && chkSs (L.ck x) L.exI L.fld x.d.body (defBody x.st)
theorem fsc_by {N ps : List Str} {sc : Scope} (h : fscB N ps sc = true) : FnScope N ps sc := by
  unfold fscB at h
  simp only [Bool.and_eq_true, Bool.not_eq_true', decide_eq_true_eq, List.all_eq_true, Bool.or_eq_true, decide_eq_false_iff_not] at h
  obtain ⟨⟨⟨⟨⟨⟨h1, h2⟩, h3⟩, h4⟩, h5⟩, h6⟩, h7⟩ := h
  exact ⟨h1, h2, h3, h4, h5, h6, h7⟩
theorem idx_get {α β : Type} {f : α → Nat → β} : ∀ {l : List α} {n : Nat} {y : β}, y ∈ idx f n l → ∃ i x, l[i]? = some x ∧ y = f x (n + i)
  | [], _, _, h => by cases h
  | x :: xs, n, y, h => by
    rcases List.mem_cons.mp h with rfl | h
    · exact ⟨0, x, rfl, rfl⟩
    · obtain ⟨i, z, h1, h2⟩ := idx_get h
      exact ⟨i + 1, z, by simpa using h1, by rw [h2]; congr 1; omega⟩
/-- the tables of the defs that make lambdas -/
def LD.tb (L : LD) (K : Frag) : List (Addr × Str) := (L.dis.filter (·.lam)).map fun (x : DI) => (tabOf K (codeOf K (x.name, none)), (x.name ++ ".<locals>.") ++ "<lambda>")
/-- what the head tells -/
structure Hd (L : LD) (P : Program) (w : World) (K : Frag) (mg : Str → Option Value) (base : PySem.Heap) : Prop where
  dfs : ∀ (i : Nat) (x : DI), L.dis[i]? = some x → ∃ fd, FunD K x.name x.name (defArgs x.st) (defBody x.st) (defScope x.st) [] [] (ga K x.name) fd ∧ mg x.name = some (.ref (ga K x.name))
  free : ∀ x, L.bl.contains x = true → mg x = none
  glob : ∀ (k : Nat) (x : Str) (d : D), L.gl[k]? = some (x, d) → ∃ v u, mg x = some u ∧ RelV v u ∧ ∀ H, Den P w K H d v
  exc : ∀ (k : Nat) (x : XI), L.xs[k]? = some x → ExAt P w K mg base x
  exm : exmB K L.xs = true
  tabs : ∀ x ∈ L.dis, x.lam = true → TabB base mg (codeOf K (x.name, none)) (tabOf K (codeOf K (x.name, none)))
  tbu : ((L.tb K).map (·.1)).Nodup
def kLev (n : Nat) : Nat := 3 * n + 4
section
variable {L : LD} {P : Program} {w : World} {K : Frag} {mg : Str → Option Value} {base : PySem.Heap}
abbrev LD.Xs (L : LD) (P : Program) (w : World) (K : Frag) : Exs := (xcOf K L.xs).xs P w K
/-- what is proved of one def at level n -/
def DoesAt (L : LD) (P : Program) (w : World) (K : Frag) (mg : Str → Option Value) (base : PySem.Heap) (n i : Nat) (x : DI) : Prop :=
  ∀ fd, FunD K x.name x.name (defArgs x.st) (defBody x.st) (defScope x.st) [] [] (ga K x.name) fd → Does P w K mg base (kLev n) (ga K x.name) fd x.ps (spC P w K (L.tb K) (L.Xs P w K) (callN L.prog n i) x.np)
def LDoesAt (L : LD) (P : Program) (w : World) (K : Frag) (mg : Str → Option Value) (base : PySem.Heap) (n i : Nat) (x : DI) : Prop :=
  ∀ fd a, FunD K x.name x.name (defArgs x.st) (defBody x.st) (defScope x.st) [] [] (ga K x.name) fd → x.N.head? = some a → LDoes P w K mg base (L.tb K) (L.Xs P w K) (kLev n + 2) (kLev n) (ga K x.name) fd a (lamN L.prog n i)
theorem pars_binds {x : DI} {fd : FuncData} {f : Addr} (F : FunD K x.name x.name (defArgs x.st) (defBody x.st) (defScope x.st) [] [] f fd) (hp : parsB (defArgs x.st) x.ps = true) (nd : x.N.Nodup) : ∀ us : List Value, us.length = x.ps.length → bindArgs fd ⟨us, []⟩ = pure (x.ps.zip us) := by
  intro us hl
  obtain ⟨oc, od, dV, kV, doc, pm, an, cdv, ct, osl, rfl, lk, hcd, hD, hK⟩ := F.ex
  rcases hD with ⟨_, rfl⟩ | ⟨e, _⟩
  · unfold parsB at hp
    split at hp
    · rename_i as e
      rw [e]
      have e2 := of_decide_eq_true hp
      rw [← e2]
      have nd2 : (as.map (·.arg)).Nodup := by
        rw [e2]
        exact nd.sublist (List.take_sublist _ _)
      exact bind_all nd2 (by rw [hl, ← e2, List.length_map])
    · cases hp
  · exact absurd rfl e
theorem globOk {J : Jx} {n : Nat} {th : Heap → Res PV} {b : Nat} (h : Hd L P w K mg base) (e1 : J.X.prog = P) (e2 : J.X.w = w) (e3 : J.X.K = K) (e4 : J.X.mg = mg) (e5 : J.g = gAt L.prog n th b) (x : Str) (k : Nat) (e : L.glI.lookup x = some k) : GlobOk J k x := by
  subst e1 e2 e3 e4
  obtain ⟨i, ⟨y, d⟩, q1, q2⟩ := idx_get (PySem.mem_of_lookup e)
  simp only [Prod.mk.injEq, Nat.zero_add] at q2
  obtain ⟨rfl, rfl⟩ := q2
  obtain ⟨v, u, a1, a2, a3⟩ := h.glob _ _ _ q1
  exact ⟨d, v, u, by rw [e5]; show (L.gl[k]?).map (·.2) = _; rw [q1]; rfl, a1, a2, a3⟩
theorem fnI_get {x : Str} {i np : Nat} (e : L.fnI.lookup x = some (i, np)) : ∃ y, L.dis[i]? = some y ∧ y.name = x ∧ y.np = np ∧ y.act = false := by
  have m := PySem.mem_of_lookup e
  obtain ⟨q, hq, e2⟩ := List.mem_filterMap.mp m
  obtain ⟨j, y, q1, q2⟩ := idx_get hq
  subst q2
  simp only [Nat.zero_add] at e2
  split at e2
  · cases e2
  · rename_i ha
    cases e2
    exact ⟨y, q1, rfl, rfl, by simpa using ha⟩
theorem lmI_get {x : Str} {i : Nat} (e : L.lmI.lookup x = some i) : ∃ y, L.dis[i]? = some y ∧ y.name = x ∧ y.act = true := by
  have m := PySem.mem_of_lookup e
  obtain ⟨q, hq, e2⟩ := List.mem_filterMap.mp m
  obtain ⟨j, y, q1, q2⟩ := idx_get hq
  subst q2
  simp only [Nat.zero_add] at e2
  split at e2
  · rename_i ha
    cases e2
    exact ⟨y, q1, rfl, ha⟩
  · cases e2
theorem xok {J : Jx} (h : Hd L P w K mg base) (e1 : J.X.prog = P) (e2 : J.X.w = w) (e3 : J.X.K = K) (e4 : J.X.mg = mg) (e5 : J.Xs = L.Xs P w K) : XOk J (xcOf K L.xs) L.exI := by
  subst e1 e2 e3 e4
  refine ⟨fun x k e => ?_, fun k j hk hj => ?_, fun k f e => ?_, e5⟩
  · obtain ⟨i, y, q1, q2⟩ := idx_get (PySem.mem_of_lookup e)
    simp only [Prod.mk.injEq, Nat.zero_add] at q2
    obtain ⟨rfl, rfl⟩ := q2
    exact ⟨by rw [(h.exc _ _ q1).mgx]; simp [xcOf, q1], (List.getElem?_eq_some_iff.mp q1).1⟩
  · have hk : k < L.xs.length := hk
    have hj : j < L.xs.length := hj
    have z := List.all_eq_true.mp (List.all_eq_true.mp h.exm k (List.mem_range.mpr hk)) j (List.mem_range.mpr hj)
    simp only [List.getElem?_eq_getElem hk, List.getElem?_eq_getElem hj] at z
    have z := of_decide_eq_true z
    simp only [xcOf, List.getElem?_eq_getElem hk, List.getElem?_eq_getElem hj]
    exact z
  · have e : (L.xs[k]?).bind (·.fl) = some f := e
    obtain ⟨x, q1, q2⟩ := Option.bind_eq_some_iff.mp e
    obtain ⟨a1, a2, a3⟩ := (h.exc _ _ q1).fl f q2
    exact ⟨ga J.X.K x.name, by simp [xcOf, q1], a3, a2⟩
theorem jck2_of {n : Nat} (h : Hd L P w K mg base) (ok : L.dis.all (L.okD) = true) (IH : ∀ i x, L.dis[i]? = some x → x.act = false → DoesAt L P w K mg base n i x) (IL : ∀ i x, L.dis[i]? = some x → x.act = true → LDoesAt L P w K mg base n i x) {i : Nat} {x : DI} (hx : L.dis[i]? = some x)
    {A : Around} {outer : List PySem.Env} {s : Shared} {H : Hp} {E : XK} {b : Nat} {tv : V} {th : Heap → Res PV} {f : Addr} {cdv : Value} (hr : Fit (kLev n + 2) (A.deeper (envOfC x.name (defScope x.st) s.heap.objs.size f cdv)))
    (okJ : (bodyJ P w K mg base (L.tb K) (L.Xs P w K) x.N x.name (defScope x.st) f cdv A outer s H E (gAt L.prog n th b) tv).Ok) (hk : (defScope x.st).kind = .function) (hcdv : x.lam = true → cdv = .ref (codeOf K (x.name, none)))
    (hact : ∀ a, x.act = true → x.N.head? = some a → ActIn (bodyJ P w K mg base (L.tb K) (L.Xs P w K) x.N x.name (defScope x.st) f cdv A outer s H E (gAt L.prog n th b) tv) a) :
    JCk2 (bodyJ P w K mg base (L.tb K) (L.Xs P w K) x.N x.name (defScope x.st) f cdv A outer s H E (gAt L.prog n th b) tv) (L.ck x) (xcOf K L.xs) L.exI where
  ck := {
    ok := okJ
    calm := rfl
    kd := hk
    N := rfl
    sc := rfl
    top := fun _ _ => rfl
    bl := h.free
    gl := fun x k e => globOk (n := n) (th := th) (b := b) h rfl rfl rfl rfl rfl x k e
    fn := fun y i np e => by
      obtain ⟨z, q1, rfl, rfl, q4⟩ := fnI_get e
      obtain ⟨fd, F, hm⟩ := h.dfs _ _ q1
      have hz := List.all_eq_true.mp ok z (List.mem_of_getElem? q1)
      unfold LD.okD at hz
      simp only [Bool.and_eq_true, decide_eq_true_eq] at hz
      obtain ⟨⟨⟨⟨⟨⟨z1, z2⟩, z3⟩, z4⟩, z5⟩, z6⟩, z7⟩ := hz
      exact ⟨kLev n, _, fd, z.ps, IH _ _ q1 q4 fd F, hr.mono (by omega), hm, F.kp, .all (pars_binds F z2 (fsc_by z1).nd)⟩
    act := fun a e => by
      have e : (if x.act then x.N.head? else none) = some a := e
      split at e
      · rename_i ha
        exact hact a ha e
      · cases e
    lam := fun y i e => by
      have e : (if x.lam then L.lmI else []).lookup y = some i := e
      split at e
      · rename_i hlam
        obtain ⟨z, q1, rfl, q4⟩ := lmI_get e
        obtain ⟨fd, F, hm⟩ := h.dfs _ _ q1
        have hz := List.all_eq_true.mp ok z (List.mem_of_getElem? q1)
        unfold LD.okD at hz
        simp only [Bool.and_eq_true, decide_eq_true_eq, Bool.or_eq_true, Bool.not_eq_true', q4] at hz
        obtain ⟨⟨⟨⟨⟨⟨z1, z2⟩, z3⟩, z4⟩, z5⟩, z6⟩, z7⟩ := hz
        obtain ⟨z6, z8⟩ : z.np = 1 ∧ (z.N.head?.any okName) = true := by
          rcases z6 with z6 | z6
          · cases z6
          · exact z6
        have hx' : x ∈ L.dis := List.mem_of_getElem? hx
        obtain ⟨a, ha⟩ : ∃ a, z.N.head? = some a := by
          cases e : z.N.head? with
          | none => rw [e] at z8; cases z8
          | some a => exact ⟨a, rfl⟩
        have hps : z.ps = [a] := by
          unfold DI.ps
          rw [z6]
          cases hN : z.N with
          | nil => rw [hN] at ha; cases ha
          | cons c cs => rw [hN] at ha; cases ha; rfl
        refine ⟨⟨codeOf K (x.name, none), tabOf K (codeOf K (x.name, none)), h.tabs x hx' hlam, hcdv hlam, List.mem_map.mpr ⟨x, List.mem_filter.mpr ⟨hx', hlam⟩, rfl⟩, fun p hp e => ?_⟩, kLev n, ⟨kLev n + 2, _, fd, a, IL _ _ q1 q4 fd a F ha, hr, hm, F.kp, ?_⟩, fun y i' np e => ?_⟩
        · have hmem : (tabOf K (codeOf K (x.name, none)), (x.name ++ ".<locals>.") ++ "<lambda>") ∈ L.tb K := List.mem_map.mpr ⟨x, List.mem_filter.mpr ⟨hx', hlam⟩, rfl⟩
          have key : ∀ {l : List (Addr × Str)}, (l.map (·.1)).Nodup → ∀ {p q : Addr × Str}, p ∈ l → q ∈ l → p.1 = q.1 → p = q := by
            intro l
            induction l with
            | nil => intro _ p q hp; cases hp
            | cons r l ih =>
              intro nd p q hp hq e
              obtain ⟨n1, n2⟩ := List.nodup_cons.mp nd
              rcases List.mem_cons.mp hp with h1 | h1 <;> rcases List.mem_cons.mp hq with h2 | h2
              · rw [h1, h2]
              · exact absurd (by show r.1 ∈ _; rw [← h1, e]; exact List.mem_map_of_mem h2) n1
              · exact absurd (by show r.1 ∈ _; rw [← h2, ← e]; exact List.mem_map_of_mem h1) n1
              · exact ih n2 h1 h2 e
          have := key h.tbu hp hmem e
          rw [this]
          rfl
        · rw [← hps]
          exact .all (pars_binds F z2 (fsc_by z1).nd)
        · obtain ⟨y', r1, rfl, rfl, r4⟩ := fnI_get e
          obtain ⟨fd', F', hm'⟩ := h.dfs _ _ r1
          have hy := List.all_eq_true.mp ok y' (List.mem_of_getElem? r1)
          unfold LD.okD at hy
          simp only [Bool.and_eq_true, decide_eq_true_eq] at hy
          obtain ⟨⟨⟨⟨⟨⟨y1, y2⟩, y3⟩, y4⟩, y5⟩, y6⟩, y7⟩ := hy
          exact ⟨kLev n, _, fd', y'.ps, IH _ _ r1 r4 fd' F', Nat.le_refl _, hm', F'.kp, .all (pars_binds F' y2 (fsc_by y1).nd)⟩
      · simp at e }
  xo := xok h rfl rfl rfl rfl rfl
  fr := fun _ => ⟨rfl, rfl⟩
  mkx := fun y k e => by
    obtain ⟨i, z, q1, q2⟩ := idx_get (PySem.mem_of_lookup e)
    simp only [Prod.mk.injEq, Nat.zero_add] at q2
    obtain ⟨rfl, rfl⟩ := q2
    have X := h.exc _ _ q1
    obtain ⟨fd, ps, F, B⟩ := X.fn
    have e2 : (xcOf K L.xs).fld k = z.fl := by simp [xcOf, q1]
    exact ⟨_, _, _, _, ga K z.name, ma K (ga K z.name) "__init__", 1, fd, ps, X.k, X.s, X.iC, X.tI, by rw [e2]; exact F, (hr.mono (show 2 ≤ kLev n + 2 by omega)).room, B, X.mgx, by simp [xcOf, q1], (List.getElem?_eq_some_iff.mp q1).1⟩
theorem table (h : Hd L P w K mg base) (ok : L.dis.all (L.okD) = true) : ∀ n, (∀ i x, L.dis[i]? = some x → x.act = false → DoesAt L P w K mg base n i x) ∧ (∀ i x, L.dis[i]? = some x → x.act = true → LDoesAt L P w K mg base n i x)
  | 0 => ⟨fun i x _ _ fd F => does_zero, fun i x _ _ fd a F _ => ldoes_zero⟩
  | n + 1 => by
    obtain ⟨IH, IL⟩ := table h ok n
    refine ⟨fun i x hx ha fd F => ?_, fun i x hx ha fd a F hN => ?_⟩
    all_goals
      have hz := List.all_eq_true.mp ok x (List.mem_of_getElem? hx)
      unfold LD.okD at hz
      simp only [Bool.and_eq_true, decide_eq_true_eq, Bool.or_eq_true, Bool.not_eq_true'] at hz
      obtain ⟨⟨⟨⟨⟨⟨z1, z2⟩, z3⟩, z4⟩, z5⟩, z6⟩, z7⟩ := hz
      have S := fsc_by z1
      obtain ⟨oc, od, dV, kV, doc, pm, an, cdv, ct, osl, rfl, lk, hcd, hD, hK⟩ := F.ex
      have hcdv : cdv = .ref (codeOf K (x.name, none)) := by
        obtain ⟨c, rfl⟩ := codeIn_ref hcd
        rw [codeOf_eq (p := (x.name, none)) lk rfl]
      have hd : L.prog.defs i = some x.d := by
        show (L.dis[i]?).map (·.d) = _
        rw [hx]
        rfl
    · have hps : x.ps.length = x.d.ps := by
        rw [z3]
        unfold DI.ps
        rw [List.length_take]
        omega
      have e := does_of (w := w) (mg := mg) (base := base) (tb := L.tb K) (Xs := L.Xs P w K) (P := P) (n := n) (k := kLev n + 2) (p := L.prog) lk hcd S hd hps z4.symm fun A outer s H E b tv hr okJ => ?_
      · rw [z3] at e
        exact e
      · have C := jck2_of h ok IH IL hx (th := fun _ => .bad) hr okJ S.kind (fun _ => hcdv) (fun a q => by rw [ha] at q; cases q)
        exact chkSs_ok x.d.body C z7
    · have z8 : x.np = 1 ∧ (x.N.head?.any okName) = true := by
        rcases z6 with z6 | z6
        · rw [ha] at z6; cases z6
        · exact z6
      have hps : x.ps = [a] := by
        unfold DI.ps
        rw [z8.1]
        cases e : x.N with
        | nil => rw [e] at hN; cases hN
        | cons c cs => rw [e] at hN; cases hN; rfl
      have hNa : x.N[0]? = some a := by rw [← List.head?_eq_getElem?]; exact hN
      obtain ⟨o1, o2, _⟩ := ok_name (x := a) (by have := z8.2; rw [hN] at this; exact this)
      rw [hps] at S
      refine (show LDoes P w K mg base (L.tb K) (L.Xs P w K) (kLev (n + 1) + 2) (kLev (n + 1)) _ _ a _ from ?_)
      refine ldoes_of (k := kLev (n + 1) + 1) lk hcd S hd (by rw [z3]; exact z8.1) z4.symm fun A outer s H E b f th hr act okJ => ?_
      have C := jck2_of h ok IH IL hx (th := th) (hr.mono (show kLev n + 2 ≤ kLev (n + 1) + 1 by unfold kLev; omega)) okJ S.kind (fun _ => hcdv) (fun a' _ q => ?_)
      · exact chkSs_ok x.d.body C z7
      · rw [hN] at q
        cases q
        intro W pn xe okW p1 p2
        have hv : Vis (defScope x.st) a := (S.par a (by simp)).elim .inl fun q => .inr (.inl q)
        exact act x.N x.name (defScope x.st) _ cdv E (gAt L.prog n th b) a rfl hNa hv o1 o2 hr W pn xe okW p1 p2
end
end Ev
end
section
/-! EvHe: the end: from the head's facts and the plain law to the statement. -/
set_option autoImplicit false
set_option linter.all false
set_option maxRecDepth 100000
set_option maxHeartbeats 2000000
set_option Elab.async false
namespace Ev
open PySem PySem.Spec PyProof.Rows L2 NdefX He LamX

theorem walk_lawE {l : PySem.W.OpenLaw} {n k : Nat} {q : Program} {loose : List Str} {XP : (Str → Option Value) → PySem.Heap → Prop} {YP : World → PySem.Heap → Prop} {d : DefRec} {x : Str}
    (hn : l.most = some n) (hn2 : n ≤ sizeLine) (hdf : d.params.defaults = []) (hr : Room k callerA)
    (F : ∀ (w : World) (mg : Str → Option Value) (fa : Addr) (h : PySem.Heap), YP w h → h.Ns mainGlobals mg → mg d.name = some (.ref fa) → ∃ K : Frag, K.In h ∧ LawAt l w K k n x mg h fa) :
    PySem.W.WalkO q loose XP YP l.row.toRowW d [] (fun f vs => PySem.call f vs) := by
  refine Att.attach_callB hn hdf fun w s₀ s₁ mg mb fa o pm cd doc a vs ns G Y ho hd hcd hmg hobj hints hlen hbits hg => ?_
  obtain ⟨K, KX, fd, cs, sp, hT, nT, C, hb, hsp, hF⟩ := F w mg fa _ Y G.T.g hmg
  have rv := vals_ints hints
  have lenV := hints.length
  have hl : ns.length ≤ sizeLine := Nat.le_trans hlen hn2
  have aT : a ∉ cs.map (·.2) := fun z => by
    obtain ⟨p, hp, e⟩ := List.mem_map.mp z
    have q := hT p hp
    rw [e, hobj] at q
    have z' : Data.seq vs.toArray _ = Data.fields #[] := congrArg Obj.data (Option.some.inj q)
    cases z'
  have atT : ∀ u p, p ∈ cs → H0 a (cs.map (·.2)) u p.2 = some (.tbl #[]) := fun u p hp =>
    (if_neg (fun z : p.2 = a => aT (List.mem_map.mpr ⟨p, hp, z⟩))).trans (if_pos (List.mem_map.mpr ⟨p, hp, rfl⟩))
  cases hk : K.lookup a with
  | some o =>
    have e := KX a o hk
    rw [hobj] at e
    cases e
    exact law_from (u := none) KX G.T.g G.T.b G.T.builtins G.T.nolimit hg hT nT C G.T.bmain hobj ⟨hr, rfl⟩ aT hF hb (fun o z => nomatch z)
      (hsp _ a ns hlen hbits (fun p hp => atT none p hp) (.inr ⟨vs.toArray, _, hk, by rw [List.size_toArray, lenV]; exact hl, by simpa using rv⟩))
  | none =>
    refine law_from (u := some (.frz { cls := .type "list", data := .seq vs.toArray } (.lst (ns.map V.int)))) KX G.T.g G.T.b G.T.builtins G.T.nolimit hg hT nT C G.T.bmain hobj ⟨hr, rfl⟩ aT hF hb (fun o z => ?_)
      (hsp _ a ns hlen hbits (fun p hp => atT _ p hp) (.inl ⟨_, if_pos rfl⟩))
    cases z
    exact ⟨⟨_, rfl⟩, ⟨hobj, by rw [List.length_map]; exact hl, vs, _, rv, hobj⟩, hk⟩
/-! ### the hook -/
def DI.defD (x : DI) : DefD := ⟨(x.name, none), x.name, x.name, defArgs x.st, defBody x.st, defScope x.st, [], []⟩
def LD.fa (L : LD) : List Fa := L.dis.map (fun x => Fa.glo x.name) ++ L.bl.map Fa.free
def LD.fn (L : LD) : List DefD := L.dis.map DI.defD
def LD.tf (L : LD) : List Defn := (L.dis.filter (·.lam)).map fun x => (x.name, none)
def globB (K : Frag) (p : Str × D) : Bool := match PySem.W.nsIn K mainGlobals p.1 with
  | some (some u) => denB K p.2 u
  | _ => false
def LD.ex (L : LD) (P : Program) (K : Frag) : Bool := L.xs.all (exB P K) && exmB K L.xs && L.gl.all (globB K) && decide ((L.tb K).map (·.1)).Nodup
/-- the statics' names beside what the globals reach -/
def asE (g : Addr → Option Obj) (n : Nat) : List Addr := cStatics :: asD g n
def obsE (n : Nat) (fa : List Fa) (fn : List DefD) (tf : List Defn) (ex : Frag → Bool) (g : Addr → Option Obj) : AlX := (obsT fa fn [] (frT g (asE g n)), ex (frT g (asE g n)) && tabsB g tf (frT g (asE g n)))
theorem saysE_of {n : Nat} {fa : List Fa} {fn : List DefD} {tf : List Defn} {ex : Frag → Bool} {w : World} {h : PySem.Heap} (e : obsE n fa fn tf ex h.get? = valX fn [] w) : SaysX fa fn [] tf ex w h (frT h.get? (asE h.get? n)) := by
  have e1 : obsT fa fn [] (frT h.get? (asE h.get? n)) = valT fn [] w := congrArg (fun z : AlX => z.1) e
  have e2 : (ex (frT h.get? (asE h.get? n)) && tabsB h.get? tf (frT h.get? (asE h.get? n))) = true := congrArg (fun z : AlX => z.2) e
  obtain ⟨h1, h2⟩ := Bool.and_eq_true_iff.mp e2
  have key : ∀ p ∈ tf, PySem.W.codeHdIn (frT h.get? (asE h.get? n)) (cT (frT h.get? (asE h.get? n)) p).1 (cT (frT h.get? (asE h.get? n)) p).2 = true ∧ ∃ o, h.get? (cT (frT h.get? (asE h.get? n)) p).2 = some o ∧ emptyTab o = true := fun p hp => by
    obtain ⟨h3, h4⟩ := Bool.and_eq_true_iff.mp (List.all_eq_true.mp h2 p hp)
    refine ⟨h3, ?_⟩
    split at h4
    · rename_i o q
      exact ⟨o, q, h4⟩
    · cases h4
  refine ⟨e1, h1, fun p hp => (key p hp).1, fun p hp => ?_, fun p hp => ?_⟩
  · obtain ⟨_, o, q, z⟩ := key p hp
    exact frT_none q z
  · obtain ⟨_, o, q, z⟩ := key p hp
    rw [q, emptyTab_eq z]
def hookE (n : Nat) (fa : List Fa) (fn : List DefD) (tf : List Defn) (ex : Frag → Bool) : PySem.W.Hook where
  α := AlX
  obs := fun s => obsE n fa fn tf ex s.heap.get?
  val := fun w => valX fn [] w
  says := fun w h => ∃ K : Frag, K.In h ∧ SaysX fa fn [] tf ex w h K
  of := fun _ _ e => ⟨_, frT_in, saysE_of e⟩
  keeps := fun _ _ _ ⟨K, hK, c⟩ k => ⟨K, PySem.W.Frag.In.keeps hK k, ⟨c.t, c.more, c.hd, c.out, fun p hp => k _ _ (c.empty p hp)⟩⟩
theorem obsE_eq {n : Nat} {fa : List Fa} {fn : List DefD} {tf : List Defn} {ex : Frag → Bool} {g : Addr → Option Obj} {s : Shared} (h : ∀ a, g a = s.heap.get? a) : obsE n fa fn tf ex g = (hookE n fa fn tf ex).obs s := by
  have e : g = s.heap.get? := funext h
  rw [e] <;> rfl
abbrev LD.hook (L : LD) (P : Program) (n : Nat) : PySem.W.Hook := hookE n L.fa L.fn L.tf (L.ex P)
section
variable {l : PySem.W.OpenLaw} {L : LD} {P : Program} {w : World} {K : Frag} {mg : Str → Option Value} {h : PySem.Heap}
theorem hd_of (X : K.In h) (G : h.Ns mainGlobals mg) (c : SaysX L.fa L.fn [] L.tf (L.ex P) w h K) (hs : L.bl.contains "super" = true) {base : PySem.Heap} (tb : ∀ p ∈ L.tf.map (cT K), TabB base mg p.1 p.2) : Hd L P w K mg base := by
  have cd : SaysD L.fa L.fn K := congrArg (fun z : AlT => z.1) c.t
  have free : ∀ x, L.bl.contains x = true → mg x = none := fun x hx => free_ok X G (cd.facts (f := .free x) (List.mem_append_right _ (List.mem_map.mpr ⟨x, by simpa using hx, rfl⟩)))
  have ex := c.more
  unfold LD.ex at ex
  simp only [Bool.and_eq_true, decide_eq_true_eq, List.all_eq_true] at ex
  obtain ⟨⟨⟨e1, e2⟩, e3⟩, e4⟩ := ex
  refine ⟨fun i x hx => ?_, free, fun k x d hk => ?_, fun k x hx => exB_ok X G (free _ hs) (e1 x (List.mem_of_getElem? hx)), e2, fun x hx hl => ?_, e4⟩
  · have m := List.mem_of_getElem? hx
    obtain ⟨fd, F⟩ := cd.defs (d := x.defD) (List.mem_map.mpr ⟨x, m, rfl⟩)
    exact ⟨fd, F, glo_ok X G (cd.facts (f := .glo x.name) (List.mem_append_left _ (List.mem_map.mpr ⟨x, m, rfl⟩)))⟩
  · have z := e3 _ (List.mem_of_getElem? hk)
    unfold globB at z
    split at z
    · rename_i u q
      obtain ⟨v, a1, a2⟩ := denB_ok (P := P) (w := w) z
      exact ⟨v, u, PySem.W.mg_of X G q, a1, a2⟩
    · cases z
  · exact tb (cT K (x.name, none)) (List.mem_map.mpr ⟨(x.name, none), List.mem_map.mpr ⟨x, List.mem_filter.mpr ⟨hx, hl⟩, rfl⟩, rfl⟩)
theorem law_at {m n i : Nat} {x : DI} {a : Str} {fa : Addr} (X : K.In h) (G : h.Ns mainGlobals mg) (c : SaysX L.fa L.fn [] L.tf (L.ex l.prog) w h K) (hs : L.bl.contains "super" = true) (ok : L.dis.all L.okD = true) (hx : L.dis[i]? = some x) (ha : x.act = false) (hps : x.ps = [a]) (hmg : mg x.name = some (.ref fa)) (hn2 : n ≤ sizeLine)
    (law : ∀ ns : List Int, ns.length ≤ n → (∀ z ∈ ns, Builtin.Int.intBits z ≤ 1048576) → ∃ h', callN L.prog m i [.d (.lst (ns.map .int))] [] = .ok (.d (.bl true)) h') : LawAt l w K (kLev m) n a mg h fa := by
  have cd : SaysD L.fa L.fn K := congrArg (fun z : AlT => z.1) c.t
  have hm := List.mem_of_getElem? hx
  obtain ⟨fd, F⟩ := cd.defs (d := x.defD) (List.mem_map.mpr ⟨x, hm, rfl⟩)
  have hg := glo_ok X G (cd.facts (f := .glo x.name) (List.mem_append_left _ (List.mem_map.mpr ⟨x, hm, rfl⟩)))
  have efa : fa = ga K x.name := by
    rw [hmg] at hg
    cases hg
    rfl
  subst efa
  have hz := List.all_eq_true.mp ok x hm
  unfold LD.okD at hz
  simp only [Bool.and_eq_true, decide_eq_true_eq] at hz
  obtain ⟨⟨⟨⟨⟨⟨z1, z2⟩, z3⟩, z4⟩, z5⟩, z6⟩, z7⟩ := hz
  have np1 : x.np = 1 := by
    have := congrArg List.length hps
    unfold DI.ps at this
    rw [List.length_take] at this
    simp at this
    omega
  refine ⟨fd, L.tf.map (cT K), spC l.prog w K (L.tb K) (L.Xs l.prog w K) (callN L.prog m i) 1, fun p hp => ?_, fun p hp => ?_, fun p hp => ?_, fun s u => ?_, fun H a' ns hlen hbits ht hsq => ?_, fun base KB GB TB => ?_⟩
  · obtain ⟨q, hq, rfl⟩ := List.mem_map.mp hp
    exact c.empty q hq
  · obtain ⟨q, hq, rfl⟩ := List.mem_map.mp hp
    exact c.out q hq
  · obtain ⟨q, hq, rfl⟩ := List.mem_map.mp hp
    exact PySem.W.codeHd_of_K X (c.hd q hq)
  · have e := pars_binds F z2 (fsc_by z1).nd [u] (by rw [hps]; rfl)
    rw [hps] at e
    exact .of_eq e
  · obtain ⟨h', e⟩ := law ns hlen hbits
    refine ⟨rfl, .non, [.d (.lst (ns.map .int))], [], [], ⟨fun p hp => ?_, .nil, rfl, fun n c a h1 => by simp at h1⟩, .cons (.d (.lst hsq ?_)) .nil, ?_⟩
    · obtain ⟨y, hy, rfl⟩ := List.mem_map.mp hp
      exact TabS.nil (ht (cT K (y.name, none)) (List.mem_map.mpr ⟨(y.name, none), List.mem_map.mpr ⟨y, hy, rfl⟩, rfl⟩))
    · clear hlen hbits hsq e
      induction ns with
      | nil => exact .nil
      | cons z ns ih => exact .cons (.int z) (ih)
    · rw [e]
      intro ρ' H' _ _ u du
      cases du with
      | d du => cases du; rfl
  · have D := (table (hd_of X G c hs TB) ok m).1 i x hx ha fd F
    rw [hps, np1] at D
    exact D
end
end Ev
end
section
/-! EvRn: the evaluator run: equations for simp, walks, calls. Plain Lean. -/
set_option autoImplicit false
set_option linter.all false
set_option maxRecDepth 100000
namespace Ev

/-- on to the next statement -/
def Res.nxt (r : Res Fl) (k : Env → Heap → Res Fl) : Res Fl := r.bind fun f h => match f with
  | .next env => k env h
  | .ret v => .ok (.ret v) h
@[simp] theorem nxt_next (env : Env) (h : Heap) (k : Env → Heap → Res Fl) : Res.nxt (.ok (.next env) h) k = k env h := rfl
@[simp] theorem nxt_ret (v : PV) (h : Heap) (k : Env → Heap → Res Fl) : Res.nxt (.ok (.ret v) h) k = .ok (.ret v) h := rfl
@[simp] theorem nxt_exc (c : Nat) (pl : List D) (h : Heap) (k : Env → Heap → Res Fl) : Res.nxt (.exc c pl h) k = .exc c pl h := rfl
@[simp] theorem nxt_bad (k : Env → Heap → Res Fl) : Res.nxt .bad k = .bad := rfl
section
variable {g : G} {env : Env} {h : Heap}
@[simp] theorem E_slot (i : Nat) : evalE g (.slot i) env h = opt (slotOf env i) fun v => .ok v h := by rw [evalE]
@[simp] theorem E_lit (x : D) : evalE g (.lit x) env h = .ok (.d x) h := by rw [evalE]
@[simp] theorem E_glob (k : Nat) : evalE g (.glob k) env h = okD (g.glob k) h := by rw [evalE]
@[simp] theorem E_tup (es : List E) : evalE g (.tup es) env h = (evalEs g es env h).bind fun vs h1 => opt (keeps vs) fun xs => need (fits xs) (.ok (.d (.tup xs)) h1) := by rw [evalE]
@[simp] theorem E_lst (mu : Bool) (es : List E) : evalE g (.lst mu es) env h = (evalEs g es env h).bind fun vs h1 => opt (keeps vs) fun xs => need (fits xs) (if mu then .ok (.ref h1.length) (h1 ++ [.lst xs]) else .ok (.d (.lst xs)) h1) := by rw [evalE]
@[simp] theorem E_rws (e : E) : evalE g (.rws e) env h = (evalE g e env h).bind fun v h1 => opt (refP v) fun n => need (decide (g.base ≤ n)) (.ok (.ref h1.length) (h1 ++ [.rws [n]])) := by rw [evalE]
@[simp] theorem E_dct (mu : Bool) (kvs : List E) : evalE g (.dct mu kvs) env h = (evalEs g kvs env h).bind fun vs h1 => opt (keeps vs) fun xs => opt (dispD xs) fun kv => need (decide (kv.1.length ≤ 15)) (if mu then .ok (.ref h1.length) (h1 ++ [.dct kv.1 kv.2]) else .ok (.d (.dct kv.1 kv.2)) h1) := by rw [evalE]
@[simp] theorem E_bin (o : BOp) (a b : E) : evalE g (.bin o a b) env h = (evalE g a env h).bind fun v h1 => (evalE g b env h1).bind fun u h2 => look v h2 fun x => look u h2 fun y => okD (binD o x y) h2 := by rw [evalE]
@[simp] theorem E_catM (a b : E) : evalE g (.catM a b) env h = (evalE g a env h).bind fun v h1 => (evalE g b env h1).bind fun u h2 => look v h2 fun x => look u h2 fun y => opt (catD x y) fun zs => .ok (.ref h2.length) (h2 ++ [.lst zs]) := by rw [evalE]
@[simp] theorem E_neg (a : E) : evalE g (.neg a) env h = (evalE g a env h).bind fun v h1 => look v h1 fun x => opt (intD x) fun i => .ok (.d (.int (-i))) h1 := by rw [evalE]
@[simp] theorem E_not (a : E) : evalE g (.not a) env h = (evalE g a env h).bind fun v h1 => test v h1 fun b => .ok (.d (.bl (!b))) h1 := by rw [evalE]
@[simp] theorem E_cmp (o : COp) (a b : E) : evalE g (.cmp o a b) env h = (evalE g a env h).bind fun v h1 => (evalE g b env h1).bind fun u h2 => look v h2 fun x => look u h2 fun y => okB (cmpD o x y) h2 := by rw [evalE]
@[simp] theorem E_chain (o1 o2 : COp) (a b c : E) : evalE g (.chain o1 o2 a b c) env h = (evalE g a env h).bind fun v h1 => (evalE g b env h1).bind fun u h2 => look v h2 fun x => look u h2 fun y =>
    match cmpD o1 x y with
    | some true => (evalE g c env h2).bind fun w h3 => look u h3 fun y => look w h3 fun z => okB (cmpD o2 y z) h3
    | some false => .ok (.d (.bl false)) h2
    | none => .bad := by rw [evalE]; try rfl
@[simp] theorem E_and (a b : E) : evalE g (.and a b) env h = (evalE g a env h).bind fun v h1 => test v h1 fun t => if t then evalE g b env h1 else .ok v h1 := by rw [evalE]
@[simp] theorem E_or (a b : E) : evalE g (.or a b) env h = (evalE g a env h).bind fun v h1 => test v h1 fun t => if t then .ok v h1 else evalE g b env h1 := by rw [evalE]
@[simp] theorem E_ite (c a b : E) : evalE g (.ite c a b) env h = (evalE g c env h).bind fun v h1 => test v h1 fun t => if t then evalE g a env h1 else evalE g b env h1 := by rw [evalE]
@[simp] theorem E_idx (a i : E) : evalE g (.idx a i) env h = (evalE g a env h).bind fun v h1 => (evalE g i env h1).bind fun u h2 => look u h2 fun y => idxGo v y h2 := by rw [evalE]
@[simp] theorem E_sliL (a lo : E) : evalE g (.sliL a lo) env h = (evalE g a env h).bind fun v h1 => (evalE g lo env h1).bind fun u h2 => look v h2 fun x => look u h2 fun y => opt (intD y) fun i => okD (sliceD x (some i) none) h2 := by rw [evalE]
@[simp] theorem E_sliH (a hi : E) : evalE g (.sliH a hi) env h = (evalE g a env h).bind fun v h1 => (evalE g hi env h1).bind fun u h2 => look v h2 fun x => look u h2 fun y => opt (intD y) fun i => okD (sliceD x none (some i)) h2 := by rw [evalE]
@[simp] theorem E_sliB (a lo hi : E) : evalE g (.sliB a lo hi) env h = (evalE g a env h).bind fun v h1 => (evalE g lo env h1).bind fun u h2 => look u h2 fun y => opt (intD y) fun i =>
    (evalE g hi env h2).bind fun w h3 => look v h3 fun x => look w h3 fun z => opt (intD z) fun j => okD (sliceD x (some i) (some j)) h3 := by rw [evalE]
@[simp] theorem E_rev (a : E) : evalE g (.rev a) env h = (evalE g a env h).bind fun v h1 => look v h1 fun x => okD (revD x) h1 := by rw [evalE]
@[simp] theorem E_isi (a : E) (t : D.Ty) : evalE g (.isi a t) env h = (evalE g a env h).bind fun v h1 => look v h1 fun x => .ok (.d (.bl (x.isa t))) h1 := by rw [evalE]
@[simp] theorem E_call (f : Nat) (as : List E) : evalE g (.call f as) env h = (evalEs g as env h).bind fun vs h1 => g.call f vs h1 := by rw [evalE]
@[simp] theorem E_bi (f : Fn) (as : List E) : evalE g (.bi f as) env h = (evalEs g as env h).bind fun vs h1 => biGo f vs h1 := by rw [evalE]
@[simp] theorem E_mt (m : Mt) (o : E) (as : List E) : evalE g (.mt m o as) env h = (evalE g o env h).bind fun v h1 => need (mtK m v h1) ((evalEs g as env h1).bind fun vs h2 => mtGo g.base m v vs h2) := by rw [evalE]
@[simp] theorem E_comp (mu : Bool) (elt : E) (own tg : List Nat) (ik : IK) (it ifs : List E) : evalE g (.comp mu elt own tg ik it ifs) env h = (evalEs g it env h).bind fun ws h0 => (walkGo ik ws h0).bind fun xs h1 =>
    (compGo (fun x h => opt (setTg (wipeE env own) tg x) fun env' =>
      (evalT g ifs env' h).bind fun b h' => if b then (evalE g elt env' h').bind fun v h'' => keep v fun y => .ok (some y) h'' else .ok none h') xs h1).nox.bind fun ys h2 => need (fits ys) (if mu then .ok (.ref h2.length) (h2 ++ [.lst ys]) else .ok (.d (.lst ys)) h2) := by rw [evalE]
@[simp] theorem E_comp2 (mu : Bool) (elt : E) (own t1 : List Nat) (k1 : IK) (i1 c1 : List E) (t2 : List Nat) (k2 : IK) (i2 c2 : List E) : evalE g (.comp2 mu elt own t1 k1 i1 c1 t2 k2 i2 c2) env h = (evalEs g i1 env h).bind fun ws h0 => (walkGo k1 ws h0).bind fun xs h1 =>
    (comp2Go (fun x h => opt (setTg (wipeE env own) t1 x) fun env1 => (evalT g c1 env1 h).bind fun b h' => if b then
        (evalEs g i2 env1 h').bind fun us h3 => (walkGo k2 us h3).bind fun ys h'' => compGo (fun y h => opt (setTg (wipeE env1 t2) t2 y) fun env2 =>
          (evalT g c2 env2 h).bind fun b h' => if b then (evalE g elt env2 h').bind fun v h'' => keep v fun z => .ok (some z) h'' else .ok none h') ys h''
      else .ok [] h') xs h1).nox.bind fun ys h2 => need (fits ys) (if mu then .ok (.ref h2.length) (h2 ++ [.lst ys]) else .ok (.d (.lst ys)) h2) := by rw [evalE]
@[simp] theorem E_lam (f : Nat) (body : E) : evalE g (.lam f body) env h = g.lam f (fun h' => evalE g body (dataE env) h') h := by rw [evalE]
@[simp] theorem E_act (i : Nat) : evalE g (.act i) env h = match slotOf env i with | some .thk => g.act h | _ => .bad := by rw [evalE]; try rfl
@[simp] theorem E_frz (a : E) : evalE g (.frz a) env h = (evalE g a env h).bind fun v h1 => frzGo v h1 := by rw [evalE]
@[simp] theorem E_exf (i : Nat) : evalE g (.exf i) env h = opt (excOf env i) fun x => .ok (.d x) h := by rw [evalE]
@[simp] theorem Es_nil : evalEs g [] env h = .ok [] h := by rw [evalEs]
@[simp] theorem Es_cons (e : E) (es : List E) : evalEs g (e :: es) env h = (evalE g e env h).bind fun v h1 => (evalEs g es env h1).bind fun vs h2 => .ok (v :: vs) h2 := by rw [evalEs]
@[simp] theorem Tt_nil : evalT g [] env h = .ok true h := by rw [evalT]
@[simp] theorem Tt_cons (e : E) (es : List E) : evalT g (e :: es) env h = (evalE g e env h).bind fun v h1 => test v h1 fun t => if t then evalT g es env h1 else .ok false h1 := by rw [evalT]
@[simp] theorem S_asg (i : Nat) (e : E) : evalS g (.asg i e) env h = (evalE g e env h).bind fun v h1 => .ok (.next (setEnv env i v)) h1 := by rw [evalS]
@[simp] theorem S_asgT (is : List Nat) (e : E) : evalS g (.asgT is e) env h = (evalE g e env h).bind fun v h1 => keep v fun x => opt (tupD x) fun xs => opt (setEnvs env is xs) fun env' => .ok (.next env') h1 := by rw [evalS]
@[simp] theorem S_par (i j : Nat) (a b : E) : evalS g (.par i j a b) env h = (evalE g a env h).bind fun v h1 => (evalE g b env h1).bind fun u h2 => .ok (.next (setEnv (setEnv env i v) j u)) h2 := by rw [evalS]
@[simp] theorem S_par3 (i j k : Nat) (a b c : E) : evalS g (.par3 i j k a b c) env h = (evalE g a env h).bind fun v h1 => (evalE g b env h1).bind fun u h2 => (evalE g c env h2).bind fun w h3 => .ok (.next (setEnv (setEnv (setEnv env k w) j u) i v)) h3 := by rw [evalS]
@[simp] theorem S_sets (o i e : E) : evalS g (.sets o i e) env h = (evalE g e env h).bind fun v h1 => (evalE g o env h1).bind fun ov h2 => (evalE g i env h2).bind fun iv h3 => keep v fun x => keep iv fun y => (setsGo ov y x h3).bind fun _ h4 => .ok (.next env) h4 := by rw [evalS]
@[simp] theorem S_expr (e : E) : evalS g (.expr e) env h = (evalE g e env h).bind fun _ h1 => .ok (.next env) h1 := by rw [evalS]
@[simp] theorem S_ret (e : E) : evalS g (.ret e) env h = (evalE g e env h).bind fun v h1 => .ok (.ret v) h1 := by rw [evalS]
@[simp] theorem S_ite (c : E) (a b : List S) : evalS g (.ite c a b) env h = (evalE g c env h).bind fun v h1 => test v h1 fun t => if t then evalSs g a env h1 else evalSs g b env h1 := by rw [evalS]
@[simp] theorem S_for (tg : List Nat) (ik : IK) (it : List E) (body : List S) : evalS g (.for tg ik it body) env h = (evalEs g it env h).bind fun ws h0 => (walkGo ik ws h0).bind fun xs h1 => forGo (fun x env h => opt (setTg env tg x) fun env' => evalSs g body env' h) xs env h1 := by rw [evalS]
@[simp] theorem S_while (c : E) (body : List S) : evalS g (.while c body) env h = whileGo (fun env h => evalE g c env h) (fun env h => evalSs g body env h) g.fuel env h := by rw [evalS]
@[simp] theorem S_raise (c : Nat) (as : List E) : evalS g (.raise c as) env h = (evalEs g as env h).bind fun vs h1 => opt (keeps vs) fun xs => .exc c xs h1 := by rw [evalS]
@[simp] theorem S_tri (s : S) (cs : List (Nat × Option Nat)) (ss : List (List S)) : evalS g (.tri s cs ss) env h = match evalS g s env h with
    | .exc c pl h1 => evalH g c pl (env.map fun _ => none) h1 cs ss
    | r => r := by rw [evalS]; try rfl
@[simp] theorem Ss_nil : evalSs g [] env h = .ok (.next env) h := by rw [evalSs]
@[simp] theorem Ss_cons (s : S) (ss : List S) : evalSs g (s :: ss) env h = (evalS g s env h).nxt fun env' h1 => evalSs g ss env' h1 := by rw [evalSs]; try rfl
end
@[simp high] theorem Ss_one {g : G} {env : Env} {h : Heap} (s : S) : evalSs g [s] env h = evalS g s env h := by
  rw [Ss_cons]
  generalize evalS g s env h = r
  cases r with
  | ok f h1 => cases f <;> simp
  | exc c pl h1 => rfl
  | bad => rfl
@[simp] theorem test_d {α : Type} (x : D) (h : Heap) (k : Bool → Res α) : test (.d x) h k = match truD x with | some b => k b | none => .bad := rfl
@[simp] theorem truD_bl (b : Bool) : truD (.bl b) = some b := rfl
@[simp] theorem gAt_call (p : Prog) (n : Nat) (th : Heap → Res PV) (b : Nat) : (gAt p n th b).call = callN p n := rfl
@[simp] theorem gAt_lam (p : Prog) (n : Nat) (th : Heap → Res PV) (b : Nat) : (gAt p n th b).lam = lamN p n := rfl
@[simp] theorem gAt_act (p : Prog) (n : Nat) (th : Heap → Res PV) (b : Nat) : (gAt p n th b).act = th := rfl
@[simp] theorem gAt_glob (p : Prog) (n : Nat) (th : Heap → Res PV) (b : Nat) : (gAt p n th b).glob = p.glob := rfl
@[simp] theorem gAt_fuel (p : Prog) (n : Nat) (th : Heap → Res PV) (b : Nat) : (gAt p n th b).fuel = p.fuel := rfl
@[simp] theorem gAt_base (p : Prog) (n : Nat) (th : Heap → Res PV) (b : Nat) : (gAt p n th b).base = b := rfl

/-! ### calls -/
theorem callN_run {p : Prog} {n f : Nat} {d : Def} {vs : List PV} {h : Heap} (hd : p.defs f = some d) (hl : vs.length = d.ps) :
    callN p (n + 1) f vs h = leave h.length (fin (evalSs (gAt p n (fun _ => .bad) h.length) d.body (startEnv d vs) h)) := by
  rw [callN]
  simp only [hd]
  rw [if_pos hl]
  rfl
theorem lamN_run {p : Prog} {n f : Nat} {d : Def} {th : Heap → Res PV} {h : Heap} (hd : p.defs f = some d) (hl : d.ps = 1) :
    lamN p (n + 1) f th h = leave h.length (fin (evalSs (gAt p n th h.length) d.body (startEnv d [.thk]) h)) := by
  rw [lamN]
  simp only [hd]
  rw [if_pos hl]
  rfl
/-- rows of cells stay inside -/
def Fine (h : Heap) : Prop := h.all (fineC h.length) = true
theorem fine_nil : Fine [] := rfl
theorem leave_ext {x : D} {h e : Heap} (f : Fine h) : leave h.length (.ok (.d x) (h ++ e)) = .ok (.d x) h := by
  unfold leave leaveV
  simp only [List.take_left]
  rw [show h.all (fineC h.length) = true from f]
  rfl
@[simp] theorem leave_same {x : D} {h : Heap} (f : Fine h) : leave h.length (.ok (.d x) h) = .ok (.d x) h := by
  have := leave_ext (x := x) (e := []) f
  rwa [List.append_nil] at this
theorem leave_exc {c : Nat} {pl : List D} {h e : Heap} (f : Fine h) : leave h.length (.exc c pl (h ++ e)) = .exc c pl h := by
  unfold leave
  simp only [List.take_left]
  rw [show h.all (fineC h.length) = true from f]
  rfl
@[simp] theorem leave_exc0 {c : Nat} {pl : List D} {h : Heap} (f : Fine h) : leave h.length (.exc c pl h) = .exc c pl h := by
  have := leave_exc (c := c) (pl := pl) (e := []) f
  rwa [List.append_nil] at this
/-- what has the same length may be another heap -/
theorem leave_len {x : D} {h h' : Heap} (f : Fine h') (hl : h'.length = h.length) : leave h.length (.ok (.d x) h') = .ok (.d x) h' := by
  rw [← hl]
  exact leave_same f
@[simp] theorem fin_ret (v : PV) (h : Heap) : fin (.ok (.ret v) h) = .ok v h := rfl
@[simp] theorem fin_next (env : Env) (h : Heap) : fin (.ok (.next env) h) = .ok (.d .non) h := rfl
@[simp] theorem fin_exc (c : Nat) (pl : List D) (h : Heap) : fin (.exc c pl h) = .exc c pl h := rfl

/-! ### built-in functions, operations, on data -/
section
variable {h : Heap}
@[simp] theorem bi_len (x : D) : biGo .len [.d x] h = okD ((lenD x).map fun n => .int n) h := rfl
@[simp] theorem bi_all (xs : List D) : biGo .all [.d (.lst xs)] h = okD ((bools xs).map fun bs => .bl (bs.all id)) h := rfl
@[simp] theorem bi_any (xs : List D) : biGo .any [.d (.lst xs)] h = okD ((bools xs).map fun bs => .bl (bs.any id)) h := rfl
@[simp] theorem bi_abs (i : Int) : biGo .abs [.d (.int i)] h = .ok (.d (.int (if i < 0 then -i else i))) h := rfl
@[simp] theorem bi_str_int (i : Int) : biGo .str [.d (.int i)] h = okD (if i.natAbs.log2 < 1920 then some (.str (intText i)) else none) h := rfl
@[simp] theorem bi_str_str (s : List Nat) : biGo .str [.d (.str s)] h = .ok (.d (.str s)) h := rfl
@[simp] theorem bi_int_int (i : Int) : biGo .int [.d (.int i)] h = .ok (.d (.int i)) h := rfl
@[simp] theorem bi_int_str (s : List Nat) : biGo .int [.d (.str s)] h = okD ((readInt s).map .int) h := rfl
@[simp] theorem bi_repr (x : D) : biGo .repr [.d x] h = okD ((reprD x).map .str) h := by
  show okD ((reprD x).map .str) h = _
  rfl
@[simp] theorem bi_tuple_lst (xs : List D) : biGo .tuple [.d (.lst xs)] h = .ok (.d (.tup xs)) h := rfl
@[simp] theorem bi_tuple_tup (xs : List D) : biGo .tuple [.d (.tup xs)] h = .ok (.d (.tup xs)) h := rfl
@[simp] theorem bi_list_str (s : List Nat) : biGo .list [.d (.str s)] h = .ok (.d (.lst (s.map fun c => .str [c]))) h := rfl
@[simp] theorem bi_min2 (i j : Int) : biGo .min2 [.d (.int i), .d (.int j)] h = .ok (.d (.int (if j < i then j else i))) h := rfl
@[simp] theorem bi_max2 (i j : Int) : biGo .max2 [.d (.int i), .d (.int j)] h = .ok (.d (.int (if j > i then j else i))) h := rfl
@[simp] theorem catD_lst (xs ys : List D) : catD (.lst xs) (.lst ys) = if xs.length + ys.length ≤ line then some (xs ++ ys) else none := rfl
@[simp] theorem lenD_str (s : List Nat) : lenD (.str s) = some s.length := rfl
@[simp] theorem lenD_tup (s : List D) : lenD (.tup s) = some s.length := rfl
@[simp] theorem lenD_lst (s : List D) : lenD (.lst s) = some s.length := rfl
@[simp] theorem c_eq (a b : D) : cmpD .eq a b = eqD a b := rfl
@[simp] theorem c_ne (a b : D) : cmpD .ne a b = (eqD a b).map (!·) := rfl
@[simp] theorem c_lt (i j : Int) : cmpD .lt (.int i) (.int j) = some (decide (i < j)) := rfl
@[simp] theorem c_le (i j : Int) : cmpD .le (.int i) (.int j) = some (decide (i ≤ j)) := rfl
@[simp] theorem c_gt (i j : Int) : cmpD .gt (.int i) (.int j) = some (decide (j < i)) := rfl
@[simp] theorem c_ge (i j : Int) : cmpD .ge (.int i) (.int j) = some (decide (j ≤ i)) := rfl
@[simp] theorem c_isin (a b : D) : cmpD .isin a b = isinD a b := rfl
@[simp] theorem c_notin (a b : D) : cmpD .notin a b = (isinD a b).map (!·) := rfl
@[simp] theorem c_isN (a : D) : cmpD .is a .non = some (isNon a) := rfl
@[simp] theorem c_isnN (a : D) : cmpD .isNot a .non = some (!isNon a) := rfl
@[simp] theorem c_isB (a b : Bool) : cmpD .is (.bl a) (.bl b) = some (a == b) := rfl
@[simp] theorem c_isnB (a b : Bool) : cmpD .isNot (.bl a) (.bl b) = some (!(a == b)) := rfl
@[simp] theorem isNon_non : isNon .non = true := rfl
@[simp] theorem isNon_bl (b : Bool) : isNon (.bl b) = false := rfl
@[simp] theorem isNon_int (b : Int) : isNon (.int b) = false := rfl
@[simp] theorem isNon_str (b : List Nat) : isNon (.str b) = false := rfl
@[simp] theorem isNon_tup (b : List D) : isNon (.tup b) = false := rfl
@[simp] theorem isNon_lst (b : List D) : isNon (.lst b) = false := rfl
@[simp] theorem isNon_dct (a b : List D) : isNon (.dct a b) = false := rfl
@[simp] theorem isin_sign (c : Nat) (t : List Nat) : isinD (.str [c]) (.str t) = some (t.contains c) := rfl
@[simp] theorem b_add (i j : Int) : binD .add (.int i) (.int j) = some (.int (i + j)) := rfl
@[simp] theorem b_sub (i j : Int) : binD .sub (.int i) (.int j) = some (.int (i - j)) := rfl
@[simp] theorem b_mul (i j : Int) : binD .mul (.int i) (.int j) = if small64 i || small64 j then some (.int (i * j)) else none := rfl
@[simp] theorem b_mod (i j : Int) : binD .mod (.int i) (.int j) = if 0 < j then some (.int (i % j)) else none := rfl
@[simp] theorem b_fdiv (i j : Int) : binD .fdiv (.int i) (.int j) = if decide (0 < j) && decide (j.natAbs.log2 < 9000) then some (.int (i / j)) else none := rfl
@[simp] theorem b_pow (i j : Int) : binD .pow (.int i) (.int j) = if decide (0 ≤ j) && decide (j ≤ 1000000) && decide (i.natAbs < 2 ^ 64) then some (.int (i ^ j.toNat)) else none := rfl
@[simp] theorem b_addS (s t : List Nat) : binD .add (.str s) (.str t) = if s.length + t.length ≤ line then some (.str (s ++ t)) else none := rfl
@[simp] theorem b_addT (s t : List D) : binD .add (.tup s) (.tup t) = if s.length + t.length ≤ line then some (.tup (s ++ t)) else none := rfl
@[simp] theorem b_addL (s t : List D) : binD .add (.lst s) (.lst t) = if s.length + t.length ≤ line then some (.lst (s ++ t)) else none := rfl
@[simp] theorem w_val (x : D) : walkGo .val [.d x] h = opt (itemsD x) fun xs => .ok xs h := rfl
@[simp] theorem w_rng (i : Int) : walkGo .rng [.d (.int i)] h = opt (rngD 0 i) fun xs => .ok xs h := rfl
@[simp] theorem w_rng2 (i j : Int) : walkGo .rng2 [.d (.int i), .d (.int j)] h = opt (rngD i j) fun xs => .ok xs h := rfl
@[simp] theorem w_enumL (xs : List D) : walkGo .enum [.d (.lst xs)] h = .ok (enumD 0 xs) h := rfl
@[simp] theorem w_enumT (xs : List D) : walkGo .enum [.d (.tup xs)] h = .ok (enumD 0 xs) h := rfl
@[simp] theorem items_tup (xs : List D) : itemsD (.tup xs) = some xs := rfl
@[simp] theorem items_lst (xs : List D) : itemsD (.lst xs) = some xs := rfl
@[simp] theorem items_str (s : List Nat) : itemsD (.str s) = some (s.map fun c => .str [c]) := rfl
@[simp] theorem idx_d (x i : D) : idxGo (.d x) i h = okD (idxD x i) h := rfl
@[simp] theorem idx_tup (xs : List D) (i : Int) : idxD (.tup xs) (.int i) = seqAt xs i := rfl
@[simp] theorem idx_lst (xs : List D) (i : Int) : idxD (.lst xs) (.int i) = seqAt xs i := rfl
@[simp] theorem idx_str (xs : List Nat) (i : Int) : idxD (.str xs) (.int i) = strAt xs i := rfl
@[simp] theorem keeps_nil : keeps [] = some [] := rfl
@[simp] theorem keeps_d (x : D) (r : List PV) : keeps (.d x :: r) = (keeps r).map (x :: ·) := by
  show (match keeps r with | some xs => some (x :: xs) | none => none) = _
  cases keeps r <;> rfl
@[simp] theorem frz_d (x : D) : frzGo (.d x) h = .ok (.d x) h := rfl
end
@[simp] theorem isa_non_int  : D.isa (.non ) .int = false := rfl
@[simp] theorem isa_non_bool  : D.isa (.non ) .bool = false := rfl
@[simp] theorem isa_non_str  : D.isa (.non ) .str = false := rfl
@[simp] theorem isa_non_tuple  : D.isa (.non ) .tuple = false := rfl
@[simp] theorem isa_non_list  : D.isa (.non ) .list = false := rfl
@[simp] theorem isa_non_dict  : D.isa (.non ) .dict = false := rfl
@[simp] theorem isa_bl_int (b : Bool) : D.isa (.bl b) .int = true := rfl
@[simp] theorem isa_bl_bool (b : Bool) : D.isa (.bl b) .bool = true := rfl
@[simp] theorem isa_bl_str (b : Bool) : D.isa (.bl b) .str = false := rfl
@[simp] theorem isa_bl_tuple (b : Bool) : D.isa (.bl b) .tuple = false := rfl
@[simp] theorem isa_bl_list (b : Bool) : D.isa (.bl b) .list = false := rfl
@[simp] theorem isa_bl_dict (b : Bool) : D.isa (.bl b) .dict = false := rfl
@[simp] theorem isa_int_int (i : Int) : D.isa (.int i) .int = true := rfl
@[simp] theorem isa_int_bool (i : Int) : D.isa (.int i) .bool = false := rfl
@[simp] theorem isa_int_str (i : Int) : D.isa (.int i) .str = false := rfl
@[simp] theorem isa_int_tuple (i : Int) : D.isa (.int i) .tuple = false := rfl
@[simp] theorem isa_int_list (i : Int) : D.isa (.int i) .list = false := rfl
@[simp] theorem isa_int_dict (i : Int) : D.isa (.int i) .dict = false := rfl
@[simp] theorem isa_str_int (s : List Nat) : D.isa (.str s) .int = false := rfl
@[simp] theorem isa_str_bool (s : List Nat) : D.isa (.str s) .bool = false := rfl
@[simp] theorem isa_str_str (s : List Nat) : D.isa (.str s) .str = true := rfl
@[simp] theorem isa_str_tuple (s : List Nat) : D.isa (.str s) .tuple = false := rfl
@[simp] theorem isa_str_list (s : List Nat) : D.isa (.str s) .list = false := rfl
@[simp] theorem isa_str_dict (s : List Nat) : D.isa (.str s) .dict = false := rfl
@[simp] theorem isa_tup_int (xs : List D) : D.isa (.tup xs) .int = false := rfl
@[simp] theorem isa_tup_bool (xs : List D) : D.isa (.tup xs) .bool = false := rfl
@[simp] theorem isa_tup_str (xs : List D) : D.isa (.tup xs) .str = false := rfl
@[simp] theorem isa_tup_tuple (xs : List D) : D.isa (.tup xs) .tuple = true := rfl
@[simp] theorem isa_tup_list (xs : List D) : D.isa (.tup xs) .list = false := rfl
@[simp] theorem isa_tup_dict (xs : List D) : D.isa (.tup xs) .dict = false := rfl
@[simp] theorem isa_lst_int (xs : List D) : D.isa (.lst xs) .int = false := rfl
@[simp] theorem isa_lst_bool (xs : List D) : D.isa (.lst xs) .bool = false := rfl
@[simp] theorem isa_lst_str (xs : List D) : D.isa (.lst xs) .str = false := rfl
@[simp] theorem isa_lst_tuple (xs : List D) : D.isa (.lst xs) .tuple = false := rfl
@[simp] theorem isa_lst_list (xs : List D) : D.isa (.lst xs) .list = true := rfl
@[simp] theorem isa_lst_dict (xs : List D) : D.isa (.lst xs) .dict = false := rfl
@[simp] theorem isa_dct_int (ks vs : List D) : D.isa (.dct ks vs) .int = false := rfl
@[simp] theorem isa_dct_bool (ks vs : List D) : D.isa (.dct ks vs) .bool = false := rfl
@[simp] theorem isa_dct_str (ks vs : List D) : D.isa (.dct ks vs) .str = false := rfl
@[simp] theorem isa_dct_tuple (ks vs : List D) : D.isa (.dct ks vs) .tuple = false := rfl
@[simp] theorem isa_dct_list (ks vs : List D) : D.isa (.dct ks vs) .list = false := rfl
@[simp] theorem isa_dct_dict (ks vs : List D) : D.isa (.dct ks vs) .dict = true := rfl
/-! ### walks -/
theorem compGo_pure {f : D → Heap → Res (Option D)} {g : D → Option D} {xs : List D} {h : Heap} (e : ∀ x ∈ xs, f x h = .ok (g x) h) : compGo f xs h = .ok (xs.filterMap g) h := by
  induction xs with
  | nil => rfl
  | cons x xs ih =>
    rw [compGo, e x (List.mem_cons_self ..), Res.bind_ok, ih fun y hy => e y (List.mem_cons_of_mem _ hy), Res.bind_ok, List.filterMap_cons]
    cases g x <;> rfl
theorem compGo_map {f : D → Heap → Res (Option D)} {g : D → D} {xs : List D} {h : Heap} (e : ∀ x ∈ xs, f x h = .ok (some (g x)) h) : compGo f xs h = .ok (xs.map g) h := by
  rw [compGo_pure (g := fun x => some (g x)) e]
  congr 1
  induction xs with
  | nil => rfl
  | cons x xs ih => simp
@[simp] theorem compGo_id (xs : List D) (h : Heap) : compGo (fun y h => .ok (some y) h) xs h = .ok xs h := by
  have := compGo_map (f := fun y h => .ok (some y) h) (g := id) (xs := xs) (h := h) (fun _ _ => rfl)
  simpa using this
theorem comp2Go_pure {f : D → Heap → Res (List D)} {g : D → List D} {xs : List D} {h : Heap} (e : ∀ x ∈ xs, f x h = .ok (g x) h) : comp2Go f xs h = .ok (xs.flatMap g) h := by
  induction xs with
  | nil => rfl
  | cons x xs ih =>
    rw [comp2Go, e x (List.mem_cons_self ..), Res.bind_ok, ih fun y hy => e y (List.mem_cons_of_mem _ hy), Res.bind_ok, List.flatMap_cons]
@[simp] theorem bools_map {α : Type} (xs : List α) (f : α → Bool) : bools (xs.map fun x => .bl (f x)) = some (xs.map f) := by
  induction xs with
  | nil => rfl
  | cons x xs ih => simp [bools, ih]
/-- a for that never leaves: the state by a fold -/
theorem forGo_inv {f : D → Env → Heap → Res Fl} (I : Nat → Env → Heap → Prop) : ∀ (xs : List D) (n : Nat) (env : Env) (h : Heap), I n env h → (∀ i x env h, xs[i]? = some x → I (n + i) env h → ∃ env' h', f x env h = .ok (.next env') h' ∧ I (n + i + 1) env' h') →
    ∃ env' h', forGo f xs env h = .ok (.next env') h' ∧ I (n + xs.length) env' h'
  | [], n, env, h, i, _ => ⟨env, h, rfl, i⟩
  | x :: xs, n, env, h, i, step => by
    obtain ⟨env1, h1, e1, i1⟩ := step 0 x env h rfl i
    obtain ⟨env2, h2, e2, i2⟩ := forGo_inv I xs (n + 1) env1 h1 i1 fun j y env h hy hi => by
      have := step (j + 1) y env h (by simpa using hy) (by rw [show n + (j + 1) = n + 1 + j by omega]; exact hi)
      rw [show n + (j + 1) + 1 = n + 1 + j + 1 by omega] at this
      exact this
    refine ⟨env2, h2, ?_, by rw [List.length_cons, show n + (xs.length + 1) = n + 1 + xs.length by omega]; exact i2⟩
    rw [forGo, e1, Res.bind_ok]
    exact e2
theorem forGo_cons {f : D → Env → Heap → Res Fl} {x : D} {xs : List D} {env : Env} {h : Heap} : forGo f (x :: xs) env h = (f x env h).nxt fun env' h1 => forGo f xs env' h1 := by rw [forGo]; try rfl
theorem forGo_nil {f : D → Env → Heap → Res Fl} {env : Env} {h : Heap} : forGo f [] env h = .ok (.next env) h := by rw [forGo]
theorem whileGo_succ {c : Env → Heap → Res PV} {f : Env → Heap → Res Fl} {n : Nat} {env : Env} {h : Heap} : whileGo c f (n + 1) env h = (c env h).bind fun v h1 => test v h1 fun b => if b then (f env h1).nxt fun env' h2 => whileGo c f n env' h2 else .ok (.next env) h1 := by rw [whileGo]; try rfl
/-! ### cells behind h -/
section
variable {h e : Heap} {c : Cell}
@[simp] theorem cell_get0 : (h ++ e)[h.length]? = e[0]? := by rw [List.getElem?_append_right (Nat.le_refl _), Nat.sub_self]
@[simp] theorem cell_get (i : Nat) : (h ++ e)[h.length + i]? = e[i]? := by rw [List.getElem?_append_right (Nat.le_add_right _ _), Nat.add_sub_cancel_left]
@[simp] theorem cell_set0 : (h ++ e).set h.length c = h ++ e.set 0 c := by rw [List.set_append_right _ _ (Nat.le_refl _), Nat.sub_self]
@[simp] theorem cell_set (i : Nat) : (h ++ e).set (h.length + i) c = h ++ e.set i c := by rw [List.set_append_right _ _ (Nat.le_add_right _ _), Nat.add_sub_cancel_left]
theorem Fine.app (f : Fine h) (g : e.all (fun c => match c with | .rws _ => false | _ => true) = true) : Fine (h ++ e) := by
  unfold Fine at f ⊢
  rw [List.all_append, Bool.and_eq_true]
  refine ⟨List.all_eq_true.mpr fun c hc => ?_, List.all_eq_true.mpr fun c hc => ?_⟩
  · have z := List.all_eq_true.mp f c hc
    unfold fineC at z ⊢
    split at z
    · rename_i ns
      refine List.all_eq_true.mpr fun m hm => ?_
      have y := of_decide_eq_true (List.all_eq_true.mp z m hm)
      rw [List.length_append]
      exact decide_eq_true (by omega)
    · rfl
  · have z := List.all_eq_true.mp g c hc
    cases c <;> first | rfl | cases z
end
section
variable {h : Heap} {n b : Nat} {l : List D} {x : D}
theorem pop_run (e : h[n]? = some (.lst (l ++ [x]))) : mtGo b .pop (.ref n) [] h = .ok (.d x) (h.set n (.lst l)) := by
  simp [mtGo, popGo, rwsOf, lstOf, e]
theorem app_run (e : h[n]? = some (.lst l)) (hl : l.length < line) : mtGo b .append (.ref n) [.d x] h = .ok (.d .non) (h.set n (.lst (l ++ [x]))) := by
  simp [mtGo, appGo, rwsOf, lstOf, e, hl]
theorem ext_run {ys : List D} (e : h[n]? = some (.lst l)) (hl : l.length + ys.length ≤ line) : mtGo b .extend (.ref n) [.d (.lst ys)] h = .ok (.d .non) (h.set n (.lst (l ++ ys))) := by
  simp [mtGo, extGo, lstOf, e, hl]
theorem mtK_app (e : h[n]? = some (.lst l)) : mtK .append (.ref n) h = true := by simp [mtK, lstK, e]
theorem mtK_ext (e : h[n]? = some (.lst l)) : mtK .extend (.ref n) h = true := by simp [mtK, lstK, e]
theorem mtK_pop (e : h[n]? = some (.lst l)) : mtK .pop (.ref n) h = true := by simp [mtK, lstK, e]
theorem join_run {s : List Nat} {ts : List (List Nat)} (hl : (ts.map List.length).sum + ts.length * s.length ≤ line) : mtGo b .join (.d (.str s)) [.d (.lst (ts.map D.str))] h = .ok (.d (.str (joinT s ts))) h := by
  have e : texts (ts.map D.str) = some ts := by
    clear hl
    induction ts with
    | nil => rfl
    | cons t ts ih => simp [texts, ih]
  simp [mtGo, joinD, e, hl]
end
end Ev
end
section
/-! EvTh1: things and their texts: the defs (printed by gen3.py), run. -/
set_option autoImplicit false
set_option linter.all false
set_option maxRecDepth 100000
namespace Ev
structure ThI where
  f_is_plain : Nat
  f_is_thing : Nat
  f_is_word : Nat
  f_parts_of : Nat
  f_plain_of : Nat
  f_plain_text : Nat
  f_read_thing : Nat
  f_text_of : Nat
  f_thing_text : Nat
  f_written : Nat
  g_BLANK : Nat
  g_CLOSE : Nat
  g_DIGITS : Nat
  g_LETTERS : Nat
  g_MOST_DEEP : Nat
  g_MOST_FIGURES : Nat
  g_MOST_LETTERS : Nat
  g_MOST_THINGS : Nat
  g_OPEN : Nat
  g_SIGNS : Nat
  x_BadText : Nat
  x_OutOfPlace : Nat
/-- is_word: 0 thing 1 sign -/
def ThI.d_is_word (t : ThI) : Def := ⟨1, 2, [.ite (.or (.not (.isi (.slot 0) .str)) (.not (.chain .le .le (.lit (.int 1)) (.bi .len [(.slot 0)]) (.glob t.g_MOST_LETTERS)))) [.ret (.lit (.bl false))] [], .ret (.bi .all [(.comp false (.cmp .isin (.slot 1) (.glob t.g_LETTERS)) [1] [1] .val [(.slot 0)] [])])]⟩
/-- is_plain: 0 thing -/
def ThI.d_is_plain (t : ThI) : Def := ⟨1, 1, [.ite (.or (.cmp .is (.slot 0) (.lit .non)) (.or (.isi (.slot 0) .bool) (.call t.f_is_word [(.slot 0)]))) [.ret (.lit (.bl true))] [], .ret (.and (.isi (.slot 0) .int) (.cmp .lt (.bi .abs [(.slot 0)]) (.bin .pow (.lit (.int 10)) (.lit (.int 31)))))]⟩
/-- is_thing: 0 value 1 layer 2 many 3 deep 4 one 5 inner -/
def ThI.d_is_thing (t : ThI) : Def := ⟨1, 6, [.par 1 2 (.lst false [(.slot 0)]) (.lit (.int 0)), .for [3] .rng [(.bin .add (.glob t.g_MOST_DEEP) (.lit (.int 1)))] [.asg 2 (.bin .add (.slot 2) (.bi .len [(.slot 1)])), .ite (.or (.cmp .gt (.slot 2) (.glob t.g_MOST_THINGS)) (.not (.bi .all [(.comp false (.or (.isi (.slot 4) .tuple) (.call t.f_is_plain [(.slot 4)])) [4] [4] .val [(.slot 1)] [])]))) [.ret (.lit (.bl false))] [], .asg 1 (.comp2 false (.slot 5) [4, 5] [4] .val [(.slot 1)] [(.isi (.slot 4) .tuple)] [5] .val [(.slot 4)] []), .ite (.cmp .eq (.slot 1) (.lst false [])) [.ret (.lit (.bl true))] []], .ret (.lit (.bl false))]⟩
/-- plain_text: 0 thing -/
def ThI.d_plain_text (t : ThI) : Def := ⟨1, 1, [.ite (.or (.cmp .is (.slot 0) (.lit .non)) (.isi (.slot 0) .bool)) [.ret (.idx (.glob t.g_SIGNS) (.slot 0))] [], .ret (.ite (.isi (.slot 0) .str) (.slot 0) (.bi .str [(.slot 0)]))]⟩
/-- text_of: 0 thing 1 found 2 left 3 one 4 number 5 inner -/
def ThI.d_text_of (t : ThI) : Def := ⟨1, 6, [.par 1 2 (.lst true []) (.lst true [(.slot 0)]), .while (.cmp .ne (.slot 2) (.lst false [])) [.asg 3 (.mt .pop (.slot 2) []), .ite (.isi (.slot 3) .tuple) [.expr (.mt .append (.slot 2) [(.glob t.g_CLOSE)]), .for [4, 5] .enum [(.rev (.slot 3))] [.expr (.mt .extend (.slot 2) [(.ite (.cmp .lt (.bin .add (.slot 4) (.lit (.int 1))) (.bi .len [(.slot 3)])) (.lst false [(.slot 5), (.glob t.g_BLANK)]) (.lst false [(.slot 5)]))])], .expr (.mt .append (.slot 1) [(.glob t.g_OPEN)])] [.expr (.mt .append (.slot 1) [(.ite (.cmp .isin (.slot 3) (.tup [(.glob t.g_BLANK), (.glob t.g_CLOSE)])) (.slot 3) (.call t.f_plain_text [(.slot 3)]))])]], .ret (.mt .join (.lit (.str [])) [(.frz (.slot 1))])]⟩
/-- thing_text: 0 thing -/
def ThI.d_thing_text (t : ThI) : Def := ⟨1, 1, [.ite (.not (.call t.f_is_thing [(.slot 0)])) [.raise t.x_OutOfPlace [(.lit (.str [110, 111, 32, 116, 104, 105, 110, 103]))]] [], .ret (.call t.f_text_of [(.slot 0)])]⟩
/-- parts_of: 0 string 1 found 2 piece 3 sign -/
def ThI.d_parts_of (t : ThI) : Def := ⟨1, 4, [.par 1 2 (.lst true []) (.lit (.str [])), .for [3] .val [(.slot 0)] [.ite (.cmp .isin (.slot 3) (.tup [(.glob t.g_BLANK), (.glob t.g_OPEN), (.glob t.g_CLOSE)])) [.expr (.mt .extend (.slot 1) [(.ite (.cmp .ne (.slot 2) (.lit (.str []))) (.lst false [(.slot 2), (.slot 3)]) (.lst false [(.slot 3)]))]), .asg 2 (.lit (.str []))] [.asg 2 (.bin .add (.slot 2) (.slot 3))]], .ret (.ite (.cmp .ne (.slot 2) (.lit (.str []))) (.bin .add (.slot 1) (.lst false [(.slot 2)])) (.frz (.slot 1)))]⟩
/-- plain_of: 0 piece 1 thing 2 figures 3 sign -/
def ThI.d_plain_of (t : ThI) : Def := ⟨1, 4, [.for [1] .val [(.tup [(.lit .non), (.lit (.bl true)), (.lit (.bl false))])] [.ite (.cmp .eq (.slot 0) (.idx (.glob t.g_SIGNS) (.slot 1))) [.ret (.tup [(.lit (.bl true)), (.slot 1)])] []], .ite (.call t.f_is_word [(.slot 0)]) [.ret (.tup [(.lit (.bl true)), (.slot 0)])] [], .asg 2 (.ite (.cmp .eq (.sliH (.slot 0) (.lit (.int 1))) (.lit (.str [45]))) (.sliL (.slot 0) (.lit (.int 1))) (.slot 0)), .ite (.or (.not (.chain .le .le (.lit (.int 1)) (.bi .len [(.slot 2)]) (.glob t.g_MOST_FIGURES))) (.not (.bi .all [(.comp false (.cmp .isin (.slot 3) (.glob t.g_DIGITS)) [3] [3] .val [(.slot 2)] [])]))) [.ret (.tup [(.lit (.bl false)), (.lit .non)])] [], .ret (.tup [(.cmp .eq (.bi .str [(.bi .int [(.slot 0)])]) (.slot 0)), (.bi .int [(.slot 0)])])]⟩
/-- written: 0 parts 1 rows 2 is_due 3 piece 4 row 5 is_right 6 thing -/
def ThI.d_written (t : ThI) : Def := ⟨1, 7, [.par 1 2 (.rws (.lst true [])) (.lit (.bl true)), .for [3] .val [(.slot 0)] [.ite (.cmp .eq (.slot 3) (.glob t.g_BLANK)) [.ite (.or (.slot 2) (.cmp .eq (.bi .len [(.slot 1)]) (.lit (.int 1)))) [.ret (.lst false [])] [], .asg 2 (.lit (.bl true))] [.ite (.cmp .eq (.slot 3) (.glob t.g_CLOSE)) [.ite (.or (.cmp .eq (.bi .len [(.slot 1)]) (.lit (.int 1))) (.and (.slot 2) (.cmp .ne (.idx (.slot 1) (.neg (.lit (.int 1)))) (.lst false [])))) [.ret (.lst false [])] [], .asg 4 (.bi .tuple [(.mt .pop (.slot 1) [])]), .expr (.mt .append (.idx (.slot 1) (.neg (.lit (.int 1)))) [(.slot 4)]), .asg 2 (.lit (.bl false))] [.ite (.not (.slot 2)) [.ret (.lst false [])] [.ite (.cmp .eq (.slot 3) (.glob t.g_OPEN)) [.expr (.mt .append (.slot 1) [(.lst true [])])] [.asgT [5, 6] (.call t.f_plain_of [(.slot 3)]), .ite (.not (.slot 5)) [.ret (.lst false [])] [], .expr (.mt .append (.idx (.slot 1) (.neg (.lit (.int 1)))) [(.slot 6)]), .asg 2 (.lit (.bl false))]]]]], .ret (.ite (.cmp .eq (.bi .len [(.slot 1)]) (.lit (.int 1))) (.frz (.idx (.slot 1) (.lit (.int 0)))) (.lst false []))]⟩
/-- read_thing: 0 string 1 found -/
def ThI.d_read_thing (t : ThI) : Def := ⟨1, 2, [.ite (.not (.isi (.slot 0) .str)) [.raise t.x_BadText [(.lit (.int 0))]] [], .asg 1 (.call t.f_written [(.call t.f_parts_of [(.slot 0)])]), .ite (.or (.cmp .ne (.bi .len [(.slot 1)]) (.lit (.int 1))) (.not (.call t.f_is_thing [(.idx (.slot 1) (.lit (.int 0)))]))) [.raise t.x_BadText [(.lit (.int 1))]] [], .ret (.idx (.slot 1) (.lit (.int 0)))]⟩
/-- the text has these -/
structure ThI.At (t : ThI) (p : Prog) : Prop where
  is_word : p.defs t.f_is_word = some t.d_is_word
  is_plain : p.defs t.f_is_plain = some t.d_is_plain
  is_thing : p.defs t.f_is_thing = some t.d_is_thing
  plain_text : p.defs t.f_plain_text = some t.d_plain_text
  text_of : p.defs t.f_text_of = some t.d_text_of
  thing_text : p.defs t.f_thing_text = some t.d_thing_text
  parts_of : p.defs t.f_parts_of = some t.d_parts_of
  plain_of : p.defs t.f_plain_of = some t.d_plain_of
  written : p.defs t.f_written = some t.d_written
  read_thing : p.defs t.f_read_thing = some t.d_read_thing
  g_BLANK : p.glob t.g_BLANK = some (.str [32])
  g_CLOSE : p.glob t.g_CLOSE = some (.str [41])
  g_DIGITS : p.glob t.g_DIGITS = some (.str [48, 49, 50, 51, 52, 53, 54, 55, 56, 57])
  g_LETTERS : p.glob t.g_LETTERS = some (.str [97, 98, 99, 100, 101, 102, 103, 104, 105, 106, 107, 108, 109, 110, 111, 112, 113, 114, 115, 116, 117, 118, 119, 120, 121, 122])
  g_MOST_DEEP : p.glob t.g_MOST_DEEP = some (.int 20)
  g_MOST_FIGURES : p.glob t.g_MOST_FIGURES = some (.int 31)
  g_MOST_LETTERS : p.glob t.g_MOST_LETTERS = some (.int 12)
  g_MOST_THINGS : p.glob t.g_MOST_THINGS = some (.int 4000)
  g_OPEN : p.glob t.g_OPEN = some (.str [40])
  g_SIGNS : p.glob t.g_SIGNS = some (.dct [.non, (.bl true), (.bl false)] [(.str [46]), (.str [43]), (.str [45])])
/-! ### words, plain things -/
def lower (c : Nat) : Bool := decide (97 ≤ c) && decide (c ≤ 122)
def isWordS (s : List Nat) : Bool := decide (1 ≤ s.length) && decide (s.length ≤ 12) && s.all lower
def isWord : D → Bool
  | .str s => isWordS s
  | _ => false
@[irreducible] def big31 : Int := 10 ^ 31
def isPlain : D → Bool
  | .non => true
  | .bl _ => true
  | .int i => decide ((i.natAbs : Int) < big31)
  | .str s => isWordS s
  | _ => false
theorem letters_lower (c : Nat) : ([97, 98, 99, 100, 101, 102, 103, 104, 105, 106, 107, 108, 109, 110, 111, 112, 113, 114, 115, 116, 117, 118, 119, 120, 121, 122] : List Nat).contains c = lower c := by
  by_cases h : c < 123
  · have : ∀ c, c < 123 → ([97, 98, 99, 100, 101, 102, 103, 104, 105, 106, 107, 108, 109, 110, 111, 112, 113, 114, 115, 116, 117, 118, 119, 120, 121, 122] : List Nat).contains c = lower c := by decide +kernel
    exact this c h
  · unfold lower
    rw [decide_eq_false (p := c ≤ 122) (by omega), Bool.and_false]
    rw [← Bool.not_eq_true]
    intro q
    simp at q
    omega
section
variable {t : ThI} {p : Prog} {n : Nat} {h : Heap}
theorem is_word_run (A : t.At p) (x : D) (hf : Fine h) : callN p (n + 1) t.f_is_word [.d x] h = .ok (.d (.bl (isWord x))) h := by
  rw [callN_run A.is_word rfl]
  cases x with
  | str s =>
    by_cases h1 : (1 : Int) ≤ s.length
    · by_cases h2 : (s.length : Int) ≤ 12
      · have h3 : s.length ≤ line := by unfold line; omega
        simp [ThI.d_is_word, startEnv, slotOf, A.g_LETTERS, A.g_MOST_LETTERS, h1, h2, wipeE, setTg, setEnv]
        rw [compGo_map (g := fun x => match x with | .str [c] => .bl (lower c) | _ => .non)]
        · simp [fits, h3, Function.comp_def, hf, isWord, isWordS]
          omega
        · intro x hx
          obtain ⟨c, hc, rfl⟩ := List.mem_map.mp hx
          simp only [isin_sign, letters_lower]
          simp
      · simp [ThI.d_is_word, startEnv, slotOf, A.g_LETTERS, A.g_MOST_LETTERS, h1, h2, hf, isWord, isWordS]
        omega
    · simp [ThI.d_is_word, startEnv, slotOf, A.g_LETTERS, A.g_MOST_LETTERS, h1, hf, isWord, isWordS]
      omega
  | _ => simp [ThI.d_is_word, startEnv, slotOf, isWord, hf]
theorem pow31 : binD .pow (.int 10) (.int 31) = some (.int big31) := by unfold big31; rfl
theorem is_plain_run (A : t.At p) (x : D) (hf : Fine h) : callN p (n + 2) t.f_is_plain [.d x] h = .ok (.d (.bl (isPlain x))) h := by
  rw [callN_run A.is_plain rfl]
  have e := is_word_run (n := n) A x hf
  cases x with
  | int i =>
    have ea : (if i < 0 then -i else i) = (i.natAbs : Int) := by split <;> omega
    simp [ThI.d_is_plain, startEnv, slotOf, pow31, -b_pow, hf, e, isWord, ea, isPlain]
  | str s => cases hw : isWordS s <;> simp [ThI.d_is_plain, startEnv, slotOf, isPlain, hf, e, isWord, hw, pow31, -b_pow]
  | non => simp [ThI.d_is_plain, startEnv, slotOf, isPlain, hf, e, isWord, pow31, -b_pow]
  | bl _ => simp [ThI.d_is_plain, startEnv, slotOf, isPlain, hf, e, isWord, pow31, -b_pow]
  | tup _ => simp [ThI.d_is_plain, startEnv, slotOf, isPlain, hf, e, isWord, pow31, -b_pow]
  | lst _ => simp [ThI.d_is_plain, startEnv, slotOf, isPlain, hf, e, isWord, pow31, -b_pow]
  | dct _ _ => simp [ThI.d_is_plain, startEnv, slotOf, isPlain, hf, e, isWord, pow31, -b_pow]
end
/-! ### is_thing: layer by layer -/
def kids : D → List D
  | .tup xs => xs
  | _ => []
def isTup : D → Bool
  | .tup _ => true
  | _ => false
theorem isa_tuple (x : D) : x.isa .tuple = isTup x := by cases x <;> rfl
mutual
def nodes : D → Nat
  | .tup xs => nodesL xs + 1
  | _ => 1
def nodesL : List D → Nat
  | [] => 0
  | x :: xs => nodes x + nodesL xs
end
theorem nodesL_append (xs ys : List D) : nodesL (xs ++ ys) = nodesL xs + nodesL ys := by
  induction xs with
  | nil => simp [nodesL]
  | cons x xs ih => simp [nodesL, ih]; omega
theorem nodes_pos (x : D) : 1 ≤ nodes x := by cases x <;> simp [nodes]
theorem length_nodes (xs : List D) : xs.length ≤ nodesL xs := by
  induction xs with
  | nil => simp
  | cons x xs ih => simp [nodesL]; have := nodes_pos x; omega
theorem nodes_kids (xs : List D) : nodesL (xs.flatMap kids) ≤ nodesL xs := by
  induction xs with
  | nil => simp
  | cons x xs ih =>
    rw [List.flatMap_cons, nodesL_append, nodesL]
    have : nodesL (kids x) ≤ nodes x := by cases x <;> simp [kids, nodes, nodesL]
    omega
def nextL (xs : List D) : List D := xs.flatMap kids
def layOk (xs : List D) : Bool := xs.all fun x => isTup x || isPlain x
def nilB (xs : List D) : Bool := xs.isEmpty
def isThingGo : Nat → Nat → List D → Bool
  | 0, _, _ => false
  | k + 1, many, layer => if decide (4000 < many + layer.length) || !layOk layer then false else if nilB (nextL layer) then true else isThingGo k (many + layer.length) (nextL layer)
def isThing (x : D) : Bool := isThingGo 21 0 [x]
theorem eqD_nilL (xs : List D) : eqD (.lst xs) (.lst []) = some (nilB xs) := by
  cases xs with
  | nil => rfl
  | cons x xs => simp [eqD, isStr, apart, nilB]
def ThI.thBody (t : ThI) : List S := match t.d_is_thing.body with
  | [_, .for _ _ _ b, _] => b
  | _ => []
section
variable {t : ThI} {p : Prog} {n : Nat} {h : Heap}
theorem th_step (A : t.At p) (hf : Fine h) (v0 : D) (layer : List D) (many : Nat) (e3 : D) (b : Nat) (hs : nodesL layer ≤ line) :
    evalSs (gAt p (n + 2) (fun _ => .bad) b) t.thBody [some (.v (.d v0)), some (.v (.d (.lst layer))), some (.v (.d (.int many))), some (.v (.d e3)), none, none] h =
      if decide (4000 < many + layer.length) || !layOk layer then .ok (.ret (.d (.bl false))) h else if nilB (nextL layer) then .ok (.ret (.d (.bl true))) h else
        .ok (.next [some (.v (.d v0)), some (.v (.d (.lst (nextL layer)))), some (.v (.d (.int (many + layer.length : Nat)))), some (.v (.d e3)), none, none]) h := by
  have hl : layer.length ≤ line := Nat.le_trans (length_nodes _) hs
  have hl2 : (nextL layer).length ≤ line := Nat.le_trans (length_nodes _) (Nat.le_trans (nodes_kids _) hs)
  have c1 : ∀ f : D → Heap → Res (Option D), (∀ x ∈ layer, f x h = .ok (some (.bl (isTup x || isPlain x))) h) → compGo f layer h = .ok (layer.map fun x => .bl (isTup x || isPlain x)) h := fun f e => compGo_map e
  have c2 : ∀ f : D → Heap → Res (List D), (∀ x ∈ layer, f x h = .ok (kids x) h) → comp2Go f layer h = .ok (nextL layer) h := fun f e => comp2Go_pure e
  have c3 : bools (layer.map fun x => D.bl (isTup x || isPlain x)) = some (layer.map fun x => isTup x || isPlain x) := bools_map _ _
  have c4 : (layer.map fun x => isTup x || isPlain x).all id = layOk layer := by simp [layOk, Function.comp_def]
  have hp : ∀ x, callN p (n + 2) t.f_is_plain [.d x] h = .ok (.d (.bl (isPlain x))) h := fun x => is_plain_run A x hf
  by_cases c : (4000 : Int) < many + layer.length
  · have c' : 4000 < many + layer.length := by omega
    simp [ThI.thBody, ThI.d_is_thing, slotOf, A.g_MOST_THINGS, wipeE, setTg, setEnv, c, c']
  · have c' : ¬ 4000 < many + layer.length := by omega
    simp [ThI.thBody, ThI.d_is_thing, slotOf, A.g_MOST_THINGS, wipeE, setTg, setEnv, c, c']
    rw [c1]
    · simp only [Res.nox_ok, Res.bind_ok, fits, List.length_map, hl, decide_true, need_true, bi_all, c3, Option.map_some, c4, okD_some]
      cases layOk layer
      · simp
      · simp
        rw [c2]
        · simp [fits, hl2, eqD_nilL]
        · intro x hx
          rw [isa_tuple]
          cases x <;> simp [isTup, kids]
    · intro x hx
      rw [isa_tuple]
      cases hx2 : isTup x <;> simp [hx2, hp]
theorem th_loop (A : t.At p) (hf : Fine h) (b : Nat) (v0 : D) : ∀ (xs : List D) (layer : List D) (many : Nat) (e3 : Option NV), nodesL layer ≤ line →
    ((forGo (fun x env h => opt (setTg env [3] x) fun env' => evalSs (gAt p (n + 2) (fun _ => .bad) b) t.thBody env' h) xs [some (.v (.d v0)), some (.v (.d (.lst layer))), some (.v (.d (.int many))), e3, none, none] h).nxt fun env' h1 => .ok (.ret (.d (.bl false))) h1) = (.ok (.ret (.d (.bl (isThingGo xs.length many layer)))) h : Res Fl)
  | [], layer, many, e3, _ => rfl
  | x :: xs, layer, many, e3, hs => by
    rw [forGo]
    simp only [setTg, setEnv, List.set_cons_succ, List.set_cons_zero, opt_some]
    rw [th_step A hf v0 layer many x b hs, List.length_cons, isThingGo]
    by_cases c1 : (decide (4000 < many + layer.length) || !layOk layer) = true
    · rw [if_pos c1, if_pos c1]; rfl
    · rw [if_neg c1, if_neg c1]
      by_cases c2 : nilB (nextL layer) = true
      · rw [if_pos c2, if_pos c2]; rfl
      · rw [if_neg c2, if_neg c2, Res.bind_ok]
        exact th_loop A hf b v0 xs (nextL layer) (many + layer.length) _ (Nat.le_trans (nodes_kids _) hs)
theorem is_thing_run (A : t.At p) (x : D) (hf : Fine h) (hs : nodes x ≤ line) : callN p (n + 3) t.f_is_thing [.d x] h = .ok (.d (.bl (isThing x))) h := by
  rw [callN_run A.is_thing rfl]
  have e : t.d_is_thing.body = [.par 1 2 (.lst false [(.slot 0)]) (.lit (.int 0)), .for [3] .rng [(.bin .add (.glob t.g_MOST_DEEP) (.lit (.int 1)))] t.thBody, .ret (.lit (.bl false))] := rfl
  rw [e]
  have r : rngD 0 21 = some ((List.range 21).map fun k : Nat => D.int (0 + (k : Int))) := rfl
  have L := th_loop (n := n) (h := h) A hf h.length x ((List.range 21).map fun k : Nat => D.int (0 + (k : Int))) [x] 0 none (by simpa [nodesL] using hs)
  have l1 : decide (1 ≤ line) = true := by decide
  simp at L
  simp [startEnv, slotOf, setEnv, A.g_MOST_DEEP, r, show t.d_is_thing.ns = 6 from rfl, show t.d_is_thing.ps = 1 from rfl, fits, l1]
  rw [L]
  simp [hf, isThing]
/-! ### the text of a plain thing -/
def ptext : D → List Nat
  | .non => [46]
  | .bl true => [43]
  | .bl false => [45]
  | .int i => intText i
  | .str s => s
  | _ => []
theorem log_ok {i : Int} (h : (i.natAbs : Int) < big31) : i.natAbs.log2 < 1920 := by
  have : i.natAbs < 2 ^ 128 := by
    have e : big31 = ((10 ^ 31 : Nat) : Int) := by decide +kernel
    rw [e] at h
    exact Nat.lt_trans (show i.natAbs < 10 ^ 31 by exact Int.ofNat_lt.mp h) (show 10 ^ 31 < 2 ^ 128 by decide +kernel)
  by_cases z : i.natAbs = 0
  · rw [z]; decide
  · exact Nat.lt_trans ((Nat.log2_lt z).mpr this) (by decide)
theorem signs_at (b : Bool) : idxD (.dct [.non, (.bl true), (.bl false)] [(.str [46]), (.str [43]), (.str [45])]) (.bl b) = some (.str (ptext (.bl b))) := by cases b <;> rfl
theorem signs_non : idxD (.dct [.non, (.bl true), (.bl false)] [(.str [46]), (.str [43]), (.str [45])]) .non = some (.str [46]) := rfl
/-- plain things and the marks -/
def isLeaf : D → Bool
  | .non => true
  | .bl _ => true
  | .int i => decide ((i.natAbs : Int) < big31)
  | .str _ => true
  | _ => false
theorem plain_text_run (A : t.At p) (x : D) (hx : isLeaf x = true) (hf : Fine h) : callN p (n + 1) t.f_plain_text [.d x] h = .ok (.d (.str (ptext x))) h := by
  rw [callN_run A.plain_text rfl]
  cases x with
  | non => simp [ThI.d_plain_text, startEnv, slotOf, hf, A.g_SIGNS, signs_non, ptext]
  | bl b => simp [ThI.d_plain_text, startEnv, slotOf, hf, A.g_SIGNS, signs_at]
  | int i =>
    have hx' : (i.natAbs : Int) < big31 := by simpa [isLeaf] using hx
    have hl := log_ok hx'
    simp [ThI.d_plain_text, startEnv, slotOf, hf, hl, ptext]
  | str s => simp [ThI.d_plain_text, startEnv, slotOf, hf, ptext]
  | _ => cases hx
end
end Ev
end
section
/-! EvTh2: text_of. -/
set_option autoImplicit false
set_option linter.all false
set_option maxRecDepth 100000
namespace Ev
/-! ### texts -/
mutual
def txt : D → List Nat
  | .tup xs => 40 :: (txtj xs ++ [41])
  | .non => [46]
  | .bl b => ptext (.bl b)
  | .int i => intText i
  | .str s => s
  | _ => []
def txtj : List D → List Nat
  | [] => []
  | x :: xs => txt x ++ txtr xs
def txtr : List D → List Nat
  | [] => []
  | x :: xs => 32 :: (txt x ++ txtr xs)
end
theorem txt_leaf {x : D} (h : isTup x = false) : txt x = ptext x := by cases x <;> first | (cases h; done) | rfl | simp [txt, ptext]
mutual
def wt : D → Nat
  | .tup xs => wts xs + 2
  | _ => 1
def wts : List D → Nat
  | [] => 0
  | x :: xs => wt x + 1 + wts xs
end
mutual
def allLeaf : D → Bool
  | .tup xs => allLeafs xs
  | .non => true
  | .bl _ => true
  | .int i => decide ((i.natAbs : Int) < big31)
  | .str _ => true
  | _ => false
def allLeafs : List D → Bool
  | [] => true
  | x :: xs => allLeaf x && allLeafs xs
end
theorem allLeaf_leaf {x : D} (h : isTup x = false) : allLeaf x = isLeaf x := by cases x <;> first | (cases h; done) | rfl | simp [allLeaf, isLeaf]
def wsum (l : List D) : Nat := (l.map wt).sum
theorem wsum_append (l m : List D) : wsum (l ++ m) = wsum l + wsum m := by simp [wsum]
theorem wt_pos (x : D) : 1 ≤ wt x := by cases x <;> simp [wt]
theorem length_wsum (l : List D) : l.length ≤ wsum l := by
  induction l with
  | nil => simp
  | cons x xs ih => simp [wsum] at ih ⊢; have := wt_pos x; omega
/-- what the stack tells, from its top -/
def outS (l : List D) : List Nat := (l.reverse.map txt).flatten
theorem outS_snoc (l : List D) (x : D) : outS (l ++ [x]) = txt x ++ outS l := by simp [outS]
/-- items with blanks between -/
def inter : List D → List D
  | [] => []
  | [x] => [x]
  | x :: y :: r => x :: .str [32] :: inter (y :: r)
theorem outS_append (l m : List D) : outS (l ++ m) = outS m ++ outS l := by simp [outS]
theorem txtr_snoc (xs : List D) (x : D) : txtr (xs ++ [x]) = txtr xs ++ 32 :: txt x := by
  induction xs with
  | nil => simp [txtr]
  | cons y ys ih => simp [txtr, ih]
theorem txtj_snoc {xs : List D} (h : xs ≠ []) (x : D) : txtj (xs ++ [x]) = txtj xs ++ 32 :: txt x := by
  cases xs with
  | nil => exact absurd rfl h
  | cons y ys => simp [txtj, txtr_snoc]
theorem outS_inter : ∀ rs : List D, outS (inter rs) = txtj rs.reverse
  | [] => by simp [inter, outS, txtj]
  | [x] => by simp [inter, outS, txtj, txtr]
  | x :: y :: r => by
    rw [inter, show x :: D.str [32] :: inter (y :: r) = [x, .str [32]] ++ inter (y :: r) from rfl, outS_append, outS_inter (y :: r), show (x :: y :: r).reverse = (y :: r).reverse ++ [x] from List.reverse_cons, txtj_snoc (show (y :: r).reverse ≠ [] by simp)]
    simp [outS, txt]
theorem wsum_inter : ∀ rs : List D, wsum (inter rs) ≤ wts rs
  | [] => by simp [inter, wsum]
  | [x] => by simp [inter, wsum, wts]
  | x :: y :: r => by
    have := wsum_inter (y :: r)
    rw [inter, wts]
    simp only [wsum, List.map_cons, List.sum_cons] at this ⊢
    simp only [wt]
    omega
theorem wts_append (xs ys : List D) : wts (xs ++ ys) = wts xs + wts ys := by
  induction xs with
  | nil => simp [wts]
  | cons x xs ih => simp [wts, ih]; omega
theorem wts_reverse (xs : List D) : wts xs.reverse = wts xs := by
  induction xs with
  | nil => rfl
  | cons x xs ih => simp [wts_append, wts, ih]; omega
theorem leafs_all (xs : List D) : allLeafs xs = xs.all allLeaf := by
  induction xs with
  | nil => rfl
  | cons x xs ih => simp [allLeafs, ih]
theorem inter_all {rs : List D} (h : rs.all allLeaf = true) : (inter rs).all allLeaf = true := by
  fun_induction inter rs with
  | case1 => rfl
  | case2 x => exact h
  | case3 x y r ih =>
    simp only [List.all_cons, Bool.and_eq_true] at h ih ⊢
    exact ⟨h.1, rfl, ih h.2⟩
/-! ### the walk -/
def ThI.twBody (t : ThI) : List S := match t.d_text_of.body with
  | [_, .while _ b, _] => b
  | _ => []
def ThI.tfBody (t : ThI) : List S := match t.twBody with
  | [_, .ite _ [_, .for _ _ _ b, _] _] => b
  | _ => []
def ThI.tell (t : ThI) : E := match t.twBody with
  | [_, .ite _ _ [.expr (.mt _ _ [e])]] => e
  | _ => .act 0
theorem tw_body (t : ThI) : t.twBody = [.asg 3 (.mt .pop (.slot 2) []), .ite (.isi (.slot 3) .tuple) [.expr (.mt .append (.slot 2) [(.glob t.g_CLOSE)]), .for [4, 5] .enum [(.rev (.slot 3))] t.tfBody, .expr (.mt .append (.slot 1) [(.glob t.g_OPEN)])] [.expr (.mt .append (.slot 1) [t.tell])]] := rfl
section
variable {t : ThI} {p : Prog} {n : Nat} {h : Heap}
/-- the items of a tuple are pushed -/
theorem tf_loop (A : t.At p) (b : Nat) (fc : Cell) (ys : List D) (e0 : Option NV) : ∀ (rs : List D) (k : Nat) (l : List D) (e4 e5 : Option NV), k + rs.length = ys.length → l.length + (inter rs).length ≤ line →
    ∃ (e4' e5' : Option NV), forGo (fun x env h => opt (setTg env [4, 5] x) fun env' => evalSs (gAt p (n + 1) (fun _ => .bad) b) t.tfBody env' h) (enumD k rs) [e0, some (.v (.ref h.length)), some (.v (.ref (h.length + 1))), some (.v (.d (.tup ys))), e4, e5] (h ++ [fc, .lst l]) =
      .ok (.next [e0, some (.v (.ref h.length)), some (.v (.ref (h.length + 1))), some (.v (.d (.tup ys))), e4', e5']) (h ++ [fc, .lst (l ++ inter rs)])
  | [], k, l, e4, e5, _, _ => ⟨e4, e5, by rw [enumD, forGo_nil]; simp [inter]⟩
  | [x], k, l, e4, e5, hk, hl => by
    refine ⟨some (.v (.d (.int k))), some (.v (.d x)), ?_⟩
    rw [enumD, enumD, forGo_cons]
    simp at hk
    have c : ¬ ((k : Int) + 1 < ys.length) := by omega
    have c2 : decide (1 ≤ line) = true := by decide
    simp [inter] at hl
    have e : (h ++ [fc, Cell.lst l])[h.length + 1]? = some (.lst l) := by simp
    simp [ThI.tfBody, ThI.twBody, ThI.d_text_of, setTg, setEnvs, setEnv, slotOf, c, fits, c2, mtK_ext e, ext_run e (ys := [x]) (by simpa using hl), forGo_nil, inter]
  | x :: y :: r, k, l, e4, e5, hk, hl => by
    simp only [List.length_cons] at hk
    rw [inter] at hl
    simp only [List.length_cons] at hl
    obtain ⟨e4', e5', q⟩ := tf_loop A b fc ys e0 (y :: r) (k + 1) (l ++ [x, .str [32]]) (some (.v (.d (.int k)))) (some (.v (.d x))) (by simp; omega) (by simp; omega)
    refine ⟨e4', e5', ?_⟩
    rw [enumD, forGo_cons]
    have c : ((k : Int) + 1 < ys.length) := by omega
    have c2 : decide (2 ≤ line) = true := by decide
    have e : (h ++ [fc, Cell.lst l])[h.length + 1]? = some (.lst l) := by simp
    simp only [List.append_assoc, List.cons_append, List.nil_append] at q
    rw [inter]
    rw [← q]
    simp [ThI.tfBody, ThI.twBody, ThI.d_text_of, setTg, setEnvs, setEnv, slotOf, c, fits, c2, mtK_ext e, ext_run e (ys := [x, .str [32]]) (by simp; omega), A.g_BLANK]
/-- what is told of what is popped -/
theorem tell_leaf (A : t.At p) (x : D) (hx : isTup x = false) (ha : allLeaf x = true) (b : Nat) (hf : Fine h) (e0 e1 e2 e4 e5 : Option NV) :
    evalE (gAt p (n + 1) (fun _ => .bad) b) t.tell [e0, e1, e2, some (.v (.d x)), e4, e5] h = .ok (.d (.str (ptext x))) h := by
  have e := plain_text_run (n := n) A x (by rw [← allLeaf_leaf hx]; exact ha) hf
  have c2 : decide (2 ≤ line) = true := by decide
  have k : isinD x (.tup [.str [32], .str [41]]) = some (match x with | .str s => s == [32] || s == [41] | _ => false) := by
    cases x with
    | str s =>
      simp [isinD, inD, flat, D.eq]
      by_cases h1 : s = [32]
      · subst h1; decide
      · by_cases h2 : s = [41]
        · subst h2; decide
        · have a1 : ([32] == s) = false := by simpa using fun e => h1 e.symm
          have a2 : ([41] == s) = false := by simpa using fun e => h2 e.symm
          simp [h1, h2, a1, a2]
    | non => rfl
    | bl _ => rfl
    | int _ => rfl
    | tup _ => cases hx
    | lst _ => cases ha
    | dct _ _ => cases ha
  rw [show t.tell = .ite (.cmp .isin (.slot 3) (.tup [(.glob t.g_BLANK), (.glob t.g_CLOSE)])) (.slot 3) (.call t.f_plain_text [(.slot 3)]) from rfl]
  simp [slotOf, A.g_BLANK, A.g_CLOSE, fits, c2, k]
  cases x with
  | str s =>
    by_cases h1 : s = [32] ∨ s = [41]
    · simp [h1, ptext]
    · simp [h1, e]
  | _ => simp [e]
theorem tw_loop (A : t.At p) (b : Nat) (hf : Fine h) (e0 : Option NV) : ∀ (m : Nat) (st : List D) (ts : List (List Nat)) (e3 e4 e5 : Option NV) (fuel : Nat), wsum st ≤ m → m < fuel → st.all allLeaf = true → ts.length + m < line →
    ∃ (ts' : List (List Nat)) (e3' e4' e5' : Option NV), whileGo (fun env h => evalE (gAt p (n + 1) (fun _ => .bad) b) (.cmp .ne (.slot 2) (.lst false [])) env h) (fun env h => evalSs (gAt p (n + 1) (fun _ => .bad) b) t.twBody env h) fuel [e0, some (.v (.ref h.length)), some (.v (.ref (h.length + 1))), e3, e4, e5] (h ++ [.lst (ts.map .str), .lst st]) =
      .ok (.next [e0, some (.v (.ref h.length)), some (.v (.ref (h.length + 1))), e3', e4', e5']) (h ++ [.lst (ts'.map .str), .lst []]) ∧ ts'.flatten = ts.flatten ++ outS st ∧ ts'.length ≤ ts.length + m := by
  intro m
  induction m with
  | zero =>
    intro st ts e3 e4 e5 fuel hw hfu _ _
    have : st = [] := by
      have := length_wsum st
      exact List.length_eq_zero_iff.mp (by omega)
    subst this
    obtain ⟨fuel, rfl⟩ : ∃ f, fuel = f + 1 := ⟨fuel - 1, by omega⟩
    exact ⟨ts, e3, e4, e5, by rw [whileGo_succ]; simp [slotOf, look, view, eqD_nilL, nilB, fits], by simp [outS], by omega⟩
  | succ m ih =>
    intro st ts e3 e4 e5 fuel hw hfu hall hb
    obtain ⟨fuel, rfl⟩ : ∃ f, fuel = f + 1 := ⟨fuel - 1, by omega⟩
    rcases List.eq_nil_or_concat st with rfl | ⟨l, x, rfl⟩
    · exact ⟨ts, e3, e4, e5, by rw [whileGo_succ]; simp [slotOf, look, view, eqD_nilL, nilB, fits], by simp [outS], by omega⟩
    · rw [List.concat_eq_append] at hw hall ⊢
      rw [List.all_append, Bool.and_eq_true] at hall
      obtain ⟨hall, hx⟩ := hall
      have hx : allLeaf x = true := by simpa using hx
      rw [wsum_append] at hw
      have hwx : wsum [x] = wt x := by simp [wsum]
      have hll := length_wsum l
      rw [whileGo_succ]
      have e : (h ++ [Cell.lst (ts.map D.str), Cell.lst (l ++ [x])])[h.length + 1]? = some (.lst (l ++ [x])) := by simp
      cases ht : isTup x with
      | false =>
        have hw1 := wt_pos x
        obtain ⟨ts', e3', e4', e5', q1, q2, q3⟩ := ih l (ts ++ [ptext x]) (some (.v (.d x))) e4 e5 fuel (by omega) (by omega) hall (by simp; omega)
        refine ⟨ts', e3', e4', e5', ?_, ?_, by simp at q3; omega⟩
        · rw [← q1]
          have hf2 : Fine (h ++ [Cell.lst (ts.map D.str), Cell.lst l]) := hf.app rfl
          have T := tell_leaf (n := n) A x ht hx b hf2 e0 (some (.v (.ref h.length))) (some (.v (.ref (h.length + 1)))) e4 e5
          have e2 : (h ++ [Cell.lst (ts.map D.str), Cell.lst l])[h.length]? = some (.lst (ts.map D.str)) := by simp
          simp [slotOf, look, view, eqD_nilL, nilB, fits, tw_body, mtK_pop e, pop_run e, setEnv, isa_tuple, ht, T, mtK_app e2, app_run e2 (show (ts.map D.str).length < line by simp; omega)]
        · rw [q2, outS_snoc, txt_leaf ht]; simp
      | true =>
        obtain ⟨ys, rfl⟩ : ∃ ys, x = .tup ys := by cases x <;> first | (cases ht; done) | exact ⟨_, rfl⟩
        have hwt : wt (.tup ys) = wts ys + 2 := by simp [wt]
        have hwi := wsum_inter ys.reverse
        rw [wts_reverse] at hwi
        have hli := length_wsum (inter ys.reverse)
        have hw2 : wsum (l ++ D.str [41] :: inter ys.reverse) ≤ m := by
          rw [show l ++ D.str [41] :: inter ys.reverse = (l ++ [D.str [41]]) ++ inter ys.reverse by simp, wsum_append, wsum_append]
          have : wsum [D.str [41]] = 1 := rfl
          omega
        have hall2 : (l ++ D.str [41] :: inter ys.reverse).all allLeaf = true := by
          have hy : ys.all allLeaf = true := by rw [← leafs_all]; simpa [allLeaf] using hx
          have := inter_all (rs := ys.reverse) (by simpa using hy)
          simp only [List.all_append, List.all_cons, Bool.and_eq_true]
          exact ⟨hall, rfl, this⟩
        obtain ⟨f4, f5, F⟩ := tf_loop (n := n) (h := h) A b (.lst (ts.map D.str)) ys e0 ys.reverse 0 (l ++ [D.str [41]]) e4 e5 (by simp) (by simp; omega)
        obtain ⟨ts', e3', e4', e5', q1, q2, q3⟩ := ih (l ++ D.str [41] :: inter ys.reverse) (ts ++ [[40]]) (some (.v (.d (.tup ys)))) f4 f5 fuel hw2 (by omega) hall2 (by simp; omega)
        refine ⟨ts', e3', e4', e5', ?_, ?_, by simp at q3; omega⟩
        · rw [← q1]
          have e1 : (h ++ [Cell.lst (ts.map D.str), Cell.lst l])[h.length + 1]? = some (.lst l) := by simp
          have e2 : (h ++ [Cell.lst (ts.map D.str), Cell.lst (l ++ D.str [41] :: inter ys.reverse)])[h.length]? = some (.lst (ts.map D.str)) := by simp
          simp [slotOf, look, view, eqD_nilL, nilB, fits, tw_body, mtK_pop e, pop_run e, setEnv, A.g_CLOSE, A.g_OPEN, mtK_app e1, app_run e1 (show l.length < line by omega), revD]
          simp at F
          rw [F]
          simp [slotOf, mtK_app e2, app_run e2 (show (ts.map D.str).length < line by simp; omega)]
        · rw [q2, outS_snoc, show l ++ D.str [41] :: inter ys.reverse = (l ++ [D.str [41]]) ++ inter ys.reverse by simp, outS_append, outS_snoc, outS_inter]
          simp [txt]
end
end Ev
end
section
/-! EvTh3: is_thing, plainly; thing_text. -/
set_option autoImplicit false
set_option linter.all false
set_option maxRecDepth 100000
namespace Ev
mutual
/-- all that is no tuple is plain -/
def allPlain : D → Bool
  | .tup xs => allPlains xs
  | .non => true
  | .bl _ => true
  | .int i => decide ((i.natAbs : Int) < big31)
  | .str s => isWordS s
  | _ => false
def allPlains : List D → Bool
  | [] => true
  | x :: xs => allPlain x && allPlains xs
end
mutual
/-- how many layers lie below -/
def lvl : D → Nat
  | .tup xs => lvls xs
  | _ => 0
/-- .. and one more, if there are any -/
def lvls : List D → Nat
  | [] => 0
  | x :: xs => max (lvl x + 1) (lvls xs)
end
theorem allPlain_leaf {x : D} (h : isTup x = false) : allPlain x = isPlain x := by cases x <;> first | (cases h; done) | (unfold allPlain isPlain; rfl)
theorem plains_all (xs : List D) : allPlains xs = xs.all allPlain := by
  induction xs with
  | nil => rfl
  | cons x xs ih => simp [allPlains, ih]
theorem plains_append (xs ys : List D) : allPlains (xs ++ ys) = (allPlains xs && allPlains ys) := by simp [plains_all]
theorem lvls_append (xs ys : List D) : lvls (xs ++ ys) = max (lvls xs) (lvls ys) := by
  induction xs with
  | nil => simp [lvls]
  | cons x xs ih => simp [lvls, ih] <;> omega
theorem plain_next (xs : List D) : allPlains xs = (layOk xs && allPlains (nextL xs)) := by
  induction xs with
  | nil => rfl
  | cons x xs ih =>
    unfold layOk nextL at *
    rw [List.flatMap_cons, plains_append, allPlains, ih, List.all_cons]
    cases ht : isTup x with
    | true =>
      obtain ⟨ys, rfl⟩ : ∃ ys, x = .tup ys := by cases x <;> first | (cases ht; done) | exact ⟨_, rfl⟩
      simp only [allPlain, kids, Bool.true_or, Bool.true_and]
      cases allPlains ys <;> cases (xs.all fun x => isTup x || isPlain x) <;> simp
    | false =>
      have : kids x = [] := by cases x <;> first | (cases ht; done) | rfl
      rw [this, allPlain_leaf ht]
      simp [allPlains, Bool.and_assoc]
theorem nodes_next (xs : List D) : nodesL xs = xs.length + nodesL (nextL xs) := by
  induction xs with
  | nil => rfl
  | cons x xs ih =>
    unfold nextL at *
    rw [List.flatMap_cons, nodesL_append, nodesL, ih, List.length_cons]
    have : nodes x = 1 + nodesL (kids x) := by cases x <;> simp only [nodes, kids, nodesL] <;> omega
    omega
theorem lvls_nil {xs : List D} : lvls xs = 0 ↔ xs = [] := by
  cases xs with
  | nil => simp [lvls]
  | cons x xs => simp [lvls] <;> omega
theorem lvls_next (xs : List D) (h : xs ≠ []) : lvls xs = 1 + lvls (nextL xs) := by
  induction xs with
  | nil => exact absurd rfl h
  | cons x xs ih =>
    unfold nextL at *
    rw [List.flatMap_cons, lvls_append, lvls]
    have : lvl x = lvls (kids x) := by cases x <;> simp [lvl, kids, lvls]
    cases xs with
    | nil => simp [lvls, this]; omega
    | cons y ys =>
      rw [ih (by simp), this]
      omega
theorem thing_go : ∀ (k many : Nat) (xs : List D), xs ≠ [] → isThingGo k many xs = (decide (lvls xs ≤ k) && allPlains xs && decide (many + nodesL xs ≤ 4000))
  | 0, many, xs, h => by
    have : ¬ lvls xs ≤ 0 := fun z => h (lvls_nil.mp (by omega))
    simp [isThingGo, this]
  | k + 1, many, xs, h => by
    rw [isThingGo, plain_next xs, nodes_next xs, lvls_next xs h]
    by_cases e : nextL xs = []
    · rw [e]
      simp only [nilB, List.isEmpty_nil, lvls, nodesL, allPlains, Nat.add_zero]
      cases layOk xs
      · simp
      · by_cases c : 4000 < many + xs.length
        · have c2 : ¬ many + xs.length ≤ 4000 := by omega
          simp [c, c2]
        · have c2 : many + xs.length ≤ 4000 := by omega
          simp [c, c2]
    · have hn : nilB (nextL xs) = false := by simpa [nilB] using e
      rw [hn, thing_go k (many + xs.length) (nextL xs) e]
      cases layOk xs
      · simp
      · by_cases c : 4000 < many + xs.length
        · have : ¬ many + (xs.length + nodesL (nextL xs)) ≤ 4000 := by omega
          simp [c, this]
        · simp only [c, decide_false, Bool.not_true, Bool.or_self, Bool.true_and, if_neg, Bool.false_eq_true, not_false_eq_true]
          rw [show many + xs.length + nodesL (nextL xs) = many + (xs.length + nodesL (nextL xs)) by omega]
          congr 2
          by_cases q : lvls (nextL xs) ≤ k
          · simp [q]; omega
          · simp [q]; omega
theorem isThing_eq (x : D) : isThing x = (decide (lvl x ≤ 20) && allPlain x && decide (nodes x ≤ 4000)) := by
  unfold isThing
  rw [thing_go _ _ _ (by simp)]
  simp only [lvls, allPlains, nodesL, Bool.and_true]
  congr 1
  · congr 1
    by_cases q : lvl x ≤ 20
    · simp [q]
    · simp [q]
  · simp
mutual
theorem plain_leafs : ∀ {x : D}, allPlain x = true → allLeaf x = true
  | .tup xs, h => by
    rw [allPlain] at h
    rw [allLeaf]
    exact plain_leafss h
  | .non, _ => by rw [allLeaf]
  | .bl _, _ => by rw [allLeaf]
  | .int _, h => by rw [allPlain] at h; rw [allLeaf]; exact h
  | .str _, _ => by rw [allLeaf]
  | .lst _, h => by simp [allPlain] at h
  | .dct _ _, h => by simp [allPlain] at h
theorem plain_leafss : ∀ {xs : List D}, allPlains xs = true → allLeafs xs = true
  | [], _ => rfl
  | x :: xs, h => by
    rw [allPlains, Bool.and_eq_true] at h
    rw [allLeafs, Bool.and_eq_true]
    exact ⟨plain_leafs h.1, plain_leafss h.2⟩
end
mutual
theorem wt_nodes : ∀ x : D, wt x + 1 ≤ 4 * nodes x
  | .tup xs => by rw [wt, nodes]; have := wts_nodes xs; omega
  | .non => by simp [wt, nodes]
  | .bl _ => by simp [wt, nodes]
  | .int _ => by simp [wt, nodes]
  | .str _ => by simp [wt, nodes]
  | .lst _ => by simp [wt, nodes]
  | .dct _ _ => by simp [wt, nodes]
theorem wts_nodes : ∀ xs : List D, wts xs ≤ 4 * nodesL xs
  | [] => by simp [wts]
  | x :: xs => by rw [wts, nodesL]; have := wt_nodes x; have := wts_nodes xs; omega
end
end Ev
end
section
/-! EvNum: numbers as texts. -/
set_option autoImplicit false
set_option linter.all false
set_option maxRecDepth 100000
namespace Ev
theorem digitChar_toNat : ∀ d, d < 10 → (Nat.digitChar d).toNat = 48 + d := by decide
theorem digits_eq (n : Nat) : digits n = if n < 10 then [48 + n] else digits (n / 10) ++ [48 + n % 10] := by
  unfold digits
  rw [Nat.toDigits_eq_if (by omega)]
  split
  · rename_i h
    simp [digitChar_toNat n h]
  · simp [digitChar_toNat (n % 10) (by omega)]
def fig (c : Nat) : Bool := decide (48 ≤ c) && decide (c ≤ 57)
theorem digits_fig (n : Nat) : (digits n).all fig = true := by
  induction n using Nat.strongRecOn with
  | ind n ih =>
    rw [digits_eq]
    split
    · simp [fig]; omega
    · rw [List.all_append, ih _ (by omega)]
      simp [fig]; omega
theorem digits_len (n k : Nat) (hk : 0 < k) : (digits n).length ≤ k ↔ n < 10 ^ k := by
  unfold digits
  rw [List.length_map]
  exact Nat.length_toDigits_le_iff (by omega) hk
theorem digits_pos (n : Nat) : 1 ≤ (digits n).length := by
  rw [digits_eq]
  split <;> simp
theorem valOf_snoc (s : List Nat) (c : Nat) : valOf (s ++ [c]) = valOf s * 10 + (c - 48) := by simp [valOf]
theorem valOf_digits (n : Nat) : valOf (digits n) = n := by
  induction n using Nat.strongRecOn with
  | ind n ih =>
    rw [digits_eq]
    split
    · simp [valOf]
    · rw [valOf_snoc, ih _ (by omega)]
      omega
theorem digits_inj {m n : Nat} (h : digits m = digits n) : m = n := by rw [← valOf_digits m, h, valOf_digits]
theorem big31_eq : big31 = ((10 ^ 31 : Nat) : Int) := by unfold big31; decide +kernel
theorem figs_len {i : Int} (h : (i.natAbs : Int) < big31) : (digits i.natAbs).length ≤ 31 := by
  rw [digits_len _ _ (by omega)]
  rw [big31_eq] at h
  exact Int.ofNat_lt.mp h
theorem intText_len {i : Int} (h : (i.natAbs : Int) < big31) : (intText i).length ≤ 32 := by
  have := figs_len h
  unfold intText
  split <;> simp <;> omega
/-- the first sign of a number: no figure stands before another kind -/
theorem digits_ne45 (n : Nat) : ∀ c r, digits n = c :: r → fig c = true := by
  intro c r e
  have := digits_fig n
  rw [e] at this
  simp at this
  exact this.1
theorem readInt_neg (s : List Nat) : readInt (45 :: s) = if decide (1 ≤ s.length) && decide (s.length ≤ 600) && s.all fig then some (-(valOf s : Int)) else none := rfl
theorem readInt_pos (c : Nat) (s : List Nat) (hc : c ≠ 45) : readInt (c :: s) = if decide (1 ≤ (c :: s).length) && decide ((c :: s).length ≤ 600) && (c :: s).all fig then some (valOf (c :: s) : Int) else none := by
  have q : ∀ r, c :: s = 45 :: r → False := by intro r e; cases e; exact hc rfl
  unfold readInt
  rw [readInt.match_1.eq_2 _ _ _ _ q]
  dsimp only
  rw [readInt.match_1.eq_2 _ _ _ _ q]
  rfl
theorem readInt_intText {i : Int} (h : (digits i.natAbs).length ≤ 600) : readInt (intText i) = some i := by
  unfold intText
  have hp := digits_pos i.natAbs
  have ha := digits_fig i.natAbs
  split
  · rw [readInt_neg]
    simp only [h, hp, ha, valOf_digits, decide_true, Bool.and_self, if_true]
    congr 1
    omega
  · cases hd : digits i.natAbs with
    | nil => rw [hd] at hp; simp at hp
    | cons c r =>
      have hc := digits_ne45 _ _ _ hd
      have hc2 : c ≠ 45 := by intro e; subst e; simp [fig] at hc
      rw [readInt_pos c r hc2, ← hd]
      simp only [h, hp, ha, valOf_digits, decide_true, Bool.and_self, if_true]
      congr 1
      omega
end Ev
end
section
/-! EvTh4: thing_text. -/
set_option autoImplicit false
set_option linter.all false
set_option maxRecDepth 100000
namespace Ev
theorem word_len {s : List Nat} (h : isWordS s = true) : 1 ≤ s.length ∧ s.length ≤ 12 := by
  unfold isWordS at h
  simp at h
  omega
theorem ptext_bl (b : Bool) : (ptext (.bl b)).length = 1 := by cases b <;> rfl
mutual
theorem txt_len : ∀ {x : D}, allPlain x = true → (txt x).length + 1 ≤ 34 * nodes x
  | .tup xs, h => by
    rw [allPlain] at h
    rw [txt, nodes]
    have := txtj_len h
    simp only [List.length_cons, List.length_append, List.length_nil]
    omega
  | .non, _ => by simp [txt, nodes]
  | .bl b, _ => by
    rw [txt, nodes, ptext_bl]
    omega
    all_goals simp
  | .int i, h => by
    rw [allPlain] at h
    have := intText_len (of_decide_eq_true h)
    rw [txt, nodes]
    omega
    all_goals simp
  | .str s, h => by
    rw [allPlain] at h
    have := (word_len h).2
    rw [txt, nodes]
    omega
    all_goals simp
  | .lst _, h => by simp [allPlain] at h
  | .dct _ _, h => by simp [allPlain] at h
theorem txtj_len : ∀ {xs : List D}, allPlains xs = true → (txtj xs).length ≤ 34 * nodesL xs
  | [], _ => by simp [txtj]
  | x :: xs, h => by
    rw [allPlains, Bool.and_eq_true] at h
    have := txt_len h.1
    have := txtr_len h.2
    rw [txtj, nodesL, List.length_append]
    omega
theorem txtr_len : ∀ {xs : List D}, allPlains xs = true → (txtr xs).length ≤ 34 * nodesL xs
  | [], _ => by simp [txtr]
  | x :: xs, h => by
    rw [allPlains, Bool.and_eq_true] at h
    have := txt_len h.1
    have := txtr_len h.2
    rw [txtr, nodesL, List.length_cons, List.length_append]
    omega
end
theorem joinT_nil (ts : List (List Nat)) : joinT [] ts = ts.flatten := by
  fun_induction joinT [] ts with
  | case1 => rfl
  | case2 x => simp
  | case3 x y r ih => rw [ih]; simp
theorem sum_len (ts : List (List Nat)) : (ts.map List.length).sum = ts.flatten.length := by simp
def twCond : E := .cmp .ne (.slot 2) (.lst false [])
section
variable {t : ThI} {p : Prog} {n : Nat} {h : Heap}
theorem text_of_body (t : ThI) : t.d_text_of.body = [.par 1 2 (.lst true []) (.lst true [(.slot 0)]), .while twCond t.twBody, .ret (.mt .join (.lit (.str [])) [(.frz (.slot 1))])] := rfl
theorem text_of_run (A : t.At p) (x : D) (hf : Fine h) (hl : allLeaf x = true) (hw : wt x < p.fuel) (hw2 : wt x < line) (ht : (txt x).length ≤ line) :
    callN p (n + 2) t.f_text_of [.d x] h = .ok (.d (.str (txt x))) h := by
  rw [callN_run A.text_of rfl]
  rw [text_of_body]
  obtain ⟨ts', e3, e4, e5, q1, q2, q3⟩ := tw_loop (n := n) (h := h) A h.length hf (some (.v (.d x))) (wt x) [x] [] none none none p.fuel (by simp [wsum]) hw (by simpa using hl) (by simpa using hw2)
  have l1 : decide (0 ≤ line) = true := by decide
  have l2 : decide (1 ≤ line) = true := by decide
  have q1 : whileGo (fun env h' => evalE (gAt p (n + 1) (fun _ => .bad) h.length) twCond env h') (fun env h' => evalSs (gAt p (n + 1) (fun _ => .bad) h.length) t.twBody env h') p.fuel [some (.v (.d x)), some (.v (.ref h.length)), some (.v (.ref (h.length + 1))), none, none, none] (h ++ [.lst [], .lst [x]]) = _ := q1
  have q4 : ts'.flatten = txt x := by rw [q2]; simp [outS]
  have q5 : (h ++ [Cell.lst (ts'.map D.str), Cell.lst []])[h.length]? = some (.lst (ts'.map D.str)) := by simp
  have J := join_run (b := h.length) (h := h ++ [Cell.dead, Cell.lst []]) (s := []) (ts := ts') (by rw [sum_len, q4]; simpa using ht)
  rw [joinT_nil, q4] at J
  simp [startEnv, slotOf, setEnv, show t.d_text_of.ns = 6 from rfl, show t.d_text_of.ps = 1 from rfl, fits, l1, l2]
  rw [q1]
  simp [slotOf, frzGo, mtK, strK, J, leave_ext hf]
theorem isThing_plain {x : D} (h : isThing x = true) : allPlain x = true ∧ nodes x ≤ 4000 ∧ lvl x ≤ 20 := by
  rw [isThing_eq] at h
  simp at h
  exact ⟨h.1.2, h.2, h.1.1⟩
theorem thing_text_run (A : t.At p) (x : D) (hf : Fine h) (hx : isThing x = true) (hp : 16000 ≤ p.fuel) : callN p (n + 4) t.f_thing_text [.d x] h = .ok (.d (.str (txt x))) h := by
  rw [callN_run A.thing_text rfl]
  obtain ⟨h1, h2, h3⟩ := isThing_plain hx
  have w := wt_nodes x
  have L := txt_len h1
  have e1 := is_thing_run (n := n) A x hf (by unfold line; omega)
  have e2 := text_of_run (n := n + 1) A x hf (plain_leafs h1) (by omega) (by unfold line; omega) (by unfold line; omega)
  simp [ThI.d_thing_text, startEnv, slotOf, e1, hx, e2, hf]
theorem thing_text_exc (A : t.At p) (x : D) (hf : Fine h) (hx : isThing x = false) (hn : nodes x ≤ line) : callN p (n + 4) t.f_thing_text [.d x] h = .exc t.x_OutOfPlace [.str [110, 111, 32, 116, 104, 105, 110, 103]] h := by
  rw [callN_run A.thing_text rfl]
  have e1 := is_thing_run (n := n) A x hf hn
  simp [ThI.d_thing_text, startEnv, slotOf, e1, hx, hf]
end
end Ev
end
section
/-! EvTh5: parts_of, plain_of. -/
set_option autoImplicit false
set_option linter.all false
set_option maxRecDepth 100000
namespace Ev
def mark (c : Nat) : Bool := c == 32 || c == 40 || c == 41
theorem in_marks (c : Nat) : isinD (.str [c]) (.tup [.str [32], .str [40], .str [41]]) = some (mark c) := by
  simp only [isinD, inD, flat, D.eq, List.all_cons, List.all_nil, Bool.and_self, if_true, List.any_cons, List.any_nil, Bool.or_false, mark]
  congr 1
  by_cases h1 : c = 32
  · subst h1; rfl
  · by_cases h2 : c = 40
    · subst h2; rfl
    · by_cases h3 : c = 41
      · subst h3; rfl
      · have a1 : ([32] == [c]) = false := by simpa using fun e => h1 e.symm
        have a2 : ([40] == [c]) = false := by simpa using fun e => h2 e.symm
        have a3 : ([41] == [c]) = false := by simpa using fun e => h3 e.symm
        simp [h1, h2, h3, a1, a2, a3]
theorem eqD_str (s t : List Nat) : eqD (.str s) (.str t) = some (s == t) := rfl
def endP (piece : List Nat) : List (List Nat) := if piece == [] then [] else [piece]
def partsGo : List Nat → List Nat → List (List Nat)
  | [], piece => endP piece
  | c :: r, piece => if mark c then endP piece ++ [c] :: partsGo r [] else partsGo r (piece ++ [c])
def parts (s : List Nat) : List (List Nat) := partsGo s []
def ThI.paBody (t : ThI) : List S := match t.d_parts_of.body with
  | [_, .for _ _ _ b, _] => b
  | _ => []
theorem parts_body (t : ThI) : t.d_parts_of.body = [.par 1 2 (.lst true []) (.lit (.str [])), .for [3] .val [(.slot 0)] t.paBody, .ret (.ite (.cmp .ne (.slot 2) (.lit (.str []))) (.bin .add (.slot 1) (.lst false [(.slot 2)])) (.frz (.slot 1)))] := rfl
section
variable {t : ThI} {p : Prog} {n : Nat} {h : Heap}
theorem pa_loop (A : t.At p) (b : Nat) (e0 : Option NV) : ∀ (s : List Nat) (found : List (List Nat)) (piece : List Nat) (e3 : Option NV), found.length + 2 * s.length < line → piece.length + s.length ≤ line →
    ∃ (found' : List (List Nat)) (piece' : List Nat) (e3' : Option NV), forGo (fun x env h => opt (setTg env [3] x) fun env' => evalSs (gAt p n (fun _ => .bad) b) t.paBody env' h) (s.map fun c => .str [c]) [e0, some (.v (.ref h.length)), some (.v (.d (.str piece))), e3] (h ++ [.lst (found.map .str)]) =
      .ok (.next [e0, some (.v (.ref h.length)), some (.v (.d (.str piece'))), e3']) (h ++ [.lst (found'.map .str)]) ∧ found' ++ endP piece' = found ++ partsGo s piece ∧ found'.length ≤ found.length + 2 * s.length
  | [], found, piece, e3, _, _ => ⟨found, piece, e3, by rw [List.map_nil, forGo_nil], by simp [partsGo], by simp⟩
  | c :: r, found, piece, e3, h1, h2 => by
    simp only [List.length_cons] at h1 h2
    rw [List.map_cons, forGo_cons]
    have l2 : decide (2 ≤ line) = true := by decide
    have l3 : decide (3 ≤ line) = true := by decide
    have l1 : decide (1 ≤ line) = true := by decide
    have e : (h ++ [Cell.lst (found.map D.str)])[h.length]? = some (.lst (found.map D.str)) := by simp
    rw [partsGo]
    cases hm : mark c with
    | true =>
      obtain ⟨f', p', e3', q1, q2, q3⟩ := pa_loop A b e0 r (found ++ endP piece ++ [[c]]) [] (some (.v (.d (.str [c])))) (by simp [endP]; split <;> simp <;> omega) (by simp; omega)
      refine ⟨f', p', e3', ?_, by rw [q2]; simp, by simp [endP] at q3; split at q3 <;> simp at q3 <;> simp <;> omega⟩
      rw [← q1]
      by_cases hp : piece = []
      · subst hp
        simp [ThI.paBody, ThI.d_parts_of, setTg, setEnv, slotOf, A.g_BLANK, A.g_OPEN, A.g_CLOSE, fits, l3, l1, in_marks, hm, eqD_str, mtK_ext e, ext_run e (ys := [.str [c]]) (by simp; omega), endP]
      · have hp2 : (piece == []) = false := by simpa using hp
        simp [ThI.paBody, ThI.d_parts_of, setTg, setEnv, slotOf, A.g_BLANK, A.g_OPEN, A.g_CLOSE, fits, l3, l2, in_marks, hm, eqD_str, hp, hp2, mtK_ext e, ext_run e (ys := [.str piece, .str [c]]) (by simp; omega), endP]
    | false =>
      obtain ⟨f', p', e3', q1, q2, q3⟩ := pa_loop A b e0 r found (piece ++ [c]) (some (.v (.d (.str [c])))) (by omega) (by simp; omega)
      refine ⟨f', p', e3', ?_, by rw [q2]; simp, by simp; omega⟩
      rw [← q1]
      have hl : piece.length + 1 ≤ line := by omega
      simp [ThI.paBody, ThI.d_parts_of, setTg, setEnv, slotOf, A.g_BLANK, A.g_OPEN, A.g_CLOSE, fits, l3, in_marks, hm, hl]
theorem parts_of_run (A : t.At p) (s : List Nat) (hf : Fine h) (hs : 2 * s.length + 2 < line) : callN p (n + 1) t.f_parts_of [.d (.str s)] h = .ok (.d (.lst ((parts s).map .str))) h := by
  rw [callN_run A.parts_of rfl, parts_body]
  obtain ⟨f', p', e3', q1, q2, q3⟩ := pa_loop (n := n) (h := h) A h.length (some (.v (.d (.str s)))) s [] [] none (by simp; omega) (by simp; omega)
  have l0 : decide (0 ≤ line) = true := by decide
  have l1 : decide (1 ≤ line) = true := by decide
  simp at q3
  simp [startEnv, slotOf, setEnv, show t.d_parts_of.ns = 4 from rfl, show t.d_parts_of.ps = 1 from rfl, fits, l0, l1]
  simp only [List.map_nil] at q1
  rw [q1]
  unfold parts
  simp only [List.nil_append] at q2
  rw [← q2]
  by_cases hp : p' = []
  · subst hp
    simp [slotOf, eqD_str, frzGo, leave_ext hf, endP]
  · have hp2 : (p' == []) = false := by simpa using hp
    have hl : f'.length + 1 ≤ line := by omega
    simp [slotOf, eqD_str, look, view, hp2, hp, fits, l1, hl, leave_ext hf, endP]
end
end Ev
end
section
/-! EvTh6: plain_of. -/
set_option autoImplicit false
set_option linter.all false
set_option maxRecDepth 100000
namespace Ev
theorem fold_lt : ∀ (s : List Nat) (a : Nat), s.all fig = true → s.foldl (fun a c => a * 10 + (c - 48)) a + 1 ≤ (a + 1) * 10 ^ s.length
  | [], a, _ => by simp
  | c :: r, a, h => by
    simp only [List.all_cons, Bool.and_eq_true] at h
    have hc : c - 48 < 10 := by have := h.1; simp [fig] at this; omega
    have := fold_lt r (a * 10 + (c - 48)) h.2
    rw [List.foldl_cons, List.length_cons, Nat.pow_succ]
    refine Nat.le_trans this ?_
    rw [Nat.mul_comm (10 ^ r.length), ← Nat.mul_assoc]
    exact Nat.mul_le_mul_right _ (by omega)
theorem valOf_lt (s : List Nat) (h : s.all fig = true) : valOf s < 10 ^ s.length := by
  have := fold_lt s 0 h
  unfold valOf
  omega
def figsOf (s : List Nat) : List Nat := if s.take 1 == [45] then s.drop 1 else s
def figsOk (s : List Nat) : Bool := decide (1 ≤ (figsOf s).length) && decide ((figsOf s).length ≤ 31) && (figsOf s).all fig
def intOf (s : List Nat) : Int := (readInt s).getD 0
def plainOf (s : List Nat) : Bool × D :=
  if s == [46] then (true, .non) else if s == [43] then (true, .bl true) else if s == [45] then (true, .bl false) else if isWordS s then (true, .str s)
  else if figsOk s then (intText (intOf s) == s, .int (intOf s)) else (false, .non)
theorem int_of {s : List Nat} (h : figsOk s = true) : readInt s = some (intOf s) ∧ ((intOf s).natAbs : Int) < big31 := by
  have k : ∃ i, readInt s = some i ∧ (i.natAbs : Int) < big31 := by
    unfold figsOk figsOf at h
    cases s with
    | nil => simp at h
    | cons c r =>
      by_cases hc : c = 45
      · subst hc
        simp at h
        have h2 : r.all fig = true := by simpa using h.2
        refine ⟨_, by rw [readInt_neg, if_pos]; simp [h2]; omega, ?_⟩
        have v := valOf_lt r h2
        have : (10 : Nat) ^ r.length ≤ 10 ^ 31 := Nat.pow_le_pow_right (by omega) h.1.2
        rw [big31_eq, Int.natAbs_neg]
        simp only [Int.natAbs_natCast]
        exact Int.ofNat_lt.mpr (by omega)
      · have hb : ((c :: r).take 1 == [45]) = false := by simpa using hc
        rw [hb] at h
        simp only [Bool.false_eq_true, if_false, Bool.and_eq_true, decide_eq_true_eq] at h
        refine ⟨_, by rw [readInt_pos c r hc, if_pos]; simp [h.2]; simp at h; omega, ?_⟩
        have v := valOf_lt _ h.2
        have : (10 : Nat) ^ (c :: r).length ≤ 10 ^ 31 := Nat.pow_le_pow_right (by omega) h.1.2
        rw [big31_eq]
        simp only [Int.natAbs_natCast]
        exact Int.ofNat_lt.mpr (by omega)
  obtain ⟨i, h1, h2⟩ := k
  unfold intOf
  rw [h1]
  exact ⟨rfl, h2⟩
theorem digits_has (c : Nat) : ([48, 49, 50, 51, 52, 53, 54, 55, 56, 57] : List Nat).contains c = fig c := by
  by_cases h : c < 58
  · have : ∀ c, c < 58 → ([48, 49, 50, 51, 52, 53, 54, 55, 56, 57] : List Nat).contains c = fig c := by decide +kernel
    exact this c h
  · unfold fig
    rw [decide_eq_false (p := c ≤ 57) (by omega), Bool.and_false]
    rw [← Bool.not_eq_true]
    intro q
    simp at q
    omega
theorem sliceL_take1 (s : List Nat) : sliceL s none (some 1) = s.take 1 := by
  unfold sliceL ixL
  cases s <;> simp
theorem sliceL_drop1 (s : List Nat) : sliceL s (some 1) none = s.drop 1 := by
  unfold sliceL ixL
  cases s <;> simp
theorem slice_take1 (s : List Nat) : sliceD (.str s) none (some 1) = some (.str (s.take 1)) := by rw [sliceD, sliceL_take1]
theorem slice_drop1 (s : List Nat) : sliceD (.str s) (some 1) none = some (.str (s.drop 1)) := by rw [sliceD, sliceL_drop1]
section
variable {t : ThI} {p : Prog} {n : Nat} {h : Heap}
theorem plain_of_run (A : t.At p) (s : List Nat) (hf : Fine h) (hs : s.length ≤ line) : callN p (n + 2) t.f_plain_of [.d (.str s)] h = .ok (.d (.tup [.bl (plainOf s).1, (plainOf s).2])) h := by
  rw [callN_run A.plain_of rfl]
  have w := is_word_run (n := n) A (.str s) hf
  have l3 : decide (3 ≤ line) = true := by decide
  have l2 : decide (2 ≤ line) = true := by decide
  have s1 : idxD (.dct [.non, (.bl true), (.bl false)] [(.str [46]), (.str [43]), (.str [45])]) .non = some (.str [46]) := rfl
  have s2 : idxD (.dct [.non, (.bl true), (.bl false)] [(.str [46]), (.str [43]), (.str [45])]) (.bl true) = some (.str [43]) := rfl
  have s3 : idxD (.dct [.non, (.bl true), (.bl false)] [(.str [46]), (.str [43]), (.str [45])]) (.bl false) = some (.str [45]) := rfl
  unfold plainOf
  cases c1 : (s == [46]) with
  | true => simp [ThI.d_plain_of, startEnv, slotOf, setTg, setEnv, fits, l3, l2, A.g_SIGNS, s1, eqD_str, c1, forGo_cons, hf]
  | false =>
    cases c2 : (s == [43]) with
    | true => simp [ThI.d_plain_of, startEnv, slotOf, setTg, setEnv, fits, l3, l2, A.g_SIGNS, s1, s2, eqD_str, c1, c2, forGo_cons, hf]
    | false =>
      cases c3 : (s == [45]) with
      | true => simp [ThI.d_plain_of, startEnv, slotOf, setTg, setEnv, fits, l3, l2, A.g_SIGNS, s1, s2, s3, eqD_str, c1, c2, c3, forGo_cons, hf]
      | false =>
        cases c4 : isWordS s with
        | true => simp [ThI.d_plain_of, startEnv, slotOf, setTg, setEnv, fits, l3, l2, A.g_SIGNS, s1, s2, s3, eqD_str, c1, c2, c3, forGo_cons, forGo_nil, hf, w, isWord, c4]
        | false =>
          have cm : ∀ f : D → Heap → Res (Option D), (∀ x ∈ (figsOf s).map (fun c => D.str [c]), f x h = .ok (some (match x with | .str [c] => .bl (fig c) | _ => .non)) h) → compGo f ((figsOf s).map fun c => .str [c]) h = .ok ((figsOf s).map fun c => .bl (fig c)) h := by
            intro f e
            rw [compGo_map (g := fun x => match x with | .str [c] => .bl (fig c) | _ => .non) e, List.map_map]
            rfl
          have fl : (figsOf s).length ≤ line := by
            unfold figsOf
            by_cases q : s.take 1 = [45] <;> simp [q] <;> omega
          have k2 : (if s.take 1 = [45] then Res.ok (PV.d (D.str s.tail)) h else .ok (.d (.str s)) h) = Res.ok (PV.d (D.str (figsOf s))) h := by
            unfold figsOf
            by_cases q : s.take 1 = [45] <;> simp [q]
          by_cases h1 : (1 : Int) ≤ (figsOf s).length
          · by_cases h2 : ((figsOf s).length : Int) ≤ 31
            · have d1 : decide (1 ≤ (figsOf s).length) = true := by simp; omega
              have d2 : decide ((figsOf s).length ≤ 31) = true := by simp; omega
              have ok : figsOk s = (figsOf s).all fig := by unfold figsOk; rw [d1, d2]; rfl
              rw [ok]
              simp [ThI.d_plain_of, startEnv, slotOf, setTg, setEnv, fits, l3, l2, A.g_SIGNS, s1, s2, s3, eqD_str, c1, c2, c3, forGo_cons, forGo_nil, hf, w, isWord, c4, slice_take1, slice_drop1, k2, A.g_MOST_FIGURES, h1, h2, A.g_DIGITS, wipeE]
              rw [cm]
              · cases ha : (figsOf s).all fig with
                | true =>
                  rw [ha] at ok
                  obtain ⟨r1, r2⟩ := int_of ok
                  have lg := log_ok r2
                  have ha2 : ∀ x ∈ figsOf s, fig x = true := by simpa using ha
                  simp [fits, fl, ha2, ha, Function.comp_def, slotOf, r1, lg, eqD_str, l2, hf]
                  rw [if_pos ha2]
                  exact ⟨rfl, rfl⟩
                | false => 
                  have ha2 : ∃ x ∈ figsOf s, fig x = false := by simpa using ha
                  simp [fits, fl, ha2, ha, Function.comp_def, slotOf, l2, hf]
                  rw [if_neg (by intro z; obtain ⟨x, q1, q2⟩ := ha2; rw [z x q1] at q2; cases q2)]
                  exact ⟨rfl, rfl⟩
              · intro x hx
                obtain ⟨c, hc, rfl⟩ := List.mem_map.mp hx
                simp only [isin_sign, digits_has]
                simp
            · have d2 : decide ((figsOf s).length ≤ 31) = false := decide_eq_false (by omega)
              have ok : figsOk s = false := by unfold figsOk; rw [d2]; simp
              rw [ok]
              simp [ThI.d_plain_of, startEnv, slotOf, setTg, setEnv, fits, l3, l2, A.g_SIGNS, s1, s2, s3, eqD_str, c1, c2, c3, forGo_cons, forGo_nil, hf, w, isWord, c4, slice_take1, slice_drop1, k2, A.g_MOST_FIGURES, h1, h2, A.g_DIGITS, wipeE]
          · have d2 : decide (1 ≤ (figsOf s).length) = false := decide_eq_false (by omega)
            have ok : figsOk s = false := by unfold figsOk; rw [d2]; simp
            rw [ok]
            simp [ThI.d_plain_of, startEnv, slotOf, setTg, setEnv, fits, l3, l2, A.g_SIGNS, s1, s2, s3, eqD_str, c1, c2, c3, forGo_cons, forGo_nil, hf, w, isWord, c4, slice_take1, slice_drop1, k2, A.g_MOST_FIGURES, h1, A.g_DIGITS, wipeE]
end
end Ev
end
section
/-! EvTh7: written. -/
set_option autoImplicit false
set_option linter.all false
set_option maxRecDepth 100000
namespace Ev
/-! ### rows of cells -/
section
variable {H : Heap} {n m b : Nat} {l : List Nat}
theorem rw_last (e : H[n]? = some (.rws (l ++ [m]))) : idxGo (.ref n) (.int (-1)) H = .ok (.ref m) H := by
  simp only [idxGo, rwsOf, e]
  have : spot (l.length + 1) (-1) = some l.length := by
    unfold spot
    rw [if_neg (by omega), if_pos (by omega)]
    congr 1
    omega
  simp [this]
theorem rw_zero (e : H[n]? = some (.rws [m])) : idxGo (.ref n) (.int 0) H = .ok (.ref m) H := by
  simp [idxGo, rwsOf, e, spot]
theorem rw_pop (e : H[n]? = some (.rws (l ++ [m]))) (hb : b ≤ n) : mtGo b .pop (.ref n) [] H = .ok (.ref m) (H.set n (.rws l)) := by
  simp [mtGo, popGo, rwsOf, e, hb]
theorem rw_push {l : List Nat} (e : H[n]? = some (.rws l)) (hb : b ≤ n) (hm : b ≤ m) (hl : l.length < line) : mtGo b .append (.ref n) [.ref m] H = .ok (.d .non) (H.set n (.rws (l ++ [m]))) := by
  simp [mtGo, appGo, rwsOf, e, hb, hm, hl]
theorem mtK_rpop {l : List Nat} (e : H[n]? = some (.rws l)) : mtK .pop (.ref n) H = true := by simp [mtK, lstK, e]
theorem mtK_rapp {l : List Nat} (e : H[n]? = some (.rws l)) : mtK .append (.ref n) H = true := by simp [mtK, lstK, e]
theorem rw_len {l : List Nat} (e : H[n]? = some (.rws l)) : biGo .len [.ref n] H = .ok (.d (.int l.length)) H := by simp [biGo, biEl, rwsLen, e]
theorem tuple_ref {xs : List D} (e : H[n]? = some (.lst xs)) : biGo .tuple [.ref n] H = .ok (.d (.tup xs)) H := by simp [biGo, biEl, rwsLen, looks, look, view, e, fnD]
theorem look_ref {α : Type} {xs : List D} {k : D → Res α} (e : H[n]? = some (.lst xs)) : look (.ref n) H k = k (.lst xs) := by simp [look, view, e]
theorem frz_ref {xs : List D} (e : H[n]? = some (.lst xs)) : frzGo (.ref n) H = .ok (.d (.lst xs)) (H.set n .dead) := by simp [frzGo, e]
end
theorem Fine.set {H : Heap} {c : Cell} {n : Nat} (f : Fine H) (hc : fineC H.length c = true) : Fine (H.set n c) := by
  unfold Fine at f ⊢
  rw [List.length_set]
  refine List.all_eq_true.mpr fun d hd => ?_
  rcases List.mem_or_eq_of_mem_set hd with q | q
  · exact List.all_eq_true.mp f d q
  · rw [q]; exact hc
theorem eqD_int (i j : Int) : eqD (.int i) (.int j) = some (i == j) := rfl
/-! ### the reader, plainly -/
def wr : List (List Nat) → List (List D) → Bool → List D
  | [], rows, _ => match rows with | [r] => r | _ => []
  | s :: ps, rows, due =>
    if s == [32] then (if due || rows.length == 1 then [] else wr ps rows true)
    else if s == [41] then (match rows with | r :: q :: rs => if due && !nilB r then [] else wr ps ((q ++ [.tup r]) :: rs) false | _ => [])
    else if !due then []
    else if s == [40] then wr ps ([] :: rows) true
    else if !(plainOf s).1 then [] else (match rows with | r :: rs => wr ps ((r ++ [(plainOf s).2]) :: rs) false | [] => [])
def nsOf (h : Heap) (st : List (Nat × List D)) : List Nat := (st.map fun q => h.length + q.1).reverse
structure Inv (h e : Heap) (st : List (Nat × List D)) : Prop where
  top : e[1]? = some (.rws (nsOf h st))
  row : ∀ q ∈ st, e[q.1]? = some (.lst q.2)
  nodup : (st.map Prod.fst).Nodup
  fine : Fine (h ++ e)
theorem nsOf_cons (h : Heap) (q : Nat × List D) (st : List (Nat × List D)) : nsOf h (q :: st) = nsOf h st ++ [h.length + q.1] := by simp [nsOf]
@[simp] theorem nsOf_len (h : Heap) (st : List (Nat × List D)) : (nsOf h st).length = st.length := by simp [nsOf]
def ThI.wrBody (t : ThI) : List S := match t.d_written.body with
  | [_, .for _ _ _ b, _] => b
  | _ => []
def wrEnd : S := .ret (.ite (.cmp .eq (.bi .len [(.slot 1)]) (.lit (.int 1))) (.frz (.idx (.slot 1) (.lit (.int 0)))) (.lst false []))
theorem written_body (t : ThI) : t.d_written.body = [.par 1 2 (.rws (.lst true [])) (.lit (.bl true)), .for [3] .val [(.slot 0)] t.wrBody, wrEnd] := rfl
section
variable {t : ThI} {p : Prog} {n : Nat} {h e : Heap} {st : List (Nat × List D)}
theorem Inv.top' (I : Inv h e st) : (h ++ e)[h.length + 1]? = some (.rws (nsOf h st)) := by rw [cell_get]; exact I.top
theorem Inv.row' (I : Inv h e st) {q : Nat × List D} (hq : q ∈ st) : (h ++ e)[h.length + q.1]? = some (.lst q.2) := by rw [cell_get]; exact I.row q hq
theorem Inv.ne1 (I : Inv h e st) {q : Nat × List D} (hq : q ∈ st) : q.1 ≠ 1 := by
  intro z
  have := I.row q hq
  rw [z, I.top] at this
  cases this
theorem Inv.put (I : Inv h e st) {k : Nat} {r : List D} {rs : List (Nat × List D)} (hs : st = (k, r) :: rs) (r' : List D) : Inv h (e.set k (.lst r')) ((k, r') :: rs) := by
  subst hs
  have hk : e[k]? = some (.lst r) := I.row (k, r) (List.mem_cons_self ..)
  have kl : k < e.length := (List.getElem?_eq_some_iff.mp hk).1
  have k1 : k ≠ 1 := I.ne1 (q := (k, r)) (List.mem_cons_self ..)
  refine ⟨?_, ?_, I.nodup, ?_⟩
  · rw [List.getElem?_set_ne k1]; exact I.top
  · intro q hq
    rcases List.mem_cons.mp hq with rfl | hq
    · simp [kl]
    · have : q.1 ≠ k := by
        intro z
        have := (List.nodup_cons.mp I.nodup).1
        exact this (List.mem_map.mpr ⟨q, hq, z⟩)
      rw [List.getElem?_set_ne this.symm]
      exact I.row q (List.mem_cons_of_mem _ hq)
  · rw [← cell_set]; exact I.fine.set rfl
theorem Inv.push (I : Inv h e st) : Inv h ((e ++ [Cell.lst []]).set 1 (.rws (nsOf h ((e.length, []) :: st)))) ((e.length, []) :: st) := by
  have l1 : 1 < e.length := (List.getElem?_eq_some_iff.mp I.top).1
  have kl : ∀ q ∈ st, q.1 < e.length := fun q hq => (List.getElem?_eq_some_iff.mp (I.row q hq)).1
  refine ⟨List.getElem?_set_self (by rw [List.length_append]; omega), ?_, ?_, ?_⟩
  · intro q hq
    rcases List.mem_cons.mp hq with rfl | hq
    · rw [List.getElem?_set_ne (by omega)]; simp
    · rw [List.getElem?_set_ne (fun z => I.ne1 hq z.symm), List.getElem?_append_left (kl q hq)]
      exact I.row q hq
  · rw [List.map_cons, List.nodup_cons]
    refine ⟨fun z => ?_, I.nodup⟩
    obtain ⟨q, hq, z⟩ := List.mem_map.mp z
    have := kl q hq
    omega
  · rw [← cell_set, ← List.append_assoc]
    refine (I.fine.app rfl).set ?_
    simp only [fineC]
    refine List.all_eq_true.mpr fun m hm => ?_
    have hm : m ∈ (((e.length, []) :: st).map fun q => h.length + q.1) := List.mem_reverse.mp hm
    obtain ⟨q, hq, rfl⟩ := List.mem_map.mp hm
    have : q.1 ≤ e.length := by
      rcases List.mem_cons.mp hq with rfl | hq
      · exact Nat.le_refl _
      · exact Nat.le_of_lt (kl q hq)
    refine decide_eq_true ?_
    rw [List.length_append, List.length_append, List.length_singleton]
    omega
theorem Inv.pop (I : Inv h e st) {q : Nat × List D} {rs : List (Nat × List D)} (hs : st = q :: rs) : Inv h (e.set 1 (.rws (nsOf h rs))) rs := by
  subst hs
  have l1 : 1 < e.length := (List.getElem?_eq_some_iff.mp I.top).1
  refine ⟨List.getElem?_set_self l1, ?_, (List.nodup_cons.mp I.nodup).2, ?_⟩
  · intro r hr
    rw [List.getElem?_set_ne (fun z => I.ne1 (List.mem_cons_of_mem _ hr) z.symm)]
    exact I.row r (List.mem_cons_of_mem _ hr)
  · rw [← cell_set]
    refine I.fine.set ?_
    simp only [fineC]
    refine List.all_eq_true.mpr fun m hm => ?_
    have hm : m ∈ (rs.map fun q => h.length + q.1) := List.mem_reverse.mp hm
    obtain ⟨r, hr, rfl⟩ := List.mem_map.mp hm
    have := (List.getElem?_eq_some_iff.mp (I.row r (List.mem_cons_of_mem _ hr))).1
    refine decide_eq_true ?_
    rw [List.length_append]
    omega
abbrev wrEnv (h : Heap) (e0 : Option NV) (due : Bool) (s : List Nat) (e4 e5 e6 : Option NV) : Env := [e0, some (.v (.ref (h.length + 1))), some (.v (.d (.bl due))), some (.v (.d (.str s))), e4, e5, e6]
theorem wr_blank (A : t.At p) (I : Inv h e st) (e0 e4 e5 e6 : Option NV) (due : Bool) : evalSs (gAt p (n + 2) (fun _ => .bad) h.length) t.wrBody (wrEnv h e0 due [32] e4 e5 e6) (h ++ e) =
    if due || st.length == 1 then .ok (.ret (.d (.lst []))) (h ++ e) else .ok (.next (wrEnv h e0 true [32] e4 e5 e6)) (h ++ e) := by
  have l0 : decide (0 ≤ line) = true := by decide
  by_cases q : st.length = 1
  · cases due <;> simp [ThI.wrBody, ThI.d_written, slotOf, A.g_BLANK, eqD_str, rw_len I.top', eqD_int, q, fits, l0, setEnv, wrEnv]
  · have qi : ¬ (st.length : Int) = 1 := by omega
    cases due <;> simp [ThI.wrBody, ThI.d_written, slotOf, A.g_BLANK, eqD_str, rw_len I.top', eqD_int, q, qi, fits, l0, setEnv, wrEnv]
theorem wr_open (A : t.At p) (I : Inv h e st) (e0 e4 e5 e6 : Option NV) (hl : st.length < line) : evalSs (gAt p (n + 2) (fun _ => .bad) h.length) t.wrBody (wrEnv h e0 true [40] e4 e5 e6) (h ++ e) =
    .ok (.next (wrEnv h e0 true [40] e4 e5 e6)) (h ++ (e ++ [Cell.lst []]).set 1 (.rws (nsOf h ((e.length, []) :: st)))) := by
  have l0 : decide (0 ≤ line) = true := by decide
  have k : (h ++ (e ++ [Cell.lst []]))[h.length + 1]? = some (.rws (nsOf h st)) := by
    have := (List.getElem?_eq_some_iff.mp I.top).1
    rw [cell_get, List.getElem?_append_left this]; exact I.top
  have P := rw_push (b := h.length) (m := h.length + e.length) k (by omega) (by omega) (by simpa using hl)
  rw [cell_set] at P
  simp [ThI.wrBody, ThI.d_written, slotOf, A.g_BLANK, A.g_OPEN, A.g_CLOSE, eqD_str, fits, l0, setEnv, mtK_rapp I.top', P, nsOf_cons]
theorem wr_close1 (A : t.At p) (I : Inv h e st) (e0 e4 e5 e6 : Option NV) (due : Bool) (hs : st.length = 1) : evalSs (gAt p (n + 2) (fun _ => .bad) h.length) t.wrBody (wrEnv h e0 due [41] e4 e5 e6) (h ++ e) =
    .ok (.ret (.d (.lst []))) (h ++ e) := by
  have l0 : decide (0 ≤ line) = true := by decide
  simp [ThI.wrBody, ThI.d_written, slotOf, A.g_BLANK, A.g_CLOSE, eqD_str, rw_len I.top', eqD_int, hs, fits, l0, setEnv, wrEnv]
theorem wr_close2 (A : t.At p) (e0 e4 e5 e6 : Option NV) (due : Bool) (q r : Nat × List D) (rs : List (Nat × List D)) (I : Inv h e (q :: r :: rs)) (hl : r.2.length < line) : evalSs (gAt p (n + 2) (fun _ => .bad) h.length) t.wrBody (wrEnv h e0 due [41] e4 e5 e6) (h ++ e) =
    if due && !nilB q.2 then .ok (.ret (.d (.lst []))) (h ++ e) else .ok (.next (wrEnv h e0 false [41] (some (.v (.d (.tup q.2)))) e5 e6)) (h ++ (e.set 1 (.rws (nsOf h (r :: rs)))).set r.1 (.lst (r.2 ++ [.tup q.2]))) := by
  have l0 : decide (0 ≤ line) = true := by decide
  have t1 := I.top'
  have r1 := I.row' (q := q) (List.mem_cons_self ..)
  have I2 := I.pop rfl
  have t2 := I2.top'
  have r2 := I2.row' (q := r) (List.mem_cons_self ..)
  have hn : ¬ ((rs.length : Int) + 1 + 1 = 1) := by omega
  rw [nsOf_cons] at t1
  have P := rw_pop (b := h.length) t1 (by omega)
  rw [cell_set] at P
  have Q := rw_last t1
  have Q2 : idxGo (.ref (h.length + 1)) (.int (-1)) (h ++ e.set 1 (.rws (nsOf h (r :: rs)))) = .ok (.ref (h.length + r.1)) (h ++ e.set 1 (.rws (nsOf h (r :: rs)))) := rw_last (l := nsOf h rs) (by rw [← nsOf_cons]; exact t2)
  have r3 : (h ++ e.set 1 (.rws (nsOf h (r :: rs))))[h.length + q.1]? = some (.lst q.2) := by
    rw [cell_get, List.getElem?_set_ne (fun z => I.ne1 (List.mem_cons_self ..) z.symm)]
    exact I.row q (List.mem_cons_self ..)
  have M := app_run (b := h.length) (x := .tup q.2) r2 hl
  rw [cell_set] at M
  cases due <;> cases hq : nilB q.2 <;> simp [ThI.wrBody, ThI.d_written, slotOf, A.g_BLANK, A.g_CLOSE, eqD_str, rw_len t1, eqD_int, hn, fits, l0, setEnv, wrEnv, Q, look_ref r1, eqD_nilL, hq, mtK_rpop t1, P, tuple_ref r3, Q2, mtK_app r2, M]
theorem wr_notdue (A : t.At p) (e0 e4 e5 e6 : Option NV) (s : List Nat) (s1 : (s == [32]) = false) (s2 : (s == [41]) = false) : evalSs (gAt p (n + 2) (fun _ => .bad) h.length) t.wrBody (wrEnv h e0 false s e4 e5 e6) (h ++ e) =
    .ok (.ret (.d (.lst []))) (h ++ e) := by
  have l0 : decide (0 ≤ line) = true := by decide
  simp [ThI.wrBody, ThI.d_written, slotOf, A.g_BLANK, A.g_CLOSE, eqD_str, s1, s2, fits, l0, setEnv, wrEnv]
theorem wr_plain (A : t.At p) (e0 e4 e5 e6 : Option NV) (s : List Nat) (hs : s.length ≤ line) (s1 : (s == [32]) = false) (s2 : (s == [41]) = false) (s3 : (s == [40]) = false) (r : Nat × List D) (rs : List (Nat × List D)) (I : Inv h e (r :: rs)) (hl : r.2.length < line) :
    evalSs (gAt p (n + 2) (fun _ => .bad) h.length) t.wrBody (wrEnv h e0 true s e4 e5 e6) (h ++ e) =
    if !(plainOf s).1 then .ok (.ret (.d (.lst []))) (h ++ e) else .ok (.next (wrEnv h e0 false s e4 (some (.v (.d (.bl true)))) (some (.v (.d (plainOf s).2))))) (h ++ e.set r.1 (.lst (r.2 ++ [(plainOf s).2]))) := by
  have l0 : decide (0 ≤ line) = true := by decide
  have P := plain_of_run (n := n) A s I.fine hs
  have t2 := I.top'
  have r2 := I.row' (q := r) (List.mem_cons_self ..)
  rw [nsOf_cons] at t2
  have Q2 := rw_last t2
  have M := app_run (b := h.length) (x := (plainOf s).2) r2 hl
  rw [cell_set] at M
  cases hq : (plainOf s).1 <;> simp [ThI.wrBody, ThI.d_written, slotOf, A.g_BLANK, A.g_CLOSE, A.g_OPEN, eqD_str, s1, s2, s3, fits, l0, setEnv, setEnvs, wrEnv, P, hq, Q2, mtK_app r2, M]
end
end Ev
end
section
/-! EvTh8: read_thing. -/
set_option autoImplicit false
set_option linter.all false
set_option maxRecDepth 100000
namespace Ev
theorem wr_cons (s : List Nat) (ps : List (List Nat)) (rows : List (List D)) (due : Bool) : wr (s :: ps) rows due =
    if s == [32] then (if due || rows.length == 1 then [] else wr ps rows true)
    else if s == [41] then (match rows with | r :: q :: rs => if due && !nilB r then [] else wr ps ((q ++ [.tup r]) :: rs) false | _ => [])
    else if !due then []
    else if s == [40] then wr ps ([] :: rows) true
    else if !(plainOf s).1 then [] else (match rows with | r :: rs => wr ps ((r ++ [(plainOf s).2]) :: rs) false | [] => []) := by rfl
section
variable {t : ThI} {p : Prog} {n : Nat} {h : Heap}
theorem wr_end (e : Heap) (st : List (Nat × List D)) (I : Inv h e st) (due : Bool) (g : G) (e0 e2 e3 e4 e5 e6 : Option NV) :
    ∃ e', evalSs g [wrEnd] [e0, some (.v (.ref (h.length + 1))), e2, e3, e4, e5, e6] (h ++ e) = .ok (.ret (.d (.lst (wr [] (st.map (·.2)) due)))) (h ++ e') := by
  have l0 : decide (0 ≤ line) = true := by decide
  by_cases hs : st.length = 1
  · obtain ⟨q, rfl⟩ := List.length_eq_one_iff.mp hs
    have t1 := I.top'
    have r1 := I.row' (q := q) (List.mem_cons_self ..)
    have Q := rw_zero (H := h ++ e) (n := h.length + 1) (m := h.length + q.1) t1
    refine ⟨e.set q.1 .dead, ?_⟩
    simp [wrEnd, slotOf, rw_len t1, eqD_int, Q, frz_ref r1, wr]
  · have qi : ¬ (st.length : Int) = 1 := by omega
    refine ⟨e, ?_⟩
    have : wr [] (st.map (·.2)) due = [] := by
      rcases st with _ | ⟨a, _ | ⟨b, r⟩⟩
      · rfl
      · exact absurd rfl hs
      · rfl
    rw [this]
    simp [wrEnd, slotOf, rw_len I.top', eqD_int, qi, fits, l0]
theorem wr_loop (A : t.At p) (e0 : Option NV) : ∀ (ps : List (List Nat)) (e : Heap) (st : List (Nat × List D)) (due : Bool) (e3 e4 e5 e6 : Option NV), Inv h e st → st ≠ [] → (∀ s ∈ ps, s.length ≤ line) → st.length + ps.length < line → (∀ q ∈ st, q.2.length + ps.length < line) →
    ∃ e' : Heap, ((forGo (fun x env h' => opt (setTg env [3] x) fun env' => evalSs (gAt p (n + 2) (fun _ => .bad) h.length) t.wrBody env' h') (ps.map .str) [e0, some (.v (.ref (h.length + 1))), some (.v (.d (.bl due))), e3, e4, e5, e6] (h ++ e)).nxt fun env' h1 => evalSs (gAt p (n + 2) (fun _ => .bad) h.length) [wrEnd] env' h1) =
      .ok (.ret (.d (.lst (wr ps (st.map (·.2)) due)))) (h ++ e')
  | [], e, st, due, e3, e4, e5, e6, I, hn, hp, hl, hr => by
    rw [List.map_nil, forGo_nil, nxt_next]
    exact wr_end e st I due _ _ _ _ _ _ _
  | s :: ps, e, st, due, e3, e4, e5, e6, I, hn, hp, hl, hr => by
    rw [List.map_cons, forGo_cons]
    simp only [List.length_cons] at hl hr
    have hp' : ∀ s ∈ ps, s.length ≤ line := fun x hx => hp x (List.mem_cons_of_mem _ hx)
    have hs := hp s (List.mem_cons_self ..)
    have tg : setTg [e0, some (.v (.ref (h.length + 1))), some (.v (.d (.bl due))), e3, e4, e5, e6] [3] (.str s) = some (wrEnv h e0 due s e4 e5 e6) := rfl
    rw [tg, opt_some, wr_cons]
    by_cases c1 : s = [32]
    · subst c1
      rw [wr_blank A I, if_pos (beq_self_eq_true _), List.length_map]
      by_cases q : (due || st.length == 1) = true
      · rw [if_pos q, if_pos q]
        exact ⟨e, rfl⟩
      · rw [if_neg q, if_neg q, nxt_next]
        exact wr_loop A e0 ps e st true _ _ _ _ I hn hp' (by omega) fun q hq => by have := hr q hq; omega
    · have s1 : (s == [32]) = false := by simpa using c1
      rw [s1, if_neg (by simp)]
      by_cases c2 : s = [41]
      · subst c2
        rw [if_pos (beq_self_eq_true _)]
        rcases st with _ | ⟨q, _ | ⟨r, rs⟩⟩
        · exact absurd rfl hn
        · rw [wr_close1 A I _ _ _ _ _ rfl, nxt_ret]
          exact ⟨e, rfl⟩
        · have hr2 := hr r (by simp)
          have hq2 := hr q (by simp)
          rw [wr_close2 A _ _ _ _ _ q r rs I (by omega)]
          simp only [List.map_cons]
          by_cases z : (due && !nilB q.2) = true
          · rw [if_pos z, if_pos z]
            exact ⟨e, rfl⟩
          · rw [if_neg z, if_neg z, nxt_next]
            have I2 := (I.pop rfl).put (k := r.1) (r := r.2) rfl (r.2 ++ [.tup q.2])
            have := wr_loop A e0 ps _ _ false (some (.v (.d (.str [41])))) (some (.v (.d (.tup q.2)))) e5 e6 I2 (by simp) hp' (by simp at hl ⊢; omega) (fun x hx => by
              rcases List.mem_cons.mp hx with rfl | hx
              · simp; omega
              · have := hr x (by simp [hx]); omega)
            exact this
      · have s2 : (s == [41]) = false := by simpa using c2
        rw [s2, if_neg (by simp)]
        cases due with
        | false =>
          rw [wr_notdue A _ _ _ _ s s1 s2, nxt_ret]
          exact ⟨e, rfl⟩
        | true =>
          rw [if_neg (by simp)]
          by_cases c3 : s = [40]
          · subst c3
            rw [if_pos (beq_self_eq_true _), wr_open A I _ _ _ _ (by omega), nxt_next]
            exact wr_loop A e0 ps _ _ true _ _ _ _ I.push (by simp) hp' (by simp; omega) (fun x hx => by
              rcases List.mem_cons.mp hx with rfl | hx
              · simp; omega
              · have := hr x hx; omega)
          · have s3 : (s == [40]) = false := by simpa using c3
            rw [s3, if_neg (by simp)]
            rcases st with _ | ⟨r, rs⟩
            · exact absurd rfl hn
            · have hr2 := hr r (by simp)
              rw [wr_plain A _ _ _ _ s hs s1 s2 s3 r rs I (by omega)]
              by_cases z : (!(plainOf s).1) = true
              · rw [if_pos z, if_pos z]
                exact ⟨e, rfl⟩
              · rw [if_neg z, if_neg z, nxt_next]
                have I2 := I.put (k := r.1) (r := r.2) rfl (r.2 ++ [(plainOf s).2])
                exact wr_loop A e0 ps _ _ false _ _ _ _ I2 (by simp) hp' (by simp at hl ⊢; omega) (fun x hx => by
                  rcases List.mem_cons.mp hx with rfl | hx
                  · simp; omega
                  · have := hr x (by simp [hx]); omega)
theorem written_run (A : t.At p) (ps : List (List Nat)) (hf : Fine h) (hp : ∀ s ∈ ps, s.length ≤ line) (hl : ps.length + 1 < line) : callN p (n + 3) t.f_written [.d (.lst (ps.map .str))] h = .ok (.d (.lst (wr ps [[]] true))) h := by
  rw [callN_run A.written rfl, written_body]
  have l0 : decide (0 ≤ line) = true := by decide
  have I : Inv h [.lst [], .rws [h.length]] [(0, [])] := by
    refine ⟨rfl, ?_, by simp, ?_⟩
    · intro q hq
      have : q = (0, []) := by simpa using hq
      subst this
      rfl
    · rw [show h ++ [Cell.lst [], Cell.rws [h.length]] = (h ++ [Cell.lst [], Cell.dead]).set (h.length + 1) (.rws [h.length]) by rw [cell_set]; rfl]
      refine (hf.app rfl).set ?_
      simp [fineC]
  obtain ⟨e', q⟩ := wr_loop (n := n) A (some (.v (.d (.lst (ps.map .str))))) ps _ _ true none none none none I (by simp) hp (by simp; omega) (by simp; omega)
  simp [startEnv, slotOf, setEnv, show t.d_written.ns = 7 from rfl, show t.d_written.ps = 1 from rfl, fits, l0]
  simp at q
  rw [q]
  simp [leave_ext hf]
end
end Ev
end
section
/-! EvTh9: read_thing. -/
set_option autoImplicit false
set_option linter.all false
set_option maxRecDepth 100000
namespace Ev
theorem endP_len (piece : List Nat) : (endP piece).length ≤ 1 := by unfold endP; split <;> simp
theorem parts_len : ∀ (s piece : List Nat), (partsGo s piece).length ≤ 2 * s.length + 1
  | [], piece => by rw [partsGo]; have := endP_len piece; simp; omega
  | c :: r, piece => by
    rw [partsGo]
    have := endP_len piece
    split
    · have := parts_len r []
      simp; omega
    · have := parts_len r (piece ++ [c])
      simp; omega
theorem parts_each : ∀ (s piece : List Nat), ∀ q ∈ partsGo s piece, q.length ≤ piece.length + s.length
  | [], piece => by
    intro q hq
    rw [partsGo] at hq
    unfold endP at hq
    split at hq
    · cases hq
    · simp at hq; subst hq; simp
  | c :: r, piece => by
    intro q hq
    rw [partsGo] at hq
    split at hq
    · rcases List.mem_append.mp hq with hq | hq
      · unfold endP at hq
        split at hq
        · cases hq
        · simp at hq; subst hq; simp
      · rcases List.mem_cons.mp hq with rfl | hq
        · simp; omega
        · have := parts_each r [] q hq
          simp at this ⊢; omega
    · have := parts_each r (piece ++ [c]) q hq
      simp at this ⊢; omega
theorem plainOf_nodes (s : List Nat) : nodes (plainOf s).2 = 1 := by
  unfold plainOf
  split
  · simp [nodes]
  · split
    · simp [nodes]
    · split
      · simp [nodes]
      · split
        · simp [nodes]
        · split <;> simp [nodes]
theorem wr_nodes : ∀ (ps : List (List Nat)) (rows : List (List D)) (due : Bool), nodesL (wr ps rows due) ≤ (rows.map nodesL).sum + ps.length
  | [], rows, due => by
    rcases rows with _ | ⟨a, _ | ⟨b, r⟩⟩ <;> simp [wr, nodesL]
  | s :: ps, rows, due => by
    rw [wr_cons, List.length_cons]
    split
    · split
      · simp [nodesL]
      · have := wr_nodes ps rows true
        omega
    · split
      · rcases rows with _ | ⟨a, _ | ⟨b, r⟩⟩
        · simp [nodesL]
        · simp [nodesL]
        · dsimp only
          split
          · simp [nodesL]
          · have := wr_nodes ps ((b ++ [.tup a]) :: r) false
            simp [nodesL_append, nodesL, nodes] at this ⊢
            omega
      · split
        · simp [nodesL]
        · split
          · have := wr_nodes ps ([] :: rows) true
            simp [nodesL] at this
            omega
          · split
            · simp [nodesL]
            · rcases rows with _ | ⟨a, r⟩
              · simp [nodesL]
              · have := wr_nodes ps ((a ++ [(plainOf s).2]) :: r) false
                simp [nodesL_append, nodesL, plainOf_nodes] at this ⊢
                omega
def readT (s : List Nat) : Option D := match wr (parts s) [[]] true with
  | [x] => if isThing x then some x else none
  | _ => none
def resT (t : ThI) (h : Heap) : Option D → Res PV
  | some x => .ok (.d x) h
  | none => .exc t.x_BadText [.int 1] h
section
variable {t : ThI} {p : Prog} {n : Nat} {h : Heap}
theorem read_thing_run (A : t.At p) (s : List Nat) (hf : Fine h) (hs : 2 * s.length + 2 < line) : callN p (n + 4) t.f_read_thing [.d (.str s)] h = resT t h (readT s) := by
  rw [callN_run A.read_thing rfl]
  have p1 := parts_of_run (n := n + 2) A s hf hs
  have hl := parts_len s []
  have p2 := written_run (n := n) A (parts s) hf (fun q hq => by have := parts_each s [] q hq; simp at this; omega) (by unfold parts; omega)
  have hn := wr_nodes (parts s) [[]] true
  unfold readT
  generalize wr (parts s) [[]] true = f at p2 hn
  unfold parts at hn
  simp [nodesL] at hn
  rcases f with _ | ⟨x, _ | ⟨y, r⟩⟩
  · simp [ThI.d_read_thing, startEnv, slotOf, p1, p2, setEnv, eqD_int, hf, resT]
  · simp [nodesL] at hn
    have p3 := is_thing_run (n := n) A x hf (by omega)
    cases hx : isThing x <;> simp [ThI.d_read_thing, startEnv, slotOf, p1, p2, p3, hx, setEnv, eqD_int, hf, resT, seqAt, spot]
  · have qi : ¬ ((r.length : Int) + 1 + 1 = 1) := by omega
    simp [ThI.d_read_thing, startEnv, slotOf, p1, p2, setEnv, eqD_int, qi, hf, resT]
theorem read_thing_odd (A : t.At p) (x : D) (hx : x.isa .str = false) (hf : Fine h) : callN p (n + 1) t.f_read_thing [.d x] h = .exc t.x_BadText [.int 0] h := by
  rw [callN_run A.read_thing rfl]
  simp [ThI.d_read_thing, startEnv, slotOf, hx, hf]
end
end Ev
end
section
/-! EvTh10: a thing's text reads back. -/
set_option autoImplicit false
set_option linter.all false
set_option maxRecDepth 100000
namespace Ev
theorem mark_fig {c : Nat} (h : fig c = true) : mark c = false := by
  simp [fig] at h
  simp [mark]
  omega
theorem mark_lower {c : Nat} (h : lower c = true) : mark c = false := by
  simp [lower] at h
  simp [mark]
  omega
/-- the signs of a plain thing are no marks -/
theorem ptext_signs {x : D} (h : isPlain x = true) : ∀ c ∈ ptext x, mark c = false := by
  cases x with
  | non => decide
  | bl b => cases b <;> decide
  | int i =>
    intro c hc
    have ha := digits_fig i.natAbs
    have ha2 : ∀ c ∈ digits i.natAbs, fig c = true := by simpa using ha
    have hc : c ∈ intText i := hc
    unfold intText at hc
    split at hc
    · rcases List.mem_cons.mp hc with rfl | hc
      · rfl
      · exact mark_fig (ha2 c hc)
    · exact mark_fig (ha2 c hc)
  | str s =>
    intro c hc
    simp [isPlain, isWordS] at h
    exact mark_lower (h.2 c hc)
  | tup _ => cases h
  | lst _ => cases h
  | dct _ _ => cases h
theorem ptext_ne {x : D} (h : isPlain x = true) : ptext x ≠ [] := by
  cases x with
  | non => simp [ptext]
  | bl b => cases b <;> simp [ptext]
  | int i =>
    have hp := digits_pos i.natAbs
    show intText i ≠ []
    unfold intText
    intro e
    split at e
    · cases e
    · rw [e] at hp; simp at hp
  | str s =>
    simp [isPlain, isWordS] at h
    intro e
    simp [ptext] at e
    subst e
    simp at h
  | tup _ => cases h
  | lst _ => cases h
  | dct _ _ => cases h
theorem figsOf_int (i : Int) : figsOf (intText i) = digits i.natAbs := by
  unfold figsOf intText
  by_cases h : i < 0
  · simp [h]
  · rw [if_neg h]
    cases hd : digits i.natAbs with
    | nil => simp
    | cons c r =>
      have hc := digits_ne45 _ _ _ hd
      have hc2 : c ≠ 45 := by intro e; subst e; simp [fig] at hc
      simp [hc2]
theorem plainOf_ptext {x : D} (h : isPlain x = true) : plainOf (ptext x) = (true, x) := by
  cases x with
  | non => rfl
  | bl b => cases b <;> rfl
  | int i =>
    have hb : (i.natAbs : Int) < big31 := by simpa [isPlain] using h
    have hl := figs_len hb
    have hp := digits_pos i.natAbs
    have ha := digits_fig i.natAbs
    have ha2 : ∀ c ∈ digits i.natAbs, fig c = true := by simpa using ha
    show plainOf (intText i) = (true, .int i)
    have ok : figsOk (intText i) = true := by
      unfold figsOk
      rw [figsOf_int, ha, decide_eq_true hl, decide_eq_true hp]
      rfl
    have iv : intOf (intText i) = i := by unfold intOf; rw [readInt_intText (by omega)]; rfl
    have nf : ∀ c : Nat, mark c = false → fig c = false → c ≠ 45 → intText i ≠ [c] := by
      intro c _ h2 h3 e
      unfold intText at e
      split at e
      · injection e with e1 e2; exact h3 e1.symm
      · have := ha2 c (by rw [e]; simp)
        rw [h2] at this; cases this
    have n1 : (intText i == [46]) = false := by simpa using nf 46 rfl rfl (by decide)
    have n2 : (intText i == [43]) = false := by simpa using nf 43 rfl rfl (by decide)
    have n3 : (intText i == [45]) = false := by
      rw [beq_eq_false_iff_ne]
      intro e
      have := figsOf_int i
      rw [e] at this
      rw [show figsOf [45] = [] from rfl] at this
      rw [← this] at hp
      simp at hp
    have n4 : isWordS (intText i) = false := by
      rw [← Bool.not_eq_true]
      intro q
      simp [isWordS] at q
      have q2 := q.2
      unfold intText at q2
      split at q2
      · have := q2 45 (by simp)
        simp [lower] at this
      · obtain ⟨c, r, hd⟩ : ∃ c r, digits i.natAbs = c :: r := by
          cases hd : digits i.natAbs with
          | nil => rw [hd] at hp; simp at hp
          | cons c r => exact ⟨c, r, rfl⟩
        have z1 := q2 c (by rw [hd]; simp)
        have z2 := ha2 c (by rw [hd]; simp)
        simp [lower] at z1
        simp [fig] at z2
        omega
    unfold plainOf
    rw [n1, n2, n3, n4, ok, iv]
    simp
  | str s =>
    show plainOf s = _
    have hw : isWordS s = true := h
    have nf : ∀ c : Nat, lower c = false → s ≠ [c] := by
      intro c hc e
      simp [isWordS] at hw
      have := hw.2 c (by rw [e]; simp)
      rw [hc] at this; cases this
    have n1 : (s == [46]) = false := by simpa using nf 46 rfl
    have n2 : (s == [43]) = false := by simpa using nf 43 rfl
    have n3 : (s == [45]) = false := by simpa using nf 45 rfl
    unfold plainOf
    rw [n1, n2, n3, hw]
    simp
  | tup _ => cases h
  | lst _ => cases h
  | dct _ _ => cases h
mutual
def toks : D → List (List Nat)
  | .tup xs => [40] :: (toksj xs ++ [[41]])
  | .non => [ptext .non]
  | .bl b => [ptext (.bl b)]
  | .int i => [ptext (.int i)]
  | .str s => [ptext (.str s)]
  | _ => []
def toksj : List D → List (List Nat)
  | [] => []
  | x :: xs => toks x ++ toksr xs
def toksr : List D → List (List Nat)
  | [] => []
  | x :: xs => [32] :: (toks x ++ toksr xs)
end
def ends (s : List Nat) : Bool := match s with | [] => true | c :: _ => mark c
theorem parts_piece : ∀ (w s piece : List Nat), (∀ c ∈ w, mark c = false) → partsGo (w ++ s) piece = partsGo s (piece ++ w)
  | [], s, piece, _ => by simp
  | c :: w, s, piece, h => by
    rw [List.cons_append, partsGo, h c (by simp), if_neg (by simp), parts_piece w s _ fun c hc => h c (by simp [hc])]
    simp
theorem parts_end {s w : List Nat} (h : ends s = true) : partsGo s w = endP w ++ partsGo s [] := by
  cases s with
  | nil => simp [partsGo, endP]
  | cons c r =>
    have h : mark c = true := h
    rw [partsGo, partsGo, h]
    simp [endP]
theorem parts_leaf {x : D} (h : isPlain x = true) {s : List Nat} (hs : ends s = true) : partsGo (ptext x ++ s) [] = ptext x :: partsGo s [] := by
  rw [parts_piece _ _ _ (ptext_signs h), parts_end hs]
  have : (ptext x == []) = false := by simpa using ptext_ne h
  simp [endP, this]
theorem parts_mark {c : Nat} (hc : mark c = true) (s : List Nat) : partsGo (c :: s) [] = [c] :: partsGo s [] := by
  rw [partsGo, hc]
  simp [endP]
theorem ends_r {xs : List D} {s : List Nat} (hs : ends s = true) : ends (txtr xs ++ s) = true := by
  cases xs with
  | nil => simpa [txtr] using hs
  | cons x xs => simp [txtr, ends, mark]
mutual
theorem parts_txt : ∀ (x : D) (s : List Nat), allPlain x = true → ends s = true → partsGo (txt x ++ s) [] = toks x ++ partsGo s []
  | .tup xs, s, h, hs => by
    rw [allPlain] at h
    rw [txt, toks, List.cons_append, parts_mark rfl, List.append_assoc, parts_txtj xs _ h rfl]
    simp [parts_mark (c := 41) rfl]
  | .non, s, h, hs => by rw [txt_leaf rfl, parts_leaf rfl hs, toks]; rfl
  | .bl b, s, h, hs => by rw [txt_leaf rfl, parts_leaf rfl hs, toks]; rfl
  | .int i, s, h, hs => by rw [allPlain_leaf rfl] at h; rw [txt_leaf rfl, parts_leaf h hs, toks]; rfl
  | .str i, s, h, hs => by rw [allPlain_leaf rfl] at h; rw [txt_leaf rfl, parts_leaf h hs, toks]; rfl
  | .lst _, _, h, _ => by simp [allPlain] at h
  | .dct _ _, _, h, _ => by simp [allPlain] at h
theorem parts_txtj : ∀ (xs : List D) (s : List Nat), allPlains xs = true → ends s = true → partsGo (txtj xs ++ s) [] = toksj xs ++ partsGo s []
  | [], s, h, hs => by simp [txtj, toksj]
  | x :: xs, s, h, hs => by
    rw [allPlains, Bool.and_eq_true] at h
    rw [txtj, toksj, List.append_assoc, parts_txt x _ h.1 (ends_r hs), parts_txtr xs s h.2 hs, List.append_assoc]
theorem parts_txtr : ∀ (xs : List D) (s : List Nat), allPlains xs = true → ends s = true → partsGo (txtr xs ++ s) [] = toksr xs ++ partsGo s []
  | [], s, h, hs => by simp [txtr, toksr]
  | x :: xs, s, h, hs => by
    rw [allPlains, Bool.and_eq_true] at h
    rw [txtr, toksr, List.cons_append, parts_mark rfl, List.append_assoc, parts_txt x _ h.1 (ends_r hs), parts_txtr xs s h.2 hs, List.cons_append, List.append_assoc]
end
theorem wr_leaf {x : D} (h : isPlain x = true) (ps : List (List Nat)) (r : List D) (rs : List (List D)) : wr (ptext x :: ps) (r :: rs) true = wr ps ((r ++ [x]) :: rs) false := by
  have nf : ∀ c : Nat, mark c = true → ptext x ≠ [c] := by
    intro c hc e
    have := ptext_signs h c (by rw [e]; simp)
    rw [hc] at this; cases this
  have n1 : (ptext x == [32]) = false := by simpa using nf 32 rfl
  have n2 : (ptext x == [41]) = false := by simpa using nf 41 rfl
  have n3 : (ptext x == [40]) = false := by simpa using nf 40 rfl
  rw [wr_cons, n1, n2, n3, plainOf_ptext h]
  simp
mutual
theorem wr_toks : ∀ (x : D) (ps : List (List Nat)) (r : List D) (rs : List (List D)), allPlain x = true → wr (toks x ++ ps) (r :: rs) true = wr ps ((r ++ [x]) :: rs) false
  | .tup xs, ps, r, rs, h => by
    rw [allPlain] at h
    rw [toks, List.cons_append, wr_cons]
    simp only [List.append_assoc, List.cons_append, List.nil_append]
    rw [if_neg (by decide), if_neg (by decide), if_neg (by decide), if_pos (by decide)]
    cases xs with
    | nil =>
      rw [toksj, List.nil_append, wr_cons]
      rw [if_neg (by decide), if_pos (by decide)]
      rfl
    | cons x xs =>
      rw [allPlains, Bool.and_eq_true] at h
      rw [toksj, List.append_assoc, wr_toks x _ _ _ h.1, wr_toksr xs _ _ _ _ h.2, wr_cons]
      rw [if_neg (by decide), if_pos (by decide)]
      simp
  | .non, ps, r, rs, h => by rw [toks]; exact wr_leaf rfl ps r rs
  | .bl b, ps, r, rs, h => by rw [toks]; exact wr_leaf rfl ps r rs
  | .int i, ps, r, rs, h => by rw [allPlain_leaf rfl] at h; rw [toks]; exact wr_leaf h ps r rs
  | .str i, ps, r, rs, h => by rw [allPlain_leaf rfl] at h; rw [toks]; exact wr_leaf h ps r rs
  | .lst _, _, _, _, h => by simp [allPlain] at h
  | .dct _ _, _, _, _, h => by simp [allPlain] at h
theorem wr_toksr : ∀ (xs : List D) (ps : List (List Nat)) (r q : List D) (rs : List (List D)), allPlains xs = true → wr (toksr xs ++ ps) (r :: q :: rs) false = wr ps ((r ++ xs) :: q :: rs) false
  | [], ps, r, q, rs, h => by simp [toksr]
  | x :: xs, ps, r, q, rs, h => by
    rw [allPlains, Bool.and_eq_true] at h
    rw [toksr, List.cons_append, wr_cons]
    rw [if_pos (by decide), if_neg (by simp), List.append_assoc, wr_toks x _ _ _ h.1, wr_toksr xs _ _ _ _ h.2]
    simp
end
theorem read_txt {x : D} (h : isThing x = true) : readT (txt x) = some x := by
  obtain ⟨h1, h2, h3⟩ := isThing_plain h
  unfold readT parts
  have e := parts_txt x [] h1 rfl
  have e2 : partsGo [] [] = [] := rfl
  rw [e2, List.append_nil] at e
  rw [e, wr_toks x [] [] [] h1]
  simp [wr, h]
theorem txt_inj {x y : D} (hx : isThing x = true) (hy : isThing y = true) (h : txt x = txt y) : x = y := by
  have a := read_txt hx
  rw [h, read_txt hy] at a
  exact (Option.some.inj a).symm
end Ev
end
section
/-! EvRp: repr of things. -/
set_option autoImplicit false
set_option linter.all false
set_option maxRecDepth 100000
namespace Ev
mutual
def rp : D → List Nat
  | .tup xs => 40 :: rpj xs
  | .non => [78, 111, 110, 101]
  | .bl b => if b then [84, 114, 117, 101] else [70, 97, 108, 115, 101]
  | .int i => intText i
  | .str s => 39 :: (s ++ [39])
  | _ => []
def rpj : List D → List Nat
  | [] => [41]
  | x :: xs => rp x ++ (if nilB xs then [44, 41] else rpr xs)
def rpr : List D → List Nat
  | [] => [41]
  | x :: xs => 44 :: 32 :: (rp x ++ rpr xs)
end
theorem word_signs {s : List Nat} (h : isWordS s = true) : s.all signOk = true ∧ escT s = s := by
  simp [isWordS] at h
  have h2 := h.2
  clear h
  induction s with
  | nil => exact ⟨rfl, rfl⟩
  | cons c s ih =>
    have hc := h2 c (by simp)
    have := ih fun x hx => h2 x (by simp [hx])
    simp [lower] at hc
    refine ⟨?_, ?_⟩
    · rw [List.all_cons, this.1, Bool.and_true]
      simp [signOk, plainSign]
      omega
    · unfold escT at this ⊢
      rw [List.flatMap_cons, this.2]
      have : c ≠ 10 := by omega
      simp [escS, this]
theorem sep_rpr (x : D) : ∀ xs : List D, sepT ((x :: xs).map rp) ++ [41] = rp x ++ rpr xs := by
  intro xs
  induction xs generalizing x with
  | nil => simp [sepT, joinT, rpr]
  | cons y ys ih =>
    have := ih y
    unfold sepT at this ⊢
    simp only [List.map_cons] at this ⊢
    rw [joinT, rpr, ← this]
    simp
mutual
theorem shown_plain : ∀ {x : D}, allPlain x = true → shown x = some (rp x)
  | .tup xs, h => by
    rw [allPlain] at h
    rw [shown, showns_plain h]
    rcases xs with _ | ⟨a, _ | ⟨b, r⟩⟩
    · rfl
    · rw [rp, rpj]; rfl
    · have := sep_rpr a (b :: r)
      rw [rp, rpj]
      simp only [List.map_cons] at this ⊢
      simp only [nilB, List.isEmpty_cons, Bool.false_eq_true, if_false]
      rw [← this]
  | .non, _ => rfl
  | .bl true, _ => rfl
  | .bl false, _ => rfl
  | .int i, h => by
    rw [allPlain] at h
    rw [shown, if_pos (log_ok (of_decide_eq_true h)), rp]
  | .str s, h => by
    rw [allPlain] at h
    have := word_signs h
    rw [shown, if_pos this.1, this.2, rp]
  | .lst _, h => by simp [allPlain] at h
  | .dct _ _, h => by simp [allPlain] at h
theorem showns_plain : ∀ {xs : List D}, allPlains xs = true → showns xs = some (xs.map rp)
  | [], _ => rfl
  | x :: xs, h => by
    rw [allPlains, Bool.and_eq_true] at h
    rw [showns, shown_plain h.1, showns_plain h.2]
    rfl
end
mutual
theorem rp_len : ∀ {x : D}, allPlain x = true → (rp x).length + 3 ≤ 40 * nodes x
  | .tup xs, h => by
    rw [allPlain] at h
    have := rpj_len h
    rw [rp, nodes, List.length_cons]
    omega
  | .non, _ => by simp [rp, nodes]
  | .bl b, _ => by cases b <;> simp [rp, nodes]
  | .int i, h => by
    rw [allPlain] at h
    have := intText_len (of_decide_eq_true h)
    rw [rp, nodes]
    omega
    all_goals simp
  | .str s, h => by
    rw [allPlain] at h
    have := (word_len h).2
    rw [rp, nodes, List.length_cons, List.length_append, List.length_singleton]
    omega
    all_goals simp
  | .lst _, h => by simp [allPlain] at h
  | .dct _ _, h => by simp [allPlain] at h
theorem rpj_len : ∀ {xs : List D}, allPlains xs = true → (rpj xs).length ≤ 40 * nodesL xs + 1
  | [], _ => by simp [rpj]
  | x :: xs, h => by
    rw [allPlains, Bool.and_eq_true] at h
    have := rp_len h.1
    have := rpr_len h.2
    rw [rpj, nodesL, List.length_append]
    split
    · simp; omega
    · omega
theorem rpr_len : ∀ {xs : List D}, allPlains xs = true → (rpr xs).length ≤ 40 * nodesL xs + 1
  | [], _ => by simp [rpr]
  | x :: xs, h => by
    rw [allPlains, Bool.and_eq_true] at h
    have := rp_len h.1
    have := rpr_len h.2
    rw [rpr, nodesL, List.length_cons, List.length_cons, List.length_append]
    omega
end
mutual
theorem plain_depth : ∀ {x : D}, allPlain x = true → x.depth ≤ lvl x + 1 ∧ x.hasD = false ∧ x.hasL = false ∧ x.lay = true
  | .tup xs, h => by
    rw [allPlain] at h
    have := plain_depths h
    rw [D.depth, D.hasD, D.hasL, D.lay, lvl]
    exact ⟨by omega, this.2⟩
  | .non, _ => ⟨by simp [D.depth], rfl, rfl, rfl⟩
  | .bl _, _ => ⟨by simp [D.depth], rfl, rfl, rfl⟩
  | .int _, _ => ⟨by simp [D.depth], rfl, rfl, rfl⟩
  | .str s, h => by
    refine ⟨by simp [D.depth], rfl, rfl, ?_⟩
    rw [allPlain] at h
    simp [isWordS] at h
    simp [D.lay]
    intro c hc
    have := h.2 c hc
    simp [lower] at this
    omega
  | .lst _, h => by simp [allPlain] at h
  | .dct _ _, h => by simp [allPlain] at h
theorem plain_depths : ∀ {xs : List D}, allPlains xs = true → D.depths xs ≤ lvls xs ∧ D.hasDs xs = false ∧ D.hasLs xs = false ∧ D.lays xs = true
  | [], _ => ⟨by simp [D.depths], rfl, rfl, rfl⟩
  | x :: xs, h => by
    rw [allPlains, Bool.and_eq_true] at h
    obtain ⟨a1, a2, a3, a4⟩ := plain_depth h.1
    obtain ⟨b1, b2, b3, b4⟩ := plain_depths h.2
    rw [D.depths, D.hasDs, D.hasLs, D.lays, lvls, a2, a3, a4, b2, b3, b4]
    exact ⟨by omega, rfl, rfl, rfl⟩
end
theorem repr_thing {x : D} (h : isThing x = true) : reprD x = some (rp x) := by
  obtain ⟨h1, h2, h3⟩ := isThing_plain h
  obtain ⟨a1, a2, a3, a4⟩ := plain_depth h1
  have := rp_len h1
  unfold reprD
  rw [shown_plain h1]
  simp only [a2, Bool.not_false, Bool.true_or, Bool.and_true]
  rw [if_pos]
  simp
  unfold line
  omega
/-! ### no two things have one repr -/
theorem span_inj {P : Nat → Bool} : ∀ {a b s t : List Nat}, a.all P = true → b.all P = true → (∀ c r, s = c :: r → P c = false) → (∀ c r, t = c :: r → P c = false) → a ++ s = b ++ t → a = b ∧ s = t
  | [], [], s, t, _, _, _, _, h => ⟨rfl, h⟩
  | [], b :: bs, s, t, _, hb, hs, _, h => by
    have := hs b (bs ++ t) h
    simp at hb
    rw [hb.1] at this; cases this
  | a :: as, [], s, t, ha, _, _, ht, h => by
    have := ht a (as ++ s) h.symm
    simp at ha
    rw [ha.1] at this; cases this
  | a :: as, b :: bs, s, t, ha, hb, hs, ht, h => by
    simp only [List.cons_append, List.cons.injEq] at h
    rw [List.all_cons, Bool.and_eq_true] at ha hb
    obtain ⟨q1, q2⟩ := span_inj ha.2 hb.2 hs ht h.2
    exact ⟨by rw [h.1, q1], q2⟩
/-- what may stand behind a repr -/
def stopS (s : List Nat) : Bool := match s with | [] => true | c :: _ => c == 44 || c == 41
theorem stop_fig {s : List Nat} (h : stopS s = true) : ∀ c r, s = c :: r → fig c = false := by
  intro c r e
  subst e
  simp [stopS] at h
  rcases h with rfl | rfl <;> rfl
/-- the first sign of a repr tells its kind -/
def kind (x : D) : Nat := match x with | .non => 0 | .bl true => 1 | .bl false => 2 | .int _ => 3 | .str _ => 4 | .tup _ => 5 | _ => 6
def kindC (c : Nat) : Nat := if c == 78 then 0 else if c == 84 then 1 else if c == 70 then 2 else if c == 39 then 4 else if c == 40 then 5 else if fig c || c == 45 then 3 else 7
theorem rp_head {x : D} (h : allPlain x = true) : ∃ c r, rp x = c :: r ∧ kindC c = kind x := by
  cases x with
  | non => exact ⟨_, _, rfl, rfl⟩
  | bl b => cases b <;> exact ⟨_, _, rfl, rfl⟩
  | int i =>
    rw [rp]
    unfold intText
    split
    · exact ⟨_, _, rfl, rfl⟩
    · cases hd : digits i.natAbs with
      | nil => have := digits_pos i.natAbs; rw [hd] at this; simp at this
      | cons c r =>
        refine ⟨c, r, rfl, ?_⟩
        have hc := digits_ne45 _ _ _ hd
        have : 48 ≤ c ∧ c ≤ 57 := by simpa [fig] using hc
        have e1 : (c == 78) = false := by simp; omega
        have e2 : (c == 84) = false := by simp; omega
        have e3 : (c == 70) = false := by simp; omega
        have e4 : (c == 39) = false := by simp; omega
        have e5 : (c == 40) = false := by simp; omega
        simp [kindC, kind, e1, e2, e3, e4, e5, hc]
  | str s => rw [rp]; exact ⟨_, _, rfl, rfl⟩
  | tup s => rw [rp]; exact ⟨_, _, rfl, rfl⟩
  | lst _ => simp [allPlain] at h
  | dct _ _ => simp [allPlain] at h
theorem kind_le {x : D} (h : allPlain x = true) : kind x ≠ 7 := by
  cases x with
  | bl b => cases b <;> simp [kind]
  | _ => simp [kind]
theorem int_inj {i j : Int} {s t : List Nat} (hs : stopS s = true) (ht : stopS t = true) (h : intText i ++ s = intText j ++ t) : i = j ∧ s = t := by
  unfold intText at h
  have nh : ∀ (k : Int) (l r : List Nat), digits k.natAbs ++ l ≠ 45 :: r := by
    intro k l r e
    cases hd : digits k.natAbs with
    | nil => have := digits_pos k.natAbs; rw [hd] at this; simp at this
    | cons c q =>
      have hc := digits_ne45 _ _ _ hd
      rw [hd] at e
      injection e with e1 e2
      subst e1
      cases hc
  by_cases h1 : i < 0
  · by_cases h2 : j < 0
    · rw [if_pos h1, if_pos h2] at h
      simp only [List.cons_append, List.cons.injEq, true_and] at h
      obtain ⟨q1, q2⟩ := span_inj (digits_fig _) (digits_fig _) (stop_fig hs) (stop_fig ht) h
      have := digits_inj q1
      exact ⟨by omega, q2⟩
    · rw [if_pos h1, if_neg h2] at h
      exact absurd h.symm (nh _ _ _)
  · by_cases h2 : j < 0
    · rw [if_neg h1, if_pos h2] at h
      exact absurd h (nh _ _ _)
    · rw [if_neg h1, if_neg h2] at h
      obtain ⟨q1, q2⟩ := span_inj (digits_fig _) (digits_fig _) (stop_fig hs) (stop_fig ht) h
      have := digits_inj q1
      exact ⟨by omega, q2⟩
theorem stop_rpr (xs : List D) (s : List Nat) : stopS (rpr xs ++ s) = true := by cases xs <;> simp [rpr, stopS]
theorem kind_eq {x y : D} {s t : List Nat} (hx : allPlain x = true) (hy : allPlain y = true) (h : rp x ++ s = rp y ++ t) : kind x = kind y := by
  obtain ⟨c, r, e1, e2⟩ := rp_head hx
  obtain ⟨d, q, f1, f2⟩ := rp_head hy
  rw [e1, f1, List.cons_append, List.cons_append, List.cons.injEq] at h
  rw [← e2, ← f2, h.1]
theorem rp_not41 {x : D} {s t : List Nat} (hx : allPlain x = true) (h : rp x ++ s = 41 :: t) : False := by
  obtain ⟨c, r, e1, e2⟩ := rp_head hx
  rw [e1, List.cons_append, List.cons.injEq] at h
  rw [h.1] at e2
  exact kind_le hx e2.symm
mutual
theorem rp_inj : ∀ (x y : D) {s t : List Nat}, allPlain x = true → allPlain y = true → stopS s = true → stopS t = true → rp x ++ s = rp y ++ t → x = y ∧ s = t
  | .tup xs, y, s, t, hx, hy, hs, ht, h => by
    have k := kind_eq hx hy h
    cases y with
    | tup ys =>
      rw [rp, rp] at h
      rw [allPlain] at hx hy
      simp only [List.cons_append, List.cons.injEq, true_and] at h
      obtain ⟨a, b⟩ := rpj_inj xs ys hx hy hs ht h
      exact ⟨by rw [a], b⟩
    | bl b => cases b <;> cases k
    | _ => cases k
  | .non, y, s, t, hx, hy, hs, ht, h => by
    have k := kind_eq hx hy h
    cases y with
    | non => exact ⟨rfl, List.append_cancel_left h⟩
    | bl b => cases b <;> cases k
    | _ => cases k
  | .bl true, y, s, t, hx, hy, hs, ht, h => by
    have k := kind_eq hx hy h
    cases y with
    | bl b =>
      cases b with
      | true => exact ⟨rfl, List.append_cancel_left h⟩
      | false => cases k
    | _ => cases k
  | .bl false, y, s, t, hx, hy, hs, ht, h => by
    have k := kind_eq hx hy h
    cases y with
    | bl b =>
      cases b with
      | false => exact ⟨rfl, List.append_cancel_left h⟩
      | true => cases k
    | _ => cases k
  | .int i, y, s, t, hx, hy, hs, ht, h => by
    have k := kind_eq hx hy h
    cases y with
    | int j =>
      rw [rp, rp] at h
      obtain ⟨a, b⟩ := int_inj hs ht h
      exact ⟨by rw [a], b⟩
    | bl b => cases b <;> cases k
    | _ => cases k
  | .str u, y, s, t, hx, hy, hs, ht, h => by
    have k := kind_eq hx hy h
    cases y with
    | str v =>
      rw [rp, rp] at h
      simp only [List.cons_append, List.append_assoc, List.cons.injEq, true_and] at h
      have hu : u.all lower = true := by rw [allPlain] at hx; simp [isWordS] at hx; simpa using hx.2
      have hv : v.all lower = true := by rw [allPlain] at hy; simp [isWordS] at hy; simpa using hy.2
      obtain ⟨a, b⟩ := span_inj hu hv (by intro c r e; cases e; rfl) (by intro c r e; cases e; rfl) h
      exact ⟨by rw [a], by simpa using b⟩
    | bl b => cases b <;> cases k
    | _ => cases k
  | .lst _, _, _, _, h, _, _, _, _ => by simp [allPlain] at h
  | .dct _ _, _, _, _, h, _, _, _, _ => by simp [allPlain] at h
theorem rpj_inj : ∀ (xs ys : List D) {s t : List Nat}, allPlains xs = true → allPlains ys = true → stopS s = true → stopS t = true → rpj xs ++ s = rpj ys ++ t → xs = ys ∧ s = t
  | [], ys, s, t, hx, hy, hs, ht, h => by
    cases ys with
    | nil => exact ⟨rfl, List.append_cancel_left h⟩
    | cons y ys =>
      rw [allPlains, Bool.and_eq_true] at hy
      rw [rpj, rpj, List.append_assoc] at h
      exact (rp_not41 hy.1 h.symm).elim
  | x :: xs, ys, s, t, hx, hy, hs, ht, h => by
    rw [allPlains, Bool.and_eq_true] at hx
    cases ys with
    | nil =>
      rw [rpj, rpj, List.append_assoc] at h
      exact (rp_not41 hx.1 h).elim
    | cons y ys =>
      rw [allPlains, Bool.and_eq_true] at hy
      rw [rpj, rpj, List.append_assoc, List.append_assoc] at h
      have st : ∀ (zs : List D) (r : List Nat), stopS ((if nilB zs then [44, 41] else rpr zs) ++ r) = true := by
        intro zs r
        split
        · rfl
        · exact stop_rpr zs r
      obtain ⟨a, b⟩ := rp_inj x y hx.1 hy.1 (st _ _) (st _ _) h
      subst a
      cases xs with
      | nil =>
        cases ys with
        | nil => exact ⟨rfl, List.append_cancel_left b⟩
        | cons z zs => simp [nilB, rpr] at b
      | cons w ws =>
        cases ys with
        | nil => simp [nilB, rpr] at b
        | cons z zs =>
          obtain ⟨c, d⟩ := rpr_inj (w :: ws) (z :: zs) hx.2 hy.2 hs ht b
          exact ⟨by rw [c], d⟩
theorem rpr_inj : ∀ (xs ys : List D) {s t : List Nat}, allPlains xs = true → allPlains ys = true → stopS s = true → stopS t = true → rpr xs ++ s = rpr ys ++ t → xs = ys ∧ s = t
  | [], ys, s, t, hx, hy, hs, ht, h => by
    cases ys with
    | nil => exact ⟨rfl, List.append_cancel_left h⟩
    | cons y ys => simp [rpr] at h
  | x :: xs, ys, s, t, hx, hy, hs, ht, h => by
    rw [allPlains, Bool.and_eq_true] at hx
    cases ys with
    | nil => simp [rpr] at h
    | cons y ys =>
      rw [allPlains, Bool.and_eq_true] at hy
      rw [rpr, rpr] at h
      simp only [List.cons_append, List.append_assoc, List.cons.injEq, true_and] at h
      obtain ⟨a, b⟩ := rp_inj x y hx.1 hy.1 (stop_rpr _ _) (stop_rpr _ _) h
      obtain ⟨c, d⟩ := rpr_inj xs ys hx.2 hy.2 hs ht b
      exact ⟨by rw [a, c], d⟩
end
theorem rp_eq {x y : D} (hx : isThing x = true) (hy : isThing y = true) (h : rp x = rp y) : x = y :=
  (rp_inj x y (s := []) (t := []) (isThing_plain hx).1 (isThing_plain hy).1 rfl rfl (by rw [h])).1
/-! ### repr of what was told -/
theorem fig_sign {c : Nat} (h : fig c = true) : signOk c = true := by
  simp [fig] at h
  simp [signOk, plainSign]
  omega
theorem intText_signs (i : Int) : (intText i).all signOk = true := by
  have ha := digits_fig i.natAbs
  have hb : (digits i.natAbs).all signOk = true := List.all_eq_true.mpr fun c hc => fig_sign (List.all_eq_true.mp ha c hc)
  unfold intText
  split
  · rw [List.all_cons, hb]; rfl
  · exact hb
mutual
theorem txt_signs : ∀ {x : D}, allPlain x = true → (txt x).all signOk = true
  | .tup xs, h => by
    rw [allPlain] at h
    rw [txt, List.all_cons, List.all_append, txtj_signs h]
    rfl
  | .non, _ => rfl
  | .bl b, _ => by cases b <;> rfl
  | .int i, _ => by rw [txt]; exact intText_signs i
  | .str s, h => by rw [allPlain] at h; rw [txt]; exact (word_signs h).1
  | .lst _, h => by simp [allPlain] at h
  | .dct _ _, h => by simp [allPlain] at h
theorem txtj_signs : ∀ {xs : List D}, allPlains xs = true → (txtj xs).all signOk = true
  | [], _ => rfl
  | x :: xs, h => by
    rw [allPlains, Bool.and_eq_true] at h
    rw [txtj, List.all_append, txt_signs h.1, txtr_signs h.2]
    rfl
theorem txtr_signs : ∀ {xs : List D}, allPlains xs = true → (txtr xs).all signOk = true
  | [], _ => rfl
  | x :: xs, h => by
    rw [allPlains, Bool.and_eq_true] at h
    rw [txtr, List.all_cons, List.all_append, txt_signs h.1, txtr_signs h.2]
    rfl
end
theorem escT_len (s : List Nat) : (escT s).length ≤ 2 * s.length := by
  unfold escT
  induction s with
  | nil => simp
  | cons c s ih =>
    rw [List.flatMap_cons, List.length_append, List.length_cons]
    have : (escS c).length ≤ 2 := by unfold escS; split <;> simp
    omega
theorem repr_told {x : D} (h : isThing x = true) : ∃ z, reprD (.lst [.bl true, .str (txt x), x]) = some z := by
  obtain ⟨h1, h2, h3⟩ := isThing_plain h
  obtain ⟨a1, a2, a3, a4⟩ := plain_depth h1
  have l1 := rp_len h1
  have l2 := txt_len h1
  have l3 := escT_len (txt x)
  unfold reprD
  rw [shown]
  rw [showns, showns, showns, shown_plain h1, showns, shown, shown, if_pos (txt_signs h1)]
  simp only [D.hasD, D.hasDs, a2, Bool.or_self, Bool.not_false, Bool.true_or, Bool.and_true]
  refine ⟨_, if_pos ?_⟩
  simp [D.depth, D.depths, sepT, joinT]
  unfold line
  omega
end Ev
end
section
/-! EvSp: things with something odd in them: what repr needs. -/
set_option autoImplicit false
set_option linter.all false
set_option maxRecDepth 100000
namespace Ev
/-- what repr needs of a leaf -/
structure Shows (o : D) : Prop where
  sh : ∃ s, shown o = some s ∧ s.length ≤ 77
  dep : o.depth ≤ 2
  one : o.hasD = false ∨ o.hasL = false
mutual
/-- plain things, and o -/
def tr (o : D) : D → Prop
  | .tup xs => trs o xs
  | .non => True
  | .bl _ => True
  | .int i => isPlain (.int i) = true ∨ .int i = o
  | .str s => isPlain (.str s) = true ∨ .str s = o
  | .lst xs => .lst xs = o
  | .dct ks vs => .dct ks vs = o
def trs (o : D) : List D → Prop
  | [] => True
  | x :: xs => tr o x ∧ trs o xs
end
theorem trs_append {o : D} {xs ys : List D} (h1 : trs o xs) (h2 : trs o ys) : trs o (xs ++ ys) := by
  induction xs with
  | nil => exact h2
  | cons x xs ih =>
    rw [trs] at h1
    rw [List.cons_append, trs]
    exact ⟨h1.1, ih h1.2⟩
theorem tr_o {o : D} (h : isTup o = false) : tr o o := by
  cases o with
  | tup _ => cases h
  | non => simp [tr]
  | bl _ => simp [tr]
  | int i => rw [tr]; exact .inr rfl
  | str i => rw [tr]; exact .inr rfl
  | lst _ => simp [tr]
  | dct _ _ => simp [tr]
mutual
theorem tr_plain {o : D} : ∀ {x : D}, allPlain x = true → tr o x
  | .tup xs, h => by rw [allPlain] at h; rw [tr]; exact trs_plain h
  | .non, _ => by simp [tr]
  | .bl _, _ => by simp [tr]
  | .int i, h => by rw [allPlain_leaf rfl] at h; rw [tr]; exact .inl h
  | .str i, h => by rw [allPlain_leaf rfl] at h; rw [tr]; exact .inl h
  | .lst _, h => by simp [allPlain] at h
  | .dct _ _, h => by simp [allPlain] at h
theorem trs_plain {o : D} : ∀ {xs : List D}, allPlains xs = true → trs o xs
  | [], _ => by simp [trs]
  | x :: xs, h => by
    rw [allPlains, Bool.and_eq_true] at h
    rw [trs]
    exact ⟨tr_plain h.1, trs_plain h.2⟩
end
theorem shows_plain {x : D} (h : isPlain x = true) : (∃ s, shown x = some s ∧ s.length ≤ 77) ∧ x.depth = 0 ∧ x.hasD = false ∧ x.hasL = false ∧ isTup x = false := by
  have ht : isTup x = false := by cases x <;> first | rfl | cases h
  have hp : allPlain x = true := by rw [allPlain_leaf ht]; exact h
  have hl := rp_len hp
  have hn : nodes x = 1 := by cases x <;> first | (cases ht; done) | simp [nodes]
  refine ⟨⟨_, shown_plain hp, by omega⟩, ?_⟩
  cases x <;> first | (cases h; done) | exact ⟨rfl, rfl, rfl, rfl⟩
theorem joinT_le (ts : List (List Nat)) : (sepT ts).length ≤ (ts.map List.length).sum + 2 * ts.length := by
  unfold sepT
  fun_induction joinT [44, 32] ts with
  | case1 => simp
  | case2 x => simp
  | case3 x y r ih =>
    simp only [List.map_cons, List.sum_cons, List.length_append, List.length_cons, List.length_nil] at ih ⊢
    omega
mutual
theorem tr_shown {o : D} (O : Shows o) : ∀ {x : D}, tr o x → ∃ s, shown x = some s ∧ s.length + 3 ≤ 84 * nodes x
  | .tup xs, h => by
    rw [tr] at h
    obtain ⟨ts, e, l⟩ := trs_shown O h
    have hj := joinT_le ts
    rw [shown, e, nodes]
    rcases ts with _ | ⟨a, _ | ⟨b, r⟩⟩
    · exact ⟨_, rfl, by simp [sepT, joinT] at *; omega⟩
    · exact ⟨_, rfl, by simp at *; omega⟩
    · exact ⟨_, rfl, by rw [List.length_cons, List.length_append]; simp at *; omega⟩
  | .non, _ => ⟨_, rfl, by simp [nodes]⟩
  | .bl b, _ => by cases b <;> exact ⟨_, rfl, by simp [nodes]⟩
  | .int i, h => by
    rw [tr] at h
    have q : ∃ s, shown (.int i) = some s ∧ s.length ≤ 77 := by
      rcases h with h | h
      · exact (shows_plain h).1
      · rw [h]; exact O.sh
    obtain ⟨s, e, l⟩ := q
    exact ⟨s, e, by rw [nodes]; omega; all_goals simp⟩
  | .str i, h => by
    rw [tr] at h
    have q : ∃ s, shown (.str i) = some s ∧ s.length ≤ 77 := by
      rcases h with h | h
      · exact (shows_plain h).1
      · rw [h]; exact O.sh
    obtain ⟨s, e, l⟩ := q
    exact ⟨s, e, by rw [nodes]; omega; all_goals simp⟩
  | .lst xs, h => by
    rw [tr] at h
    obtain ⟨s, e, l⟩ := O.sh
    exact ⟨s, by rw [h]; exact e, by rw [nodes]; omega; all_goals simp⟩
  | .dct ks vs, h => by
    rw [tr] at h
    obtain ⟨s, e, l⟩ := O.sh
    exact ⟨s, by rw [h]; exact e, by rw [nodes]; omega; all_goals simp⟩
theorem trs_shown {o : D} (O : Shows o) : ∀ {xs : List D}, trs o xs → ∃ ts, showns xs = some ts ∧ (ts.map List.length).sum + 3 * ts.length ≤ 84 * nodesL xs
  | [], _ => ⟨[], rfl, by simp⟩
  | x :: xs, h => by
    rw [trs] at h
    obtain ⟨s, e, l⟩ := tr_shown O h.1
    obtain ⟨ts, e2, l2⟩ := trs_shown O h.2
    refine ⟨s :: ts, by rw [showns, e, e2], ?_⟩
    rw [List.map_cons, List.sum_cons, List.length_cons, nodesL]
    omega
end
mutual
theorem tr_depth {o : D} (O : Shows o) : ∀ {x : D}, tr o x → x.depth ≤ lvl x + 3
  | .tup xs, h => by
    rw [tr] at h
    have := trs_depth O h
    rw [D.depth, lvl]; omega
  | .non, _ => by simp [D.depth]
  | .bl b, _ => by simp [D.depth]
  | .int i, h => by simp [D.depth]
  | .str i, h => by simp [D.depth]
  | .lst xs, h => by rw [tr] at h; rw [h]; have := O.dep; omega
  | .dct ks vs, h => by rw [tr] at h; rw [h]; have := O.dep; omega
theorem trs_depth {o : D} (O : Shows o) : ∀ {xs : List D}, trs o xs → D.depths xs ≤ lvls xs + 2
  | [], _ => by simp [D.depths]
  | x :: xs, h => by
    rw [trs] at h
    have := tr_depth O h.1
    have := trs_depth O h.2
    rw [D.depths, lvls]; omega
end
mutual
theorem tr_hasD {o : D} (O : o.hasD = false) : ∀ {x : D}, tr o x → x.hasD = false
  | .tup xs, h => by rw [tr] at h; rw [D.hasD]; exact trs_hasD O h
  | .non, _ => rfl
  | .bl b, _ => rfl
  | .int i, h => rfl
  | .str i, h => rfl
  | .lst xs, h => by rw [tr] at h; rw [h]; exact O
  | .dct ks vs, h => by rw [tr] at h; rw [h]; exact O
theorem trs_hasD {o : D} (O : o.hasD = false) : ∀ {xs : List D}, trs o xs → D.hasDs xs = false
  | [], _ => rfl
  | x :: xs, h => by
    rw [trs] at h
    rw [D.hasDs, tr_hasD O h.1, trs_hasD O h.2]; rfl
end
mutual
theorem tr_hasL {o : D} (O : o.hasL = false) : ∀ {x : D}, tr o x → x.hasL = false
  | .tup xs, h => by rw [tr] at h; rw [D.hasL]; exact trs_hasL O h
  | .non, _ => rfl
  | .bl b, _ => rfl
  | .int i, h => rfl
  | .str i, h => rfl
  | .lst xs, h => by rw [tr] at h; rw [h]; exact O
  | .dct ks vs, h => by rw [tr] at h; rw [h]; exact O
theorem trs_hasL {o : D} (O : o.hasL = false) : ∀ {xs : List D}, trs o xs → D.hasLs xs = false
  | [], _ => rfl
  | x :: xs, h => by
    rw [trs] at h
    rw [D.hasLs, tr_hasL O h.1, trs_hasL O h.2]; rfl
end
theorem repr_tr {o x : D} (O : Shows o) (h : tr o x) (hn : nodes x ≤ 100000) (hl : lvl x ≤ 60) : ∃ s, reprD x = some s := by
  obtain ⟨s, e, l⟩ := tr_shown O h
  have d := tr_depth O h
  have b : (!x.hasD || !x.hasL) = true := by
    rcases O.one with q | q
    · rw [tr_hasD q h]; rfl
    · rw [tr_hasL q h]; simp
  refine ⟨s, ?_⟩
  unfold reprD
  rw [e]
  simp only [b, Bool.and_true]
  rw [if_pos]
  simp
  unfold line
  omega
end Ev
end
section
/-! EvLt: the laws' own text of a thing (def printed by gen3.py), run. -/
set_option autoImplicit false
set_option linter.all false
set_option maxRecDepth 100000
namespace Ev
structure LtI where
  f_law_text : Nat
/-- _law_text: 0 _law_thing_here 1 _law_one -/
def LtI.d_law_text (t : LtI) : Def := ⟨1, 2, [.ite (.isi (.slot 0) .tuple) [.ret (.bin .add (.bin .add (.lit (.str [40])) (.mt .join (.lit (.str [32])) [(.comp false (.call t.f_law_text [(.slot 1)]) [1] [1] .val [(.slot 0)] [])])) (.lit (.str [41])))] [], .ite (.cmp .is (.slot 0) (.lit .non)) [.ret (.lit (.str [46]))] [], .ite (.isi (.slot 0) .bool) [.ret (.ite (.slot 0) (.lit (.str [43])) (.lit (.str [45])))] [], .ret (.bi .str [(.slot 0)])]⟩
/-- the text has these -/
structure LtI.At (t : LtI) (p : Prog) : Prop where
  law_text : p.defs t.f_law_text = some t.d_law_text
theorem joinT_txtj : ∀ xs : List D, joinT [32] (xs.map txt) = txtj xs
  | [] => rfl
  | [x] => by simp [joinT, txtj, txtr]
  | x :: y :: r => by
    have := joinT_txtj (y :: r)
    simp only [List.map_cons] at this ⊢
    rw [joinT, this, txtj, txtj, txtr]
    simp
theorem sum_txt : ∀ {xs : List D}, allPlains xs = true → ((xs.map txt).map List.length).sum + xs.length ≤ 34 * nodesL xs
  | [], _ => by simp
  | x :: xs, h => by
    rw [allPlains, Bool.and_eq_true] at h
    have := txt_len h.1
    have := sum_txt h.2
    simp only [List.map_cons, List.sum_cons, List.length_cons, nodesL]
    omega
theorem lvl_mem : ∀ {xs : List D} {x : D}, x ∈ xs → lvl x + 1 ≤ lvls xs ∧ nodes x ≤ nodesL xs
  | y :: ys, x, h => by
    rw [lvls, nodesL]
    rcases List.mem_cons.mp h with rfl | h
    · omega
    · have := lvl_mem h; omega
theorem plain_mem {xs : List D} {x : D} (h : allPlains xs = true) (hx : x ∈ xs) : allPlain x = true := by
  rw [plains_all] at h
  exact List.all_eq_true.mp h x hx
section
variable {t : LtI} {p : Prog} {n : Nat} {h : Heap}
theorem law_text_run (A : t.At p) (hf : Fine h) : ∀ (m : Nat) (x : D), allPlain x = true → lvl x ≤ m → nodes x ≤ 4000 → callN p (n + m + 1) t.f_law_text [.d x] h = .ok (.d (.str (txt x))) h := by
  intro m
  induction m with
  | zero =>
    intro x hx hl hn
    rw [callN_run A.law_text rfl]
    cases x with
    | tup xs =>
      rw [lvl] at hl
      have : xs = [] := lvls_nil.mp (by omega)
      subst this
      have l0 : decide (0 ≤ line) = true := by decide
      have l2 : 2 ≤ line := by decide
      have l1 : 1 ≤ line := by decide
      have J := join_run (b := h.length) (h := h) (s := [32]) (ts := []) (by simp)
      simp at J
      simp [LtI.d_law_text, startEnv, slotOf, compGo, fits, l0, hf, txt, txtj, mtK, strK, J, joinT, l1, l2]
    | int i =>
      rw [allPlain] at hx
      have := log_ok (of_decide_eq_true hx)
      simp [LtI.d_law_text, startEnv, slotOf, this, hf, txt]
    | bl b => cases b <;> simp [LtI.d_law_text, startEnv, slotOf, hf, txt, ptext]
    | non => simp [LtI.d_law_text, startEnv, slotOf, hf, txt]
    | str s => simp [LtI.d_law_text, startEnv, slotOf, hf, txt]
    | lst _ => simp [allPlain] at hx
    | dct _ _ => simp [allPlain] at hx
  | succ m ih =>
    intro x hx hl hn
    rw [callN_run A.law_text rfl]
    cases x with
    | tup xs =>
      rw [lvl] at hl
      rw [nodes] at hn
      rw [allPlain] at hx
      have c : ∀ f : D → Heap → Res (Option D), (∀ x ∈ xs, f x h = .ok (some (.str (txt x))) h) → compGo f xs h = .ok (xs.map fun x => .str (txt x)) h := fun f e => compGo_map e
      have hlen := length_nodes xs
      have l0 : xs.length ≤ line := by unfold line; omega
      have hs := sum_txt hx
      have hj := txtj_len hx
      have J := join_run (b := h.length) (h := h) (s := [32]) (ts := xs.map txt) (by rw [List.length_map, List.length_singleton]; unfold line; omega)
      rw [joinT_txtj, List.map_map] at J
      have J : mtGo h.length .join (.d (.str [32])) [.d (.lst (xs.map fun x => .str (txt x)))] h = .ok (.d (.str (txtj xs))) h := J
      have l2 : (txtj xs).length + 1 + 1 ≤ line := by unfold line; omega
      have l1 : 1 + (txtj xs).length ≤ line := by unfold line; omega
      have l3 : (txtj xs).length + 1 ≤ line := by unfold line; omega
      simp [LtI.d_law_text, startEnv, slotOf]
      rw [c]
      · simp [fits, l0, hf, txt, mtK, strK, J, l1, l2, l3]
      · intro x hxm
        have q := lvl_mem hxm
        have := ih x (plain_mem hx hxm) (by omega) (by omega)
        simp [setTg, setEnv, wipeE, show n + (m + 1) = n + m + 1 from rfl, this]
    | int i =>
      rw [allPlain] at hx
      have := log_ok (of_decide_eq_true hx)
      simp [LtI.d_law_text, startEnv, slotOf, this, hf, txt]
    | bl b => cases b <;> simp [LtI.d_law_text, startEnv, slotOf, hf, txt, ptext]
    | non => simp [LtI.d_law_text, startEnv, slotOf, hf, txt]
    | str s => simp [LtI.d_law_text, startEnv, slotOf, hf, txt]
    | lst _ => simp [allPlain] at hx
    | dct _ _ => simp [allPlain] at hx
end
end Ev
end
section
/-! EvDr: the laws' drawing (defs printed by gen3.py), run. -/
set_option autoImplicit false
set_option linter.all false
set_option maxRecDepth 100000
namespace Ev
structure DrI where
  f_law_begun : Nat
  f_law_draw : Nat
  f_law_of : Nat
/-- _law_begun: 0 _law_script 1 _law_k 2 _law_cells 3 _law_great 4 _law_seed 5 _law_cell -/
def DrI.d_law_begun (t : DrI) : Def := ⟨2, 6, [.asg 2 (.bin .add (.sliL (.slot 0) (.slot 1)) (.sliH (.slot 0) (.slot 1))), .asg 3 (.comp false (.slot 5) [5] [5] .val [(.slot 2)] [(.cmp .ge (.slot 5) (.bin .pow (.lit (.int 10)) (.lit (.int 18))))]), .asg 4 (.bin .add (.lit (.int 97)) (.slot 1)), .for [5] .val [(.slot 2)] [.asg 4 (.bin .mod (.bi .int [(.bin .add (.bin .mul (.slot 4) (.lit (.int 48271))) (.slot 5))]) (.lit (.int 2147483647)))], .ret (.dct true [(.lit (.str [108, 101, 102, 116])), (.ite (.cmp .ne (.slot 3) (.lst false [])) (.idx (.slot 3) (.lit (.int 0))) (.lit (.int 0))), (.lit (.str [115, 101, 101, 100])), (.slot 4), (.lit (.str [99, 101, 108, 108, 115])), (.bin .add (.slot 2) (.lst false [(.bin .add (.bin .mul (.lit (.int 31)) (.slot 1)) (.lit (.int 5)))])), (.lit (.str [115, 112, 111, 116])), (.lit (.int 0))])]⟩
/-- _law_draw: 0 _law_m 1 _law_many 2 _law_found 3 _law_spot 4 _law_cells 5 _law_added 6 _law_cell 7 _law_blend -/
def DrI.d_law_draw (t : DrI) : Def := ⟨2, 8, [.ite (.cmp .gt (.idx (.slot 0) (.lit (.str [108, 101, 102, 116]))) (.lit (.int 0))) [.asg 2 (.bin .mod (.bi .int [(.idx (.slot 0) (.lit (.str [108, 101, 102, 116])))]) (.slot 1)), .sets (.slot 0) (.lit (.str [108, 101, 102, 116])) (.bin .fdiv (.idx (.slot 0) (.lit (.str [108, 101, 102, 116]))) (.slot 1)), .ret (.slot 2)] [], .asg 3 (.idx (.slot 0) (.lit (.str [115, 112, 111, 116]))), .sets (.slot 0) (.lit (.str [115, 112, 111, 116])) (.bin .add (.slot 3) (.lit (.int 1))), .par 4 5 (.idx (.slot 0) (.lit (.str [99, 101, 108, 108, 115]))) (.bin .add (.idx (.slot 0) (.lit (.str [115, 101, 101, 100]))) (.bin .mul (.bin .mul (.lit (.int 40503)) (.slot 3)) (.slot 3))), .asg 6 (.idx (.slot 4) (.bin .mod (.bi .int [(.slot 3)]) (.bi .len [(.slot 4)]))), .asg 7 (.bin .mod (.bi .int [(.bin .add (.bin .mul (.slot 6) (.bin .add (.bin .mul (.lit (.int 2)) (.slot 3)) (.lit (.int 3)))) (.slot 5))]) (.lit (.int 2147483647))), .asg 7 (.bin .mod (.bi .int [(.bin .add (.bin .add (.bin .mul (.slot 7) (.slot 7)) (.bin .mul (.lit (.int 69621)) (.slot 3))) (.idx (.slot 0) (.lit (.str [115, 101, 101, 100]))))]) (.lit (.int 2147483629))), .ret (.bin .mod (.bin .fdiv (.bin .mod (.bi .int [(.bin .add (.bin .mul (.slot 7) (.lit (.int 48271))) (.slot 3))]) (.lit (.int 2147483647))) (.lit (.int 11))) (.slot 1))]⟩
/-- _law_of: 0 _law_m 1 _law_some -/
def DrI.d_law_of (t : DrI) : Def := ⟨2, 2, [.ret (.idx (.slot 1) (.call t.f_law_draw [(.slot 0), (.bi .len [(.slot 1)])]))]⟩
/-- the text has these -/
structure DrI.At (t : DrI) (p : Prog) : Prop where
  law_begun : p.defs t.f_law_begun = some t.d_law_begun
  law_draw : p.defs t.f_law_draw = some t.d_law_draw
  law_of : p.defs t.f_law_of = some t.d_law_of
def kLeft : D := .str [108, 101, 102, 116]
def kSeed : D := .str [115, 101, 101, 100]
def kCells : D := .str [99, 101, 108, 108, 115]
def kSpot : D := .str [115, 112, 111, 116]
/-- where a drawing stands -/
def mcell (l s : Int) (cs : List Int) (sp : Int) : Cell := .dct [kLeft, kSeed, kCells, kSpot] [.int l, .int s, .lst (cs.map .int), .int sp]
section
variable {H : Heap} {m : Nat} {l s sp : Int} {cs : List Int}
theorem m_left (e : H[m]? = some (mcell l s cs sp)) : idxGo (.ref m) (.str [108, 101, 102, 116]) H = .ok (.d (.int l)) H := by
  simp only [idxGo, rwsOf, e, mcell, look, view]; rfl
theorem m_seed (e : H[m]? = some (mcell l s cs sp)) : idxGo (.ref m) (.str [115, 101, 101, 100]) H = .ok (.d (.int s)) H := by
  simp only [idxGo, rwsOf, e, mcell, look, view]; rfl
theorem m_cells (e : H[m]? = some (mcell l s cs sp)) : idxGo (.ref m) (.str [99, 101, 108, 108, 115]) H = .ok (.d (.lst (cs.map .int))) H := by
  simp only [idxGo, rwsOf, e, mcell, look, view]; rfl
theorem m_spot (e : H[m]? = some (mcell l s cs sp)) : idxGo (.ref m) (.str [115, 112, 111, 116]) H = .ok (.d (.int sp)) H := by
  simp only [idxGo, rwsOf, e, mcell, look, view]; rfl
theorem m_setl (e : H[m]? = some (mcell l s cs sp)) (i : Int) : setsGo (.ref m) (.str [108, 101, 102, 116]) (.int i) H = .ok () (H.set m (mcell i s cs sp)) := by
  simp only [setsGo, refP_ref, opt_some, dctOf, e, mcell]; rfl
theorem m_sets (e : H[m]? = some (mcell l s cs sp)) (i : Int) : setsGo (.ref m) (.str [115, 112, 111, 116]) (.int i) H = .ok () (H.set m (mcell l s cs i)) := by
  simp only [setsGo, refP_ref, opt_some, dctOf, e, mcell]; rfl
theorem m_put (e : H[m]? = some (mcell l s cs sp)) (c : Cell) : (H.set m c)[m]? = some c := List.getElem?_set_self (List.getElem?_eq_some_iff.mp e).1
end
theorem seq_int (cs : List Int) (i : Int) (h0 : 0 ≤ i) (h1 : i < cs.length) : ∃ z, seqAt (cs.map .int) i = some (.int z) := by
  have : i.toNat < cs.length := by omega
  refine ⟨cs[i.toNat], ?_⟩
  simp [seqAt, spot, h0, h1]
/-- a drawing that still allows k draws -/
structure St (m k : Nat) (H : Heap) : Prop where
  fine : Fine H
  cell : ∃ l s cs sp, H[m]? = some (mcell l s cs sp) ∧ cs ≠ [] ∧ 0 ≤ sp ∧ sp + k ≤ 2 ^ 30
theorem St.mono {m k j : Nat} {H : Heap} (S : St m k H) (hj : j ≤ k) : St m j H := by
  obtain ⟨f, l, s, cs, sp, a, b, c, d⟩ := S
  exact ⟨f, l, s, cs, sp, a, b, c, by omega⟩
theorem Fine.set' {H : Heap} {c : Cell} {n : Nat} (f : Fine H) (hc : fineC H.length c = true) : Fine (H.set n c) := by
  unfold Fine at f ⊢
  rw [List.length_set]
  refine List.all_eq_true.mpr fun d hd => ?_
  rcases List.mem_or_eq_of_mem_set hd with q | q
  · exact List.all_eq_true.mp f d q
  · rw [q]; exact hc
section
variable {t : DrI} {p : Prog} {n : Nat}
theorem draw_run (A : t.At p) {m k : Nat} {H : Heap} (S : St m (k + 1) H) {many : Int} (h0 : 0 < many) (h1 : many.natAbs.log2 < 9000) :
    ∃ r H', callN p (n + 1) t.f_law_draw [.ref m, .d (.int many)] H = .ok (.d (.int r)) H' ∧ (0 ≤ r ∧ r < many) ∧ St m k H' ∧ H'.length = H.length := by
  obtain ⟨f, l, s, cs, sp, e, hc, hs, hb⟩ := S
  rw [callN_run A.law_draw rfl]
  by_cases hl : 0 < l
  · have e2 := m_put e (mcell (l / many) s cs sp)
    have ff := f.set' (n := m) (c := mcell (l / many) s cs sp) rfl
    refine ⟨l % many, H.set m (mcell (l / many) s cs sp), ?_, ⟨Int.emod_nonneg _ (by omega), Int.emod_lt_of_pos _ h0⟩, ⟨ff, _, _, _, _, e2, hc, hs, by omega⟩, List.length_set ..⟩
    simp [DrI.d_law_draw, startEnv, slotOf, setEnv, m_left e, hl, h0, h1, m_setl e]
    exact leave_len ff (List.length_set ..)
  · have e2 := m_put e (mcell l s cs (sp + 1))
    have ff := f.set' (n := m) (c := mcell l s cs (sp + 1)) rfl
    have hl0 : 0 < cs.length := List.length_pos_iff.mpr hc
    obtain ⟨z, hz⟩ := seq_int cs (sp % cs.length) (Int.emod_nonneg _ (by omega)) (Int.emod_lt_of_pos _ (by omega))
    have a1 : small64 40503 = true := by decide
    have a2 : small64 sp = true := by simp [small64]; omega
    have a3 : small64 (2 * sp + 3) = true := by simp [small64]; omega
    have a4 : small64 2 = true := by decide
    have a5 : small64 69621 = true := by decide
    have a6 : small64 48271 = true := by decide
    have a7 : ∀ x : Int, small64 (x % 2147483647) = true := by
      intro x
      have := Int.emod_nonneg x (show (2147483647 : Int) ≠ 0 by decide)
      have := Int.emod_lt_of_pos x (show (0 : Int) < 2147483647 by decide)
      simp [small64]; omega
    have a8 : Nat.log2 11 < 9000 := by decide +kernel
    have hl1 : (0 : Int) < cs.length := by omega
    refine ⟨?r, H.set m (mcell l s cs (sp + 1)), ?e, ?g, ⟨ff, _, _, _, _, e2, hc, by omega, by omega⟩, List.length_set ..⟩
    case e =>
      simp [DrI.d_law_draw, startEnv, slotOf, setEnv, m_left e, m_spot e, hl, h0, m_sets e, m_cells e2, m_seed e2, a1, a2, a3, a4, a5, a6, a7, a8, hz, hl0]
      refine leave_len ff (List.length_set ..)
    case g => exact ⟨Int.emod_nonneg _ (by omega), Int.emod_lt_of_pos _ h0⟩
theorem of_run (A : t.At p) {m k : Nat} {H : Heap} (S : St m (k + 1) H) {xs : List D} (h0 : xs ≠ []) (h1 : xs.length < 2 ^ 64) :
    ∃ x H', callN p (n + 2) t.f_law_of [.ref m, .d (.lst xs)] H = .ok (.d x) H' ∧ x ∈ xs ∧ St m k H' ∧ H'.length = H.length := by
  have hl0 : 0 < xs.length := List.length_pos_iff.mpr h0
  obtain ⟨r, H', e, ⟨g1, g2⟩, S', hl⟩ := draw_run (n := n) A S (many := xs.length) (by omega) (by
    rw [Int.natAbs_natCast]
    exact Nat.lt_trans ((Nat.log2_lt (by omega)).mpr h1) (by decide))
  have hr : r.toNat < xs.length := by omega
  refine ⟨xs[r.toNat], H', ?_, List.getElem_mem hr, S', hl⟩
  rw [callN_run A.law_of rfl]
  simp [DrI.d_law_of, startEnv, slotOf, e, seqAt, spot, g1, g2, hr]
  exact leave_len S'.fine hl
end
end Ev
end
section
/-! EvDr2: a drawing begun. -/
set_option autoImplicit false
set_option linter.all false
set_option maxRecDepth 100000
namespace Ev
theorem sliceL_map {α β : Type} (f : α → β) (xs : List α) (lo hi : Option Int) : sliceL (xs.map f) lo hi = (sliceL xs lo hi).map f := by simp [sliceL]
theorem sliceL_le {α : Type} (xs : List α) (lo hi : Option Int) : (sliceL xs lo hi).length ≤ xs.length := by
  unfold sliceL
  rw [List.length_take, List.length_drop]
  omega
theorem slice_lst (xs : List D) (lo hi : Option Int) : sliceD (.lst xs) lo hi = some (.lst (sliceL xs lo hi)) := rfl
theorem leave_ref {h : Heap} {c : Cell} (f : Fine h) (hc : fineC h.length c = true) : leave h.length (.ok (.ref h.length) (h ++ [c])) = .ok (.ref h.length) (h ++ [c]) := by
  unfold leave leaveV
  simp only [List.take_left]
  rw [show h.all (fineC h.length) = true from f]
  simp [hc]
def bgBody : List S := [.asg 4 (.bin .mod (.bi .int [(.bin .add (.bin .mul (.slot 4) (.lit (.int 48271))) (.slot 5))]) (.lit (.int 2147483647)))]
theorem seed_loop (g : G) (e0 e1 e2 e3 : Option NV) (h : Heap) : ∀ (cs : List Int) (sd : Int) (e5 : Option NV), ∃ (sd' : Int) (e5' : Option NV),
    forGo (fun x env h => opt (setTg env [5] x) fun env' => evalSs g bgBody env' h) (cs.map .int) [e0, e1, e2, e3, some (.v (.d (.int sd))), e5] h =
      .ok (.next [e0, e1, e2, e3, some (.v (.d (.int sd'))), e5']) h
  | [], sd, e5 => ⟨sd, e5, by rw [List.map_nil, forGo_nil]⟩
  | c :: cs, sd, e5 => by
    obtain ⟨sd', e5', q⟩ := seed_loop g e0 e1 e2 e3 h cs ((sd * 48271 + c) % 2147483647) (some (.v (.d (.int c))))
    refine ⟨sd', e5', ?_⟩
    rw [List.map_cons, forGo_cons, ← q]
    have a6 : small64 48271 = true := by decide
    simp [setTg, setEnv, slotOf, a6, bgBody]
theorem disp_m (l s : D) (c sp : D) : dispD [.str [108, 101, 102, 116], l, .str [115, 101, 101, 100], s, .str [99, 101, 108, 108, 115], c, .str [115, 112, 111, 116], sp] = some ([kLeft, kSeed, kCells, kSpot], [l, s, c, sp]) := rfl
def filtI (cs : List Int) : List Int := cs.filter fun z => decide (1000000000000000000 ≤ z)
theorem begun_body (t : DrI) : t.d_law_begun.body = [.asg 2 (.bin .add (.sliL (.slot 0) (.slot 1)) (.sliH (.slot 0) (.slot 1))), .asg 3 (.comp false (.slot 5) [5] [5] .val [(.slot 2)] [(.cmp .ge (.slot 5) (.bin .pow (.lit (.int 10)) (.lit (.int 18))))]), .asg 4 (.bin .add (.lit (.int 97)) (.slot 1)), .for [5] .val [(.slot 2)] bgBody, .ret (.dct true [(.lit (.str [108, 101, 102, 116])), (.ite (.cmp .ne (.slot 3) (.lst false [])) (.idx (.slot 3) (.lit (.int 0))) (.lit (.int 0))), (.lit (.str [115, 101, 101, 100])), (.slot 4), (.lit (.str [99, 101, 108, 108, 115])), (.bin .add (.slot 2) (.lst false [(.bin .add (.bin .mul (.lit (.int 31)) (.slot 1)) (.lit (.int 5)))])), (.lit (.str [115, 112, 111, 116])), (.lit (.int 0))])] := rfl
theorem begun_run {t : DrI} {p : Prog} {n : Nat} (A : t.At p) {h : Heap} (hf : Fine h) (ns : List Int) (hn : ns.length ≤ 1000) (k : Int) (b : Nat) (hb : b ≤ 2 ^ 30) :
    ∃ c, callN p (n + 1) t.f_law_begun [.d (.lst (ns.map .int)), .d (.int k)] h = .ok (.ref h.length) (h ++ [c]) ∧ St h.length b (h ++ [c]) := by
  rw [callN_run A.law_begun rfl]
  have hm : ns.map D.int = ns.map .int := rfl
  obtain ⟨cs, hcs⟩ : ∃ cs, cs = sliceL ns (some k) none ++ sliceL ns none (some k) := ⟨_, rfl⟩
  have l1 := sliceL_le ns (some k) none
  have l2 := sliceL_le ns none (some k)
  have hl : (sliceL ns (some k) none).length + (sliceL ns none (some k)).length ≤ line := by unfold line; omega
  have hcl : cs.length ≤ 2000 := by rw [hcs, List.length_append]; omega
  have hfl : (filtI cs).length ≤ line := by
    have : (filtI cs).length ≤ cs.length := List.length_filter_le ..
    unfold line; omega
  have one : decide (1 ≤ line) = true := by decide
  have fil : ∀ f : D → Heap → Res (Option D), (∀ z ∈ cs, f (.int z) h = .ok (if decide (1000000000000000000 ≤ z) then some (.int z) else none) h) → compGo f (cs.map .int) h = .ok ((filtI cs).map .int) h := by
    intro f e
    have := compGo_pure (f := f) (g := fun x => match x with | .int z => if decide (1000000000000000000 ≤ z) then some (.int z) else none | _ => none) (xs := cs.map .int) (h := h) (by
      intro x hx
      obtain ⟨z, hz, rfl⟩ := List.mem_map.mp hx
      exact e z hz)
    rw [this]
    congr 1
    unfold filtI
    clear this e hcs hcl hfl
    induction cs with
    | nil => rfl
    | cons c cs ih =>
      rw [List.map_cons, List.filterMap_cons, ih, List.filter_cons]
      by_cases q : (1000000000000000000 : Int) ≤ c
      · simp [q]
      · simp [q]
  have p18 : binD .pow (.int 10) (.int 18) = some (.int 1000000000000000000) := rfl
  obtain ⟨sd, e5, L⟩ := seed_loop (gAt p n (fun _ => .bad) h.length) (some (.v (.d (.lst (ns.map .int))))) (some (.v (.d (.int k)))) (some (.v (.d (.lst (cs.map .int))))) (some (.v (.d (.lst ((filtI cs).map .int))))) h cs (97 + k) none
  rw [begun_body]
  simp only [startEnv, show t.d_law_begun.ns = 6 from rfl, show t.d_law_begun.ps = 2 from rfl]
  have tk : ∀ g : G, evalE g (.bin .add (.sliL (.slot 0) (.slot 1)) (.sliH (.slot 0) (.slot 1))) [some (.v (.d (.lst (ns.map .int)))), some (.v (.d (.int k))), none, none, none, none] h = .ok (.d (.lst (cs.map .int))) h := by
    intro g
    simp [slotOf, slice_lst, sliceL_map, hl, hcs]
  have gr : ∀ g : G, evalE g (.comp false (.slot 5) [5] [5] .val [(.slot 2)] [(.cmp .ge (.slot 5) (.bin .pow (.lit (.int 10)) (.lit (.int 18))))]) [some (.v (.d (.lst (ns.map .int)))), some (.v (.d (.int k))), some (.v (.d (.lst (cs.map .int)))), none, none, none] h = .ok (.d (.lst ((filtI cs).map .int))) h := by
    intro g
    simp [slotOf]
    rw [fil]
    · simp [fits, hfl]
    · intro z hz
      by_cases q : (1000000000000000000 : Int) ≤ z <;> simp [setTg, setEnv, wipeE, p18, -b_pow, q]
  simp only [List.map_cons, List.map_nil, List.cons_append, List.nil_append, List.replicate, Nat.sub, Ss_cons, S_asg, tk, gr, Res.bind_ok, nxt_next, setEnv, List.set_cons_succ, List.set_cons_zero]
  have a31 : small64 31 = true := by decide
  have l0 : decide (0 ≤ line) = true := by decide
  have hl2 : cs.length + 1 ≤ line := by unfold line; omega
  obtain ⟨l, hle⟩ : ∃ l : Int, ∀ (g : G) (e0 e1 e2 e4 e5 : Option NV), evalE g (.ite (.cmp .ne (.slot 3) (.lst false [])) (.idx (.slot 3) (.lit (.int 0))) (.lit (.int 0))) [e0, e1, e2, some (.v (.d (.lst ((filtI cs).map .int)))), e4, e5] h = .ok (.d (.int l)) h := by
    cases filtI cs with
    | nil => exact ⟨0, by intros; simp [slotOf, fits, l0, eqD_nilL, nilB]⟩
    | cons z r =>
      exact ⟨z, by intros; simp [slotOf, fits, l0, eqD_nilL, nilB, seqAt, spot]⟩
  refine ⟨mcell l sd (cs ++ [31 * k + 5]) 0, ?_, ⟨hf.app rfl, l, sd, cs ++ [31 * k + 5], 0, by simp, by simp, by omega, by omega⟩⟩
  have cl : ∀ (g : G) (e0 e3 e4 e5 : Option NV), evalE g (.bin .add (.slot 2) (.lst false [(.bin .add (.bin .mul (.lit (.int 31)) (.slot 1)) (.lit (.int 5)))])) [e0, some (.v (.d (.int k))), some (.v (.d (.lst (cs.map .int)))), e3, e4, e5] h = .ok (.d (.lst ((cs ++ [31 * k + 5]).map .int))) h := by
    intros
    simp [slotOf, a31, fits, one, hl2]
  have ad : ∀ (g : G) (e0 e2 e3 e4 e5 : Option NV), evalE g (.bin .add (.lit (.int 97)) (.slot 1)) [e0, some (.v (.d (.int k))), e2, e3, e4, e5] h = .ok (.d (.int (97 + k))) h := by
    intros
    simp [slotOf]
  have sl : ∀ (g : G) (e0 e1 e2 e3 e4 : Option NV) (v : PV), evalE g (.slot 4) [e0, e1, e2, e3, some (.v v), e4] h = .ok v h := by
    intros
    simp [slotOf]
  have ls : ∀ (g : G) (e0 e1 e3 e4 e5 : Option NV) (v : PV), evalE g (.slot 2) [e0, e1, some (.v v), e3, e4, e5] h = .ok v h := by
    intros
    simp [slotOf]
  simp only [ad, Res.bind_ok, nxt_next, S_for, Es_cons, Es_nil, ls, w_val, items_lst, opt_some, L, S_ret, E_dct, E_lit, hle, sl, cl, keeps_d, keeps_nil, Option.map_some, disp_m, if_true, nxt_ret, fin_ret]
  rw [show decide ([kLeft, kSeed, kCells, kSpot].length ≤ 15) = true from rfl, need_true, Res.bind_ok, nxt_ret, fin_ret]
  exact leave_ref hf rfl
end Ev
end
section
/-! EvLw1: law k84 (defs printed by gen3.py), run: what is right, what is refused. -/
set_option autoImplicit false
set_option linter.all false
set_option maxRecDepth 100000
namespace Ev
structure LwI where
  th : ThI
  dr : DrI
  lt : LtI
  f_law : Nat
  f_law_bounds_right : Nat
  f_law_is_refused : Nat
  f_law_is_right : Nat
  f_law_nested : Nat
  f_law_odd : Nat
  f_law_plain : Nat
  f_law_spoiled : Nat
  f_law_thing : Nat
  f_law_told : Nat
  f_law_wide_right : Nat
/-- _law_plain: 0 _law_m 1 _law_some -/
def LwI.d_law_plain (t : LwI) : Def := ⟨1, 2, [.asg 1 (.lst false [(.lit (.int 0)), (.lit (.int 1)), (.neg (.lit (.int 1))), (.lit (.int 7)), (.lit (.int 10)), (.neg (.lit (.int 30))), (.bin .sub (.call t.dr.f_law_draw [(.slot 0), (.lit (.int 1000))]) (.lit (.int 500))), (.bin .add (.bin .pow (.lit (.int 10)) (.lit (.int 30))) (.call t.dr.f_law_draw [(.slot 0), (.bin .mul (.lit (.int 9)) (.bin .pow (.lit (.int 10)) (.lit (.int 30))))])), (.lit .non), (.lit (.bl true)), (.lit (.bl false))]), .ret (.call t.dr.f_law_of [(.slot 0), (.bin .add (.slot 1) (.lst false [(.lit (.str [97])), (.lit (.str [122])), (.lit (.str [107, 101, 112, 116])), (.lit (.str [97, 108, 105, 107, 101])), (.lit (.str [97, 98, 99, 100, 101, 102, 103, 104, 105, 106, 107, 108])), (.sliH (.lit (.str [100, 111, 110, 101])) (.bin .add (.lit (.int 1)) (.call t.dr.f_law_draw [(.slot 0), (.lit (.int 4))])))]))])]⟩
/-- _law_thing: 0 _law_m 1 _law_deep 2 _law_k -/
def LwI.d_law_thing (t : LwI) : Def := ⟨2, 3, [.ite (.or (.cmp .eq (.slot 1) (.lit (.int 0))) (.cmp .eq (.call t.dr.f_law_draw [(.slot 0), (.lit (.int 4))]) (.lit (.int 0)))) [.ret (.call t.f_law_plain [(.slot 0)])] [], .ret (.bi .tuple [(.comp false (.call t.f_law_thing [(.slot 0), (.bin .sub (.slot 1) (.lit (.int 1)))]) [2] [2] .rng [(.call t.dr.f_law_draw [(.slot 0), (.lit (.int 4))])] [])])]⟩
/-- _law_odd: 0 _law_m 1 _law_some -/
def LwI.d_law_odd (t : LwI) : Def := ⟨1, 2, [.asg 1 (.lst false [(.lst false []), (.dct false []), (.lit (.str [])), (.lit (.str [65])), (.lit (.str [97, 98, 49])), (.lit (.str [97, 32, 98])), (.lit (.str [95])), (.lit (.str [97, 98, 99, 100, 101, 102, 103, 104, 105, 106, 107, 108, 109])), (.bin .pow (.lit (.int 10)) (.lit (.int 31))), (.neg (.bin .pow (.lit (.int 10)) (.lit (.int 31)))), (.bin .pow (.lit (.int 10)) (.lit (.int 64))), (.lst false [(.lit (.int 0))]), (.dct false [(.lit (.str [97])), (.lit (.int 1))])]), .ret (.call t.dr.f_law_of [(.slot 0), (.bin .add (.slot 1) (.lst false [(.dct false [(.lit (.int 0)), (.lit .non)]), (.lit (.str [107, 101, 112, 116, 32])), (.lit (.str [45])), (.lit (.str [43])), (.lit (.str [40])), (.lit (.str [57])), (.lst false [(.lit (.str [97]))])]))])]⟩
/-- _law_spoiled: 0 _law_m 1 _law_thing_here 2 _law_spot -/
def LwI.d_law_spoiled (t : LwI) : Def := ⟨2, 3, [.ite (.or (.not (.isi (.slot 1) .tuple)) (.or (.cmp .eq (.slot 1) (.tup [])) (.cmp .eq (.call t.dr.f_law_draw [(.slot 0), (.lit (.int 3))]) (.lit (.int 0))))) [.ret (.ite (.not (.isi (.slot 1) .tuple)) (.call t.f_law_odd [(.slot 0)]) (.bin .add (.slot 1) (.tup [(.call t.f_law_odd [(.slot 0)])])))] [], .asg 2 (.call t.dr.f_law_draw [(.slot 0), (.bi .len [(.slot 1)])]), .ret (.bin .add (.bin .add (.sliH (.slot 1) (.slot 2)) (.tup [(.call t.f_law_spoiled [(.slot 0), (.idx (.slot 1) (.slot 2))])])) (.sliL (.slot 1) (.bin .add (.slot 2) (.lit (.int 1)))))]⟩
/-- _law_told: 0 _law_call 1 _law_found 2 e -/
def LwI.d_law_told (t : LwI) : Def := ⟨1, 3, [.asg 1 (.tup [(.lit (.str [111, 100, 100])), (.lit .non)]), .tri (.asg 1 (.lst false [(.act 0)])) [(t.th.x_BadText, some 2), (t.th.x_OutOfPlace, none)] [[.asg 1 (.tup [(.lit (.str [116, 101, 120, 116])), (.exf 2)])], [.asg 1 (.tup [(.lit (.str [112, 108, 97, 99, 101])), (.lit .non)])]], .ret (.slot 1)]⟩
/-- _law_is_right: 0 _law_thing_here 1 _law_text_here 2 _law_kept 3 _law_turn 4 _law_told_here -/
def LwI.d_law_is_right (t : LwI) : Def := ⟨1, 5, [.par 1 2 (.call t.lt.f_law_text [(.slot 0)]) (.bi .repr [(.slot 0)]), .for [3] .rng [(.lit (.int 2))] [.asg 4 (.lst false [(.call t.th.f_is_thing [(.slot 0)]), (.call t.th.f_thing_text [(.slot 0)]), (.call t.th.f_read_thing [(.slot 1)])]), .ite (.cmp .ne (.bi .repr [(.slot 4)]) (.bi .repr [(.lst false [(.lit (.bl true)), (.slot 1), (.slot 0)])])) [.ret (.lit (.bl false))] []], .ret (.cmp .eq (.bi .repr [(.slot 0)]) (.slot 2))]⟩
/-- _law_is_refused: 0 _law_thing_here 1 _law_kept 2 _law_told_here -/
def LwI.d_law_is_refused (t : LwI) : Def := ⟨1, 3, [.asg 1 (.bi .repr [(.slot 0)]), .asg 2 (.lst false [(.lam t.f_law_told (.call t.th.f_is_thing [(.slot 0)])), (.lam t.f_law_told (.call t.th.f_thing_text [(.slot 0)]))]), .ret (.and (.cmp .eq (.bi .repr [(.slot 2)]) (.bi .repr [(.lst false [(.lst false [(.lit (.bl false))]), (.tup [(.lit (.str [112, 108, 97, 99, 101])), (.lit .non)])])])) (.cmp .eq (.bi .repr [(.slot 0)]) (.slot 1)))]⟩
/-- _law_nested: 0 _law_first 1 _law_many 2 _law_found 3 _law_turn -/
def LwI.d_law_nested (t : LwI) : Def := ⟨2, 4, [.asg 2 (.slot 0), .for [3] .rng [(.slot 1)] [.asg 2 (.tup [(.slot 2)])], .ret (.slot 2)]⟩
/-- _law_bounds_right: 0 _law_great 1 _law_more 2 _law_thing_here -/
def LwI.d_law_bounds_right (t : LwI) : Def := ⟨0, 3, [.asg 0 (.lst true [(.bin .sub (.bin .pow (.lit (.int 10)) (.lit (.int 31))) (.lit (.int 1))), (.bin .sub (.lit (.int 1)) (.bin .pow (.lit (.int 10)) (.lit (.int 31)))), (.lit (.str [97, 98, 99, 100, 101, 102, 103, 104, 105, 106, 107, 108])), (.tup []), (.call t.f_law_nested [(.tup []), (.lit (.int 20))]), (.call t.f_law_nested [(.lit (.int 7)), (.lit (.int 20))])]), .expr (.mt .append (.slot 0) [(.tup [(.tup [(.tup []), (.tup [])]), (.tup [(.tup [(.tup [])])]), (.lit (.bl true))])]), .ite (.cmp .ne (.comp false (.slot 2) [2] [2] .val [(.frz (.slot 0))] [(.not (.call t.f_law_is_right [(.slot 2)]))]) (.lst false [])) [.ret (.lit (.bl false))] [], .asg 1 (.lst false [(.bin .pow (.lit (.int 10)) (.lit (.int 31))), (.neg (.bin .pow (.lit (.int 10)) (.lit (.int 31)))), (.lit (.str [97, 98, 99, 100, 101, 102, 103, 104, 105, 106, 107, 108, 109])), (.call t.f_law_nested [(.tup []), (.lit (.int 21))]), (.call t.f_law_nested [(.lit (.int 7)), (.lit (.int 21))]), (.call t.f_law_nested [(.lit (.int 7)), (.lit (.int 30))]), (.lit (.str []))]), .asg 1 (.bin .add (.slot 1) (.lst false [(.tup [(.lst false [])]), (.tup [(.tup [(.lit (.str [97])), (.tup [(.lit (.str [98])), (.dct false [])])])])])), .ret (.cmp .eq (.comp false (.slot 2) [2] [2] .val [(.slot 1)] [(.not (.call t.f_law_is_refused [(.slot 2)]))]) (.lst false []))]⟩
/-- _law_wide_right: 0 _law_great 1 _law_more 2 _law_thing_here -/
def LwI.d_law_wide_right (t : LwI) : Def := ⟨0, 3, [.asg 0 (.lst false [(.bin .mul (.tup [(.lit (.int 0))]) (.lit (.int 3999))), (.call t.f_law_nested [(.bin .mul (.tup [(.lit (.int 0))]) (.lit (.int 3980))), (.lit (.int 19))])]), .asg 1 (.lst false [(.bin .mul (.tup [(.lit (.int 0))]) (.lit (.int 4000))), (.call t.f_law_nested [(.bin .mul (.tup [(.lit (.int 0))]) (.lit (.int 3981))), (.lit (.int 19))]), (.tup [(.bin .mul (.tup [(.lit (.int 0))]) (.lit (.int 2000))), (.bin .mul (.tup [(.lit .non)]) (.lit (.int 1998)))])]), .ite (.cmp .ne (.comp false (.slot 2) [2] [2] .val [(.slot 0)] [(.or (.cmp .isNot (.call t.th.f_is_thing [(.slot 2)]) (.lit (.bl true))) (.cmp .ne (.call t.th.f_read_thing [(.call t.th.f_thing_text [(.slot 2)])]) (.slot 2)))]) (.lst false [])) [.ret (.lit (.bl false))] [], .ret (.cmp .eq (.comp false (.slot 2) [2] [2] .val [(.slot 1)] [(.cmp .isNot (.call t.th.f_is_thing [(.slot 2)]) (.lit (.bl false)))]) (.lst false []))]⟩
/-- law: 0 _law_script 1 _law_k 2 _law_m 3 _law_one 4 _law_other -/
def LwI.d_law (t : LwI) : Def := ⟨1, 5, [.for [1] .rng [(.bin .add (.lit (.int 6)) (.bi .min2 [(.bi .len [(.slot 0)]), (.lit (.int 4))]))] [.asg 2 (.call t.dr.f_law_begun [(.slot 0), (.slot 1)]), .par 3 4 (.call t.f_law_thing [(.slot 2), (.lit (.int 4))]) (.call t.f_law_thing [(.slot 2), (.lit (.int 4))]), .ite (.or (.not (.call t.f_law_is_right [(.slot 3)])) (.not (.call t.f_law_is_right [(.slot 4)]))) [.ret (.lit (.bl false))] [], .ite (.cmp .ne (.cmp .eq (.call t.th.f_thing_text [(.slot 3)]) (.call t.th.f_thing_text [(.slot 4)])) (.cmp .eq (.bi .repr [(.slot 3)]) (.bi .repr [(.slot 4)]))) [.ret (.lit (.bl false))] [], .ite (.or (.not (.call t.f_law_is_refused [(.call t.f_law_spoiled [(.slot 2), (.slot 3)])])) (.not (.call t.f_law_is_refused [(.lst false [(.slot 3)])]))) [.ret (.lit (.bl false))] []], .ite (.and (.cmp .eq (.bin .mod (.bi .int [(.bi .len [(.slot 0)])]) (.lit (.int 8))) (.lit (.int 0))) (.not (.call t.f_law_wide_right []))) [.ret (.lit (.bl false))] [], .ret (.call t.f_law_bounds_right [])]⟩
/-- the text has these -/
structure LwI.At (t : LwI) (p : Prog) : Prop where
  th : t.th.At p
  dr : t.dr.At p
  lt : t.lt.At p
  law_plain : p.defs t.f_law_plain = some t.d_law_plain
  law_thing : p.defs t.f_law_thing = some t.d_law_thing
  law_odd : p.defs t.f_law_odd = some t.d_law_odd
  law_spoiled : p.defs t.f_law_spoiled = some t.d_law_spoiled
  law_told : p.defs t.f_law_told = some t.d_law_told
  law_is_right : p.defs t.f_law_is_right = some t.d_law_is_right
  law_is_refused : p.defs t.f_law_is_refused = some t.d_law_is_refused
  law_nested : p.defs t.f_law_nested = some t.d_law_nested
  law_bounds_right : p.defs t.f_law_bounds_right = some t.d_law_bounds_right
  law_wide_right : p.defs t.f_law_wide_right = some t.d_law_wide_right
  law : p.defs t.f_law = some t.d_law
section
variable {t : LwI} {p : Prog} {n : Nat} {h : Heap}
theorem told_ok (A : t.At p) (hf : Fine h) (th : Heap → Res PV) (v : D) (e : th h = .ok (.d v) h) : lamN p (n + 1) t.f_law_told th h = .ok (.d (.lst [v])) h := by
  rw [lamN_run A.law_told rfl]
  have l2 : decide (2 ≤ line) = true := by decide
  have l1 : decide (1 ≤ line) = true := by decide
  simp [LwI.d_law_told, startEnv, slotOf, setEnv, fits, l1, l2, e, hf]
theorem told_place (A : t.At p) (hx : t.th.x_BadText ≠ t.th.x_OutOfPlace) (hf : Fine h) (th : Heap → Res PV) (pl : List D) (e : th h = .exc t.th.x_OutOfPlace pl h) : lamN p (n + 1) t.f_law_told th h = .ok (.d (.tup [.str [112, 108, 97, 99, 101], .non])) h := by
  rw [lamN_run A.law_told rfl]
  have l2 : decide (2 ≤ line) = true := by decide
  have l1 : decide (1 ≤ line) = true := by decide
  simp [LwI.d_law_told, startEnv, slotOf, setEnv, fits, l1, l2, e, hf, evalH, hx, noExn]
theorem is_refused_run (A : t.At p) (hx : t.th.x_BadText ≠ t.th.x_OutOfPlace) (hf : Fine h) (x : D) (hi : isThing x = false) (hn : nodes x ≤ line) (s : List Nat) (hs : reprD x = some s) :
    callN p (n + 6) t.f_law_is_refused [.d x] h = .ok (.d (.bl true)) h := by
  rw [callN_run A.law_is_refused rfl]
  have e1 : callN p (n + 5) t.th.f_is_thing [.d x] h = _ := is_thing_run (n := n + 2) A.th x hf hn
  have e2 : callN p (n + 5) t.th.f_thing_text [.d x] h = _ := thing_text_exc (n := n + 1) A.th x hf hi hn
  have k1 : evalE (gAt p (n + 5) (fun _ => .bad) h.length) (.lam t.f_law_told (.call t.th.f_is_thing [(.slot 0)])) [some (.v (.d x)), some (.v (.d (.str s))), none] h = .ok (.d (.lst [.bl false])) h := by
    rw [E_lam]
    exact told_ok (n := n + 4) A hf _ _ (by simp [dataE, dataN, slotOf, e1, hi])
  have k2 : evalE (gAt p (n + 5) (fun _ => .bad) h.length) (.lam t.f_law_told (.call t.th.f_thing_text [(.slot 0)])) [some (.v (.d x)), some (.v (.d (.str s))), none] h = .ok (.d (.tup [.str [112, 108, 97, 99, 101], .non])) h := by
    rw [E_lam]
    exact told_place (n := n + 4) A hx hf _ _ (by simp [dataE, dataN, slotOf, e2]; rfl)
  have l2 : decide (2 ≤ line) = true := by decide
  have l1 : decide (1 ≤ line) = true := by decide
  have r : ∃ z, reprD (.lst [.lst [.bl false], .tup [.str [112, 108, 97, 99, 101], .non]]) = some z := ⟨_, rfl⟩
  obtain ⟨z, r⟩ := r
  simp [LwI.d_law_is_refused, startEnv, slotOf, setEnv, hs, k1, k2, -E_lam, fits, l1, l2, r, eqD_str, hf]
theorem is_right_run (A : t.At p) (hf : Fine h) (hp : 16000 ≤ p.fuel) (x : D) (hi : isThing x = true) : callN p (n + 22) t.f_law_is_right [.d x] h = .ok (.d (.bl true)) h := by
  rw [callN_run A.law_is_right rfl]
  obtain ⟨h1, h2, h3⟩ := isThing_plain hi
  have e0 : callN p (n + 21) t.lt.f_law_text [.d x] h = _ := law_text_run (n := n) A.lt hf 20 x h1 h3 h2
  have hl := txt_len h1
  have e1 : callN p (n + 21) t.th.f_is_thing [.d x] h = _ := is_thing_run (n := n + 18) A.th x hf (by unfold line; omega)
  have e2 : callN p (n + 21) t.th.f_thing_text [.d x] h = _ := thing_text_run (n := n + 17) A.th x hf hi hp
  have e3 : callN p (n + 21) t.th.f_read_thing [.d (.str (txt x))] h = _ := read_thing_run (n := n + 17) A.th (txt x) hf (by unfold line; omega)
  rw [read_txt hi] at e3
  have l3 : decide (3 ≤ line) = true := by decide
  obtain ⟨z, r⟩ : ∃ z, reprD (.lst [.bl true, .str (txt x), x]) = some z := repr_told hi
  have r2 : rngD 0 2 = some [.int 0, .int 1] := rfl
  simp [LwI.d_law_is_right, startEnv, slotOf, setEnv, setTg, e0, e1, e2, e3, repr_thing hi, r2, forGo_cons, forGo_nil, fits, l3, resT, hi, r, eqD_str, hf]
end
end Ev
end
section
/-! EvLw2: law k84: what is drawn. -/
set_option autoImplicit false
set_option linter.all false
set_option maxRecDepth 100000
namespace Ev
theorem compGo_dr {f : D → Heap → Res (Option D)} {P : D → Prop} {m c N : Nat} (step : ∀ (x : D) (k : Nat) (H : Heap), St m (k + c) H → H.length = N → ∃ y H', f x H = .ok (some y) H' ∧ P y ∧ St m k H' ∧ H'.length = N) :
    ∀ (xs : List D) (k : Nat) (H : Heap), St m (k + xs.length * c) H → H.length = N → ∃ ys H', compGo f xs H = .ok ys H' ∧ ys.length = xs.length ∧ (∀ y ∈ ys, P y) ∧ St m k H' ∧ H'.length = N
  | [], k, H, S, hl => ⟨[], H, rfl, rfl, by simp, by simpa using S, hl⟩
  | x :: xs, k, H, S, hl => by
    have S : St m ((k + xs.length * c) + c) H := by
      rw [List.length_cons, Nat.add_mul, Nat.one_mul, ← Nat.add_assoc] at S
      exact S
    obtain ⟨y, H1, e1, p1, S1, l1⟩ := step x _ H S hl
    obtain ⟨ys, H2, e2, n2, p2, S2, l2⟩ := compGo_dr step xs k H1 S1 l1
    refine ⟨y :: ys, H2, ?_, by simp [n2], ?_, S2, l2⟩
    · rw [compGo, e1, Res.bind_ok, e2, Res.bind_ok]
    · intro z hz
      rcases List.mem_cons.mp hz with rfl | hz
      · exact p1
      · exact p2 z hz
/-- 0, 1 .. -/
def cnt (j : Nat) : List D := (List.range j).map fun k : Nat => D.int (0 + (k : Int))
theorem cnt_len (j : Nat) : (cnt j).length = j := by simp [cnt]
theorem rng_small {r : Int} (h0 : 0 ≤ r) (h1 : r ≤ 100000) : rngD 0 r = some (cnt r.toNat) := by
  unfold rngD
  rw [if_pos]
  · rw [Int.sub_zero]; rfl
  · have : r - 0 ≤ (line : Nat) := by unfold line; omega
    simp
    unfold line
    omega
section
variable {t : LwI} {p : Prog} {n : Nat} {m k : Nat} {H : Heap}
theorem plain_run (A : t.At p) (S : St m (k + 4) H) : ∃ x H', callN p (n + 3) t.f_law_plain [.ref m] H = .ok (.d x) H' ∧ isPlain x = true ∧ St m k H' ∧ H'.length = H.length := by
  obtain ⟨r1, H1, e1, g1, S1, l1⟩ := draw_run (n := n + 1) (k := k + 3) A.dr S (many := 1000) (by decide) (by decide +kernel)
  obtain ⟨r2, H2, e2, g2, S2, l2⟩ := draw_run (n := n + 1) (k := k + 2) A.dr S1 (many := 9000000000000000000000000000000) (by decide) (by decide +kernel)
  obtain ⟨r3, H3, e3, g3, S3, l3⟩ := draw_run (n := n + 1) (k := k + 1) A.dr S2 (many := 4) (by decide) (by decide +kernel)
  obtain ⟨x, H4, e4, hx, S4, l4⟩ := of_run (n := n) (k := k) A.dr S3 (xs := [.int 0, .int 1, .int (-1), .int 7, .int 10, .int (-30), .int (r1 - 500), .int (1000000000000000000000000000000 + r2), .non, .bl true, .bl false, .str [97], .str [122], .str [107, 101, 112, 116], .str [97, 108, 105, 107, 101], .str [97, 98, 99, 100, 101, 102, 103, 104, 105, 106, 107, 108], .str (sliceL [100, 111, 110, 101] none (some (1 + r3)))]) (by simp) (by simp)
  refine ⟨x, H4, ?_, ?_, S4, by omega⟩
  · rw [callN_run A.law_plain rfl]
    have l11 : decide (11 ≤ line) = true := by decide
    have l6 : decide (6 ≤ line) = true := by decide
    have l17 : 17 ≤ line := by decide
    have s9 : small64 9 = true := by decide
    have sl : ∀ i, sliceD (.str [100, 111, 110, 101]) none (some i) = some (.str (sliceL [100, 111, 110, 101] none (some i))) := fun i => rfl
    simp [LwI.d_law_plain, startEnv, slotOf, setEnv, e1, e2, e3, fits, l11, l6, l17, s9, sl, e4]
    exact leave_len S4.fine (by omega)
  · have big : ∀ i : Int, i.natAbs < 10 ^ 31 → isPlain (.int i) = true := by
      intro i hi
      simp only [isPlain, big31_eq]
      exact decide_eq_true (Int.ofNat_lt.mpr hi)
    have hs : isPlain (.str (sliceL [100, 111, 110, 101] none (some (1 + r3)))) = true := by
      have : r3 = 0 ∨ r3 = 1 ∨ r3 = 2 ∨ r3 = 3 := by omega
      rcases this with rfl | rfl | rfl | rfl <;> decide
    simp only [List.mem_cons, List.not_mem_nil, or_false] at hx
    rcases hx with rfl | rfl | rfl | rfl | rfl | rfl | rfl | rfl | rfl | rfl | rfl | rfl | rfl | rfl | rfl | rfl | rfl <;> first | exact hs | rfl | (exact big _ (by omega)) | decide
def nb : Nat → Nat
  | 0 => 1
  | d + 1 => 1 + 3 * nb d
def bud : Nat → Nat
  | 0 => 4
  | d + 1 => 2 + 3 * bud d
theorem bud_le (d : Nat) : 4 ≤ bud d := by induction d with | zero => simp [bud] | succ d ih => simp [bud]; omega
theorem nb_le (d : Nat) : 1 ≤ nb d := by cases d <;> simp [nb] <;> omega
structure Small (d : Nat) (x : D) : Prop where
  pl : allPlain x = true
  lv : lvl x ≤ d
  nd : nodes x ≤ nb d
theorem small_leaf {d : Nat} {x : D} (h : isPlain x = true) : Small d x := by
  have ht : isTup x = false := by cases x <;> first | rfl | cases h
  refine ⟨by rw [allPlain_leaf ht]; exact h, ?_, ?_⟩
  · cases x <;> first | (cases ht; done) | simp [lvl]
  · have := nb_le d
    cases x <;> first | (cases ht; done) | (simp [nodes]; omega)
theorem small_tup {d : Nat} {ys : List D} (h : ∀ y ∈ ys, Small d y) (hl : ys.length ≤ 3) : Small (d + 1) (.tup ys) := by
  have a : allPlains ys = true := by rw [plains_all]; exact List.all_eq_true.mpr fun y hy => (h y hy).pl
  have b : lvls ys ≤ d + 1 := by
    clear hl a
    induction ys with
    | nil => simp [lvls]
    | cons y ys ih =>
      have := ih fun z hz => h z (by simp [hz])
      have := (h y (by simp)).lv
      rw [lvls]; omega
  have c : nodesL ys ≤ ys.length * nb d := by
    clear hl a b
    induction ys with
    | nil => simp [nodesL]
    | cons y ys ih =>
      have := ih fun z hz => h z (by simp [hz])
      have := (h y (by simp)).nd
      rw [nodesL, List.length_cons, Nat.add_mul]; omega
  refine ⟨by rw [allPlain]; exact a, by rw [lvl]; exact b, ?_⟩
  rw [nodes, nb]
  have : ys.length * nb d ≤ 3 * nb d := Nat.mul_le_mul_right _ hl
  omega
theorem thing_run (A : t.At p) : ∀ (d k : Nat) (H : Heap), St m (k + bud d) H → ∃ x H', callN p (n + d + 4) t.f_law_thing [.ref m, .d (.int d)] H = .ok (.d x) H' ∧ Small d x ∧ St m k H' ∧ H'.length = H.length
  | 0, k, H, S => by
    obtain ⟨x, H1, e1, g1, S1, l1⟩ := plain_run (n := n) (k := k) A S
    refine ⟨x, H1, ?_, small_leaf g1, S1, l1⟩
    rw [callN_run A.law_thing rfl]
    simp [LwI.d_law_thing, startEnv, slotOf, eqD_int, e1]
    exact leave_len S1.fine l1
  | d + 1, k, H, S => by
    have hb := bud_le d
    have hd : ¬ ((d : Int) + 1 = 0) := by omega
    obtain ⟨r, H1, e1, g1, S1, l1⟩ := draw_run (n := n + d + 3) (k := k + 1 + 3 * bud d) A.dr (S.mono (by rw [bud]; omega)) (many := 4) (by decide) (by decide +kernel)
    rw [callN_run A.law_thing rfl]
    by_cases hr : r = 0
    · obtain ⟨x, H2, e2, g2, S2, l2⟩ := plain_run (n := n + d + 1) (k := k) A (S1.mono (by omega))
      refine ⟨x, H2, ?_, small_leaf g2, S2, by omega⟩
      subst hr
      simp [LwI.d_law_thing, startEnv, slotOf, eqD_int, hd, show n + (d + 1) + 3 = n + d + 3 + 1 from by omega, e1]
      have e2 : callN p (n + d + 3 + 1) t.f_law_plain [.ref m] H1 = _ := e2
      rw [e2]
      simp
      exact leave_len S2.fine (by omega)
    · obtain ⟨r2, H2, e2, g2, S2, l2⟩ := draw_run (n := n + d + 3) (k := k + 3 * bud d) A.dr (S1.mono (by omega)) (many := 4) (by decide) (by decide +kernel)
      obtain ⟨j, hj⟩ : ∃ j : Nat, r2 = j := ⟨r2.toNat, by omega⟩
      subst hj
      have hj : j ≤ 3 := by omega
      have S2' : St m (k + (cnt j).length * bud d) H2 := S2.mono (by
        rw [cnt_len]
        have := Nat.mul_le_mul_right (bud d) hj
        omega)
      have q := rng_small (r := (j : Int)) (by omega) (by omega)
      obtain ⟨ys, H3, e3, n3, p3, S3, l3⟩ := compGo_dr (f := fun x H' => (callN p (n + d + 4) t.f_law_thing [.ref m, .d (.int d)] H').bind fun v h => keep v fun y => .ok (some y) h) (P := Small d) (m := m) (c := bud d) (N := H.length) (by
        intro x k H' S hl
        obtain ⟨y, H4, e4, g4, S4, l4⟩ := thing_run A d k H' S
        exact ⟨y, H4, by rw [e4]; rfl, g4, S4, by omega⟩) _ k H2 S2' (by omega)
      have cF : ∀ f : D → Heap → Res (Option D), (∀ x H', f x H' = (callN p (n + d + 4) t.f_law_thing [.ref m, .d (.int d)] H').bind fun v h => keep v fun y => .ok (some y) h) → compGo f (cnt j) H2 = .ok ys H3 := by
        intro f hf
        rw [show f = _ from funext fun x => funext fun H' => hf x H']
        exact e3
      rw [cnt_len] at n3
      refine ⟨.tup ys, H3, ?_, small_tup p3 (by omega), S3, by omega⟩
      have hr0 : ¬ r = 0 := hr
      rw [Int.toNat_natCast] at q
      have hy : ys.length ≤ line := by unfold line; omega
      have e2' : callN p (n + d + 4) t.dr.f_law_draw [.ref m, .d (.int 4)] H1 = _ := e2
      have e1' : callN p (n + d + 4) t.dr.f_law_draw [.ref m, .d (.int 4)] H = _ := e1
      simp [LwI.d_law_thing, startEnv, slotOf, eqD_int, hd, show n + (d + 1) + 3 = n + d + 4 from by omega, e1', hr0, e2', q]
      rw [cF]
      · simp [fits, hy]
        exact leave_len S3.fine (by omega)
      · intro x H'
        simp [wipeE, setTg, setEnv]
end
end Ev
end
section
/-! EvLw3: law k84: what is spoiled. -/
set_option autoImplicit false
set_option linter.all false
set_option maxRecDepth 100000
namespace Ev
structure Odd (o : D) : Prop where
  sh : Shows o
  pl : isPlain o = false
  tp : isTup o = false
theorem odd_str {s : List Nat} (h1 : s.all signOk = true) (h2 : (escT s).length ≤ 70) (h3 : isWordS s = false) : Odd (.str s) := by
  refine ⟨⟨⟨39 :: (escT s ++ [39]), by rw [shown, if_pos h1], by simp; omega⟩, by simp [D.depth], .inl rfl⟩, h3, rfl⟩
theorem odd_int {i : Int} (h1 : i.natAbs.log2 < 1920) (h2 : (digits i.natAbs).length ≤ 70) (h3 : 10 ^ 31 ≤ i.natAbs) : Odd (.int i) := by
  refine ⟨⟨⟨intText i, by rw [shown, if_pos h1], by unfold intText; split <;> (try simp) <;> omega⟩, by simp [D.depth], .inl rfl⟩, ?_, rfl⟩
  simp only [isPlain, big31_eq]
  refine decide_eq_false fun q => ?_
  have := Int.ofNat_lt.mp q
  omega
section
variable {t : LwI} {p : Prog} {n : Nat} {m k : Nat} {H : Heap}
theorem odd_run (A : t.At p) (S : St m (k + 1) H) : ∃ x H', callN p (n + 3) t.f_law_odd [.ref m] H = .ok (.d x) H' ∧ Odd x ∧ St m k H' ∧ H'.length = H.length := by
  obtain ⟨x, H4, e4, hx, S4, l4⟩ := of_run (n := n) (k := k) A.dr S (xs := [.lst [], .dct [] [], .str [], .str [65], .str [97, 98, 49], .str [97, 32, 98], .str [95], .str [97, 98, 99, 100, 101, 102, 103, 104, 105, 106, 107, 108, 109], .int 10000000000000000000000000000000, .int (-10000000000000000000000000000000), .int 10000000000000000000000000000000000000000000000000000000000000000, .lst [.int 0], .dct [.str [97]] [.int 1],
    .dct [.int 0] [.non], .str [107, 101, 112, 116, 32], .str [45], .str [43], .str [40], .str [57], .lst [.str [97]]]) (by simp) (by simp)
  refine ⟨x, H4, ?_, ?_, S4, by omega⟩
  · rw [callN_run A.law_odd rfl]
    have l13 : decide (13 ≤ line) = true := by decide
    have l7 : decide (7 ≤ line) = true := by decide
    have l0 : decide (0 ≤ line) = true := by decide
    have l1 : decide (1 ≤ line) = true := by decide
    have l20 : 20 ≤ line := by decide
    have d0 : dispD [] = some ([], []) := rfl
    have d1 : dispD [.str [97], .int 1] = some ([.str [97]], [.int 1]) := rfl
    have d2 : dispD [.int 0, .non] = some ([.int 0], [.non]) := rfl
    simp [LwI.d_law_odd, startEnv, slotOf, setEnv, fits, l13, l7, l20, l0, l1, d0, d1, d2, e4]
    exact leave_len S4.fine (by omega)
  · simp only [List.mem_cons, List.not_mem_nil, or_false] at hx
    rcases hx with rfl | rfl | rfl | rfl | rfl | rfl | rfl | rfl | rfl | rfl | rfl | rfl | rfl | rfl | rfl | rfl | rfl | rfl | rfl | rfl <;> first
      | exact odd_str (by decide) (by decide) (by decide)
      | exact odd_int (by decide +kernel) (by decide +kernel) (by decide +kernel)
      | exact ⟨⟨⟨_, rfl, by decide⟩, by decide, .inl rfl⟩, rfl, rfl⟩
      | exact ⟨⟨⟨_, rfl, by decide⟩, by decide, .inr rfl⟩, rfl, rfl⟩
theorem eqD_tup_nil {xs : List D} (h : (D.tup xs).lay = true) : eqD (.tup xs) (.tup []) = some (nilB xs) := by
  have d : (D.tup []).depth = 1 := by simp [D.depth, D.depths]
  have l : (D.tup []).lay = true := rfl
  unfold eqD
  simp only [isStr, apart, Bool.and_self, Bool.false_eq_true, if_false, h, l, d, Bool.true_and]
  rw [if_pos (decide_eq_true (by omega))]
  cases xs <;> rfl
theorem sl_take (xs : List D) (r : Nat) (hr : r < xs.length) : sliceD (.tup xs) none (some (r : Int)) = some (.tup (xs.take r)) := by
  rw [sliceD]
  unfold sliceL ixL
  have : ¬ (r : Int) < 0 := by omega
  simp [this]
theorem sl_drop (xs : List D) (r : Nat) (hr : r < xs.length) : sliceD (.tup xs) (some ((r : Int) + 1)) none = some (.tup (xs.drop (r + 1))) := by
  rw [sliceD]
  unfold sliceL ixL
  have : ¬ (r : Int) + 1 < 0 := by omega
  have e : ((r : Int) + 1).toNat = r + 1 := by omega
  have e2 : min (r + 1) xs.length = r + 1 := by omega
  simp [this, e, e2]
  rw [List.take_of_length_le]
  simp
/-- with something odd in it -/
structure Spoilt (x x' : D) : Prop where
  tree : ∃ o, Shows o ∧ tr o x'
  np : allPlain x' = false
  nd : nodes x' ≤ nodes x + 1
  lv : lvl x' ≤ lvl x + 1
theorem spoilt_odd {x o : D} (h : Odd o) : Spoilt x o := by
  have ht := h.tp
  refine ⟨⟨o, h.sh, tr_o ht⟩, by rw [allPlain_leaf ht]; exact h.pl, ?_, ?_⟩
  · have : nodes o = 1 := by cases o <;> first | (cases ht; done) | simp [nodes]
    omega
  · have : lvl o = 0 := by cases o <;> first | (cases ht; done) | simp [lvl]
    omega
theorem spoilt_app {xs : List D} {o : D} (hx : allPlains xs = true) (h : Odd o) : Spoilt (.tup xs) (.tup (xs ++ [o])) := by
  have ht := h.tp
  refine ⟨⟨o, h.sh, ?_⟩, ?_, ?_, ?_⟩
  · rw [tr]; exact trs_append (trs_plain hx) ⟨tr_o ht, trivial⟩
  · rw [allPlain, plains_append, allPlains, allPlain_leaf ht, h.pl]; simp
  · have : nodes o = 1 := by cases o <;> first | (cases ht; done) | simp [nodes]
    rw [nodes, nodes, nodesL_append]
    simp [nodesL]; omega
  · have : lvl o = 0 := by cases o <;> first | (cases ht; done) | simp [lvl]
    rw [lvl, lvl, lvls_append]
    simp [lvls]; omega
theorem spoilt_in {a b : List D} {x x' : D} (h1 : allPlains a = true) (h2 : allPlains b = true) (h : Spoilt x x') : Spoilt (.tup (a ++ x :: b)) (.tup (a ++ [x'] ++ b)) := by
  obtain ⟨⟨o, O, q⟩, n1, n2, n3⟩ := h
  refine ⟨⟨o, O, ?_⟩, ?_, ?_, ?_⟩
  · rw [tr]; exact trs_append (trs_append (trs_plain h1) ⟨q, trivial⟩) (trs_plain h2)
  · rw [allPlain, plains_append, plains_append, allPlains, n1]; simp
  · rw [nodes, nodes, nodesL_append, nodesL_append, nodesL_append]
    simp [nodesL]; omega
  · rw [lvl, lvl, lvls_append, lvls_append, lvls_append]
    simp [lvls]; omega
theorem spoiled_run (A : t.At p) : ∀ (d k : Nat) (H : Heap) (x : D), allPlain x = true → lvl x ≤ d → nodes x ≤ 4000 → St m (k + 2 * (d + 1)) H →
    ∃ x' H', callN p (n + d + 4) t.f_law_spoiled [.ref m, .d x] H = .ok (.d x') H' ∧ Spoilt x x' ∧ St m k H' ∧ H'.length = H.length := by
  intro d
  induction d with
  | zero =>
    intro k H x hx hd hn S
    obtain ⟨o, H1, e1, g1, S1, l1⟩ := odd_run (n := n) (k := k) A (S.mono (by omega))
    rw [callN_run A.law_spoiled rfl]
    cases ht : isTup x with
    | true =>
      obtain ⟨ys, rfl⟩ : ∃ ys, x = .tup ys := by cases x <;> first | (cases ht; done) | exact ⟨_, rfl⟩
      rw [lvl] at hd
      have : ys = [] := lvls_nil.mp (by omega)
      subst this
      have l1' : decide (1 ≤ line) = true := by decide
      have l1'' : 1 ≤ line := by decide
      have l0 : decide (0 ≤ line) = true := by decide
      refine ⟨.tup ([] ++ [o]), H1, ?_, spoilt_app rfl g1, S1, l1⟩
      simp [LwI.d_law_spoiled, startEnv, slotOf, fits, l0, l1', l1'', eqD_tup_nil (xs := []) rfl, nilB, e1]
      exact leave_len S1.fine l1
    | false =>
      refine ⟨o, H1, ?_, spoilt_odd g1, S1, l1⟩
      simp [LwI.d_law_spoiled, startEnv, slotOf, isa_tuple, ht, e1]
      exact leave_len S1.fine l1
  | succ d ih =>
    intro k H x hx hd hn S
    rw [callN_run A.law_spoiled rfl]
    have l1' : decide (1 ≤ line) = true := by decide
    have l0 : decide (0 ≤ line) = true := by decide
    cases ht : isTup x with
    | false =>
      obtain ⟨o, H1, e1, g1, S1, l1⟩ := odd_run (n := n + d + 1) (k := k) A (S.mono (by omega))
      refine ⟨o, H1, ?_, spoilt_odd g1, S1, l1⟩
      have e1 : callN p (n + (d + 1) + 3) t.f_law_odd [.ref m] H = _ := e1
      simp [LwI.d_law_spoiled, startEnv, slotOf, isa_tuple, ht, e1]
      exact leave_len S1.fine l1
    | true =>
      obtain ⟨ys, rfl⟩ : ∃ ys, x = .tup ys := by cases x <;> first | (cases ht; done) | exact ⟨_, rfl⟩
      have hlay := (plain_depth hx).2.2.2
      have E := eqD_tup_nil hlay
      rw [allPlain] at hx
      rw [lvl] at hd
      rw [nodes] at hn
      have hlen := length_nodes ys
      have l2 : ys.length + 1 ≤ line := by unfold line; omega
      cases hn0 : nilB ys with
      | true =>
        obtain ⟨o, H1, e1, g1, S1, l1⟩ := odd_run (n := n + d + 1) (k := k) A (S.mono (by omega))
        have e1 : callN p (n + (d + 1) + 3) t.f_law_odd [.ref m] H = _ := e1
        refine ⟨.tup (ys ++ [o]), H1, ?_, spoilt_app hx g1, S1, l1⟩
        simp [LwI.d_law_spoiled, startEnv, slotOf, fits, l0, l1', l2, E, hn0, e1]
        exact leave_len S1.fine l1
      | false =>
        have hy : ys ≠ [] := by intro z; subst z; cases hn0
        have hy0 : 0 < ys.length := List.length_pos_iff.mpr hy
        obtain ⟨r, H1, e1, g1, S1, l1⟩ := draw_run (n := n + d + 3) (k := k + 2 * (d + 1) + 1) A.dr (S.mono (by omega)) (many := 3) (by decide) (by decide +kernel)
        have e1 : callN p (n + (d + 1) + 3) t.dr.f_law_draw [.ref m, .d (.int 3)] H = _ := e1
        by_cases hr : r = 0
        · obtain ⟨o, H2, e2, g2, S2, l2'⟩ := odd_run (n := n + d + 1) (k := k) A (S1.mono (by omega))
          have e2 : callN p (n + (d + 1) + 3) t.f_law_odd [.ref m] H1 = _ := e2
          refine ⟨.tup (ys ++ [o]), H2, ?_, spoilt_app hx g2, S2, by omega⟩
          subst hr
          simp [LwI.d_law_spoiled, startEnv, slotOf, fits, l0, l1', l2, E, hn0, e1, e2, eqD_int]
          exact leave_len S2.fine (by omega)
        · obtain ⟨r2, H2, e2, g2, S2, l2'⟩ := draw_run (n := n + d + 3) (k := k + 2 * (d + 1)) A.dr S1 (many := ys.length) (by omega) (by
            rw [Int.natAbs_natCast]
            exact Nat.lt_trans ((Nat.log2_lt (by omega)).mpr (show ys.length < 2 ^ 20 by omega)) (by decide))
          have e2 : callN p (n + (d + 1) + 3) t.dr.f_law_draw [.ref m, .d (.int ys.length)] H1 = _ := e2
          obtain ⟨j, hj⟩ : ∃ j : Nat, r2 = j := ⟨r2.toNat, by omega⟩
          subst hj
          have hj : j < ys.length := by omega
          have dec : ys = ys.take j ++ ys[j] :: ys.drop (j + 1) := by rw [← List.drop_eq_getElem_cons hj, List.take_append_drop]
          have hm := lvl_mem (List.getElem_mem hj)
          obtain ⟨x', H3, e3, g3, S3, l3⟩ := ih k H2 ys[j] (plain_mem hx (List.getElem_mem hj)) (by omega) (by omega) S2
          have e3 : callN p (n + (d + 1) + 3) t.f_law_spoiled [.ref m, .d ys[j]] H2 = _ := e3
          have hp : allPlains (ys.take j) = true ∧ allPlains (ys.drop (j + 1)) = true := by
            have q := hx
            rw [dec, plains_append, allPlains] at q
            simp at q
            exact ⟨q.1, q.2.2⟩
          have Q := spoilt_in hp.1 hp.2 g3
          rw [← dec] at Q
          refine ⟨_, H3, ?_, Q, S3, by omega⟩
          have ix : seqAt ys (j : Int) = some ys[j] := by
            have : (j : Int) < ys.length := by omega
            simp [seqAt, spot, this]
          have hlt : min j ys.length + 1 ≤ line := by omega
          have hlt2 : min j ys.length + 1 + (ys.length - (j + 1)) ≤ line := by omega
          simp [LwI.d_law_spoiled, startEnv, slotOf, setEnv, fits, l0, l1', l2, E, hn0, e1, hr, e2, eqD_int, sl_take ys j hj, sl_drop ys j hj, ix, e3, hlt, hlt2]
          exact leave_len S3.fine (by omega)
end
end Ev
end
section
/-! EvLw4: law k84: the bounds. -/
set_option autoImplicit false
set_option linter.all false
set_option maxRecDepth 100000
namespace Ev
def nest : D → Nat → D
  | x, 0 => x
  | x, k + 1 => nest (.tup [x]) k
theorem nest_facts : ∀ (k : Nat) (x : D), lvl (nest x k) = lvl x + k ∧ nodes (nest x k) = nodes x + k ∧ allPlain (nest x k) = allPlain x
  | 0, x => ⟨rfl, rfl, rfl⟩
  | k + 1, x => by
    obtain ⟨a, b, c⟩ := nest_facts k (.tup [x])
    rw [nest, a, b, c]
    refine ⟨?_, ?_, ?_⟩
    · simp [lvl, lvls]; omega
    · simp [nodes, nodesL]; omega
    · simp [allPlain, allPlains]
def zs (n : Nat) (x : D) : List D := List.replicate n x
theorem zs_facts (x : D) (hx : isPlain x = true) : ∀ n, allPlains (zs n x) = true ∧ lvls (zs n x) ≤ 1 ∧ nodesL (zs n x) = n
  | 0 => ⟨rfl, by simp [zs, lvls], by simp [zs, nodesL]⟩
  | n + 1 => by
    obtain ⟨a, b, c⟩ := zs_facts x hx n
    have s := small_leaf (d := 0) hx
    have h1 := s.lv
    have h2 := s.nd
    have h3 := nodes_pos x
    have h4 : nb 0 = 1 := rfl
    unfold zs at a b c ⊢
    rw [List.replicate_succ, allPlains, lvls, nodesL, s.pl, a, c]
    exact ⟨rfl, by omega, by omega⟩
mutual
theorem D.eq_self : ∀ {x : D}, allPlain x = true → D.eq x x = true
  | .tup xs, h => by rw [allPlain] at h; rw [D.eq]; exact D.eqs_self h
  | .non, _ => rfl
  | .bl b, _ => by cases b <;> rfl
  | .int i, _ => by rw [D.eq]; exact beq_self_eq_true i
  | .str s, _ => by rw [D.eq]; exact beq_self_eq_true s
  | .lst _, h => by simp [allPlain] at h
  | .dct _ _, h => by simp [allPlain] at h
theorem D.eqs_self : ∀ {xs : List D}, allPlains xs = true → D.eqs xs xs = true
  | [], _ => rfl
  | x :: xs, h => by
    rw [allPlains, Bool.and_eq_true] at h
    rw [D.eqs, D.eq_self h.1, D.eqs_self h.2]; rfl
end
theorem eqD_self {x : D} (h : isThing x = true) : eqD x x = some true := by
  obtain ⟨h1, h2, h3⟩ := isThing_plain h
  obtain ⟨a1, a2, a3, a4⟩ := plain_depth h1
  have ap : apart x x = false := by cases x <;> first | rfl | simp [apart]
  unfold eqD
  rw [D.eq_self h1, a4, ap]
  split
  · rfl
  · rw [if_neg (by simp), if_pos]
    simp
    omega
/-- what must be refused can be told -/
structure Refu (x : D) : Prop where
  nt : isThing x = false
  nd : nodes x ≤ line
  rp : ∃ s, reprD x = some s
theorem not_thing {x : D} (h : allPlain x = false) : isThing x = false := by rw [isThing_eq, h]; simp
theorem refu_tr {o x : D} (O : Shows o) (h : tr o x) (h1 : isThing x = false) (hn : nodes x ≤ 100000) (hl : lvl x ≤ 60) : Refu x :=
  ⟨h1, by unfold line; omega, repr_tr O h hn hl⟩
theorem shows_non : Shows .non := ⟨⟨_, rfl, by decide⟩, by decide, .inl rfl⟩
theorem refu_deep {x : D} (h : allPlain x = true) (h1 : 20 < lvl x) (hl : lvl x ≤ 60) (hn : nodes x ≤ 100000) : Refu x :=
  refu_tr shows_non (tr_plain h) (by rw [isThing_eq, decide_eq_false (by omega)]; rfl) hn hl
theorem odd_nodes {o : D} (h : isTup o = false) : nodes o = 1 ∧ lvl o = 0 := by
  cases o <;> first | (cases h; done) | (exact ⟨by simp [nodes], by simp [lvl]⟩)
theorem refu_odd {o : D} (h : Odd o) : Refu o := by
  have := odd_nodes h.tp
  exact refu_tr h.sh (tr_o h.tp) (not_thing (by rw [allPlain_leaf h.tp]; exact h.pl)) (by omega) (by omega)
theorem refu_spoilt {x x' : D} (h : Spoilt x x') (hn : nodes x ≤ 4000) (hl : lvl x ≤ 50) : Refu x' := by
  obtain ⟨⟨o, O, q⟩, n1, n2, n3⟩ := h
  exact refu_tr O q (not_thing n1) (by omega) (by omega)
theorem refu_lst {x : D} (h : isThing x = true) : Refu (.lst [x]) := by
  obtain ⟨h1, h2, h3⟩ := isThing_plain h
  obtain ⟨a1, a2, a3, a4⟩ := plain_depth h1
  have l1 := rp_len h1
  refine ⟨not_thing (by rw [allPlain]; all_goals simp), by simp [nodes, line], ?_⟩
  unfold reprD
  rw [shown, showns, shown_plain h1, showns]
  simp only [D.hasD, D.hasDs, a2, Bool.or_self, Bool.not_false, Bool.true_or, Bool.and_true]
  refine ⟨_, if_pos ?_⟩
  simp [D.depth, D.depths, sepT, joinT]
  unfold line
  omega
theorem isThing_leaf {x : D} (h : isPlain x = true) : isThing x = true := by
  have s := small_leaf (d := 0) h
  have := s.lv
  have := s.nd
  have : nb 0 = 1 := rfl
  rw [isThing_eq, s.pl, decide_eq_true (by omega), decide_eq_true (by omega)]
  rfl
theorem isThing_small {x : D} (h : Small 4 x) : isThing x = true := by
  have := h.lv
  have := h.nd
  have : nb 4 = 121 := rfl
  rw [isThing_eq, h.pl, decide_eq_true (by omega), decide_eq_true (by omega)]
  rfl
theorem isThing_of {x : D} (h : allPlain x = true) (h1 : lvl x ≤ 20) (h2 : nodes x ≤ 4000) : isThing x = true := by
  rw [isThing_eq, h, decide_eq_true h1, decide_eq_true h2]
  rfl
theorem compGo_none {f : D → Heap → Res (Option D)} {xs : List D} {h : Heap} (e : ∀ x ∈ xs, f x h = .ok none h) : compGo f xs h = .ok [] h := by
  have := compGo_pure (g := fun _ => none) e
  rw [this]
  congr 1
  induction xs with
  | nil => rfl
  | cons x xs ih => simp
section
variable {t : LwI} {p : Prog} {n : Nat} {h : Heap}
def nsBody : List S := [.asg 2 (.tup [(.slot 2)])]
theorem nest_loop (g : G) (e0 e1 : Option NV) : ∀ (xs : List D) (x : D) (e3 : Option NV), ∃ e3', forGo (fun y env h => opt (setTg env [3] y) fun env' => evalSs g nsBody env' h) xs [e0, e1, some (.v (.d x)), e3] h =
    .ok (.next [e0, e1, some (.v (.d (nest x xs.length))), e3']) h
  | [], x, e3 => ⟨e3, by rw [forGo_nil]; rfl⟩
  | y :: ys, x, e3 => by
    obtain ⟨e3', q⟩ := nest_loop g e0 e1 ys (.tup [x]) (some (.v (.d y)))
    refine ⟨e3', ?_⟩
    have l1 : decide (1 ≤ line) = true := by decide
    rw [forGo_cons, List.length_cons, nest, ← q]
    simp [setTg, setEnv, slotOf, fits, l1, nsBody]
theorem nested_run (A : t.At p) (hf : Fine h) (x : D) (k : Nat) (hk : k ≤ 1000) : callN p (n + 1) t.f_law_nested [.d x, .d (.int k)] h = .ok (.d (nest x k)) h := by
  rw [callN_run A.law_nested rfl]
  obtain ⟨e3, L⟩ := nest_loop (h := h) (gAt p n (fun _ => .bad) h.length) (some (.v (.d x))) (some (.v (.d (.int k)))) (cnt k) x none
  rw [cnt_len] at L
  have q := rng_small (r := (k : Int)) (by omega) (by omega)
  rw [Int.toNat_natCast] at q
  have B : t.d_law_nested.body = [.asg 2 (.slot 0),   .for [3] .rng [(.slot 1)] nsBody, .ret (.slot 2)] := rfl
  rw [B]
  simp only [startEnv, show t.d_law_nested.ns = 4 from rfl, show t.d_law_nested.ps = 2 from rfl]
  simp only [List.map_cons, List.map_nil, List.cons_append, List.nil_append, List.replicate, Nat.sub, Ss_cons, S_asg, E_slot, slotOf, setEnv, List.getElem?_cons_zero, opt_some, Res.bind_ok, nxt_next, S_for, Es_cons, Es_nil, List.set_cons_succ, List.set_cons_zero, List.getElem?_cons_succ, w_rng, q]
  rw [L]
  simp [slotOf, hf]
end
end Ev
end
section
/-! EvLw5: law k84: the bounds run; the law. -/
set_option autoImplicit false
set_option linter.all false
set_option maxRecDepth 100000
namespace Ev
def greatL : List D := [.int 9999999999999999999999999999999, .int (-9999999999999999999999999999999), .str [97, 98, 99, 100, 101, 102, 103, 104, 105, 106, 107, 108], .tup [], nest (.tup []) 20, nest (.int 7) 20, .tup [.tup [.tup [], .tup []], .tup [.tup [.tup []]], .bl true]]
def moreL : List D := [.int 10000000000000000000000000000000, .int (-10000000000000000000000000000000), .str [97, 98, 99, 100, 101, 102, 103, 104, 105, 106, 107, 108, 109], nest (.tup []) 21, nest (.int 7) 21, nest (.int 7) 30, .str [], .tup [.lst []], .tup [.tup [.str [97], .tup [.str [98], .dct [] []]]]]
theorem plain_big (i : Int) (h : i.natAbs < 10 ^ 31) : isPlain (.int i) = true := by
  simp only [isPlain, big31_eq]
  exact decide_eq_true (Int.ofNat_lt.mpr h)
theorem great_things : ∀ x ∈ greatL, isThing x = true := by
  intro x hx
  have nt : ∀ k, k ≤ 20 → isThing (nest (.tup []) k) = true := by
    intro k hk
    obtain ⟨a, b, c⟩ := nest_facts k (.tup [])
    have h1 : lvl (.tup []) = 0 := by simp [lvl, lvls]
    have h2 : nodes (.tup []) = 1 := by simp [nodes, nodesL]
    exact isThing_of (by rw [c]; rfl) (by omega) (by omega)
  have n7 : ∀ k, k ≤ 20 → isThing (nest (.int 7) k) = true := by
    intro k hk
    obtain ⟨a, b, c⟩ := nest_facts k (.int 7)
    have s := small_leaf (d := 0) (plain_big 7 (by decide))
    have h1 := s.lv
    have h2 := s.nd
    have : nb 0 = 1 := rfl
    exact isThing_of (by rw [c]; exact s.pl) (by omega) (by omega)
  simp only [greatL, List.mem_cons, List.not_mem_nil, or_false] at hx
  rcases hx with rfl | rfl | rfl | rfl | rfl | rfl | rfl
  · exact isThing_leaf (plain_big _ (by decide))
  · exact isThing_leaf (plain_big _ (by decide))
  · exact isThing_leaf (by decide)
  · exact nt 0 (by omega)
  · exact nt 20 (by omega)
  · exact n7 20 (by omega)
  · rfl
theorem more_refu : ∀ x ∈ moreL, Refu x := by
  intro x hx
  have nt : ∀ k, 20 < k → k ≤ 30 → Refu (nest (.tup []) k) := by
    intro k hk hk2
    obtain ⟨a, b, c⟩ := nest_facts k (.tup [])
    have h1 : lvl (.tup []) = 0 := by simp [lvl, lvls]
    have h2 : nodes (.tup []) = 1 := by simp [nodes, nodesL]
    exact refu_deep (by rw [c]; rfl) (by omega) (by omega) (by omega)
  have n7 : ∀ k, 20 < k → k ≤ 30 → Refu (nest (.int 7) k) := by
    intro k hk hk2
    obtain ⟨a, b, c⟩ := nest_facts k (.int 7)
    have s := small_leaf (d := 0) (plain_big 7 (by decide))
    have h1 := s.lv
    have h2 := s.nd
    have : nb 0 = 1 := rfl
    exact refu_deep (by rw [c]; exact s.pl) (by omega) (by omega) (by omega)
  simp only [moreL, List.mem_cons, List.not_mem_nil, or_false] at hx
  rcases hx with rfl | rfl | rfl | rfl | rfl | rfl | rfl | rfl | rfl
  · exact refu_odd (odd_int (by decide +kernel) (by decide +kernel) (by decide +kernel))
  · exact refu_odd (odd_int (by decide +kernel) (by decide +kernel) (by decide +kernel))
  · exact refu_odd (odd_str (by decide) (by decide) (by decide))
  · exact nt 21 (by omega) (by omega)
  · exact n7 21 (by omega) (by omega)
  · exact n7 30 (by omega) (by omega)
  · exact refu_odd (odd_str (by decide) (by decide) (by decide))
  · exact refu_tr (o := .lst []) ⟨⟨_, rfl, by decide⟩, by decide, .inl rfl⟩ (by simp [tr, trs]) (not_thing rfl) (by simp [nodes, nodesL]) (by simp [lvl, lvls])
  · exact refu_tr (o := .dct [] []) ⟨⟨_, rfl, by decide⟩, by decide, .inr rfl⟩ (by simp [tr, trs, isPlain, isWordS, lower]) (not_thing rfl) (by simp [nodes, nodesL]) (by simp [lvl, lvls])
section
variable {t : LwI} {p : Prog} {n : Nat} {h : Heap}
theorem bounds_run (A : t.At p) (hne : t.th.x_BadText ≠ t.th.x_OutOfPlace) (hf : Fine h) (hp : 16000 ≤ p.fuel) : callN p (n + 23) t.f_law_bounds_right [] h = .ok (.d (.bl true)) h := by
  rw [callN_run A.law_bounds_right rfl]
  have n1 : ∀ h : Heap, Fine h → callN p (n + 22) t.f_law_nested [.d (.tup []), .d (.int 20)] h = .ok (.d (nest (.tup []) 20)) h := fun h hf => nested_run (n := n + 21) A hf _ 20 (by omega)
  have n2 : ∀ h : Heap, Fine h → callN p (n + 22) t.f_law_nested [.d (.int 7), .d (.int 20)] h = .ok (.d (nest (.int 7) 20)) h := fun h hf => nested_run (n := n + 21) A hf _ 20 (by omega)
  have n3 : ∀ h : Heap, Fine h → callN p (n + 22) t.f_law_nested [.d (.tup []), .d (.int 21)] h = .ok (.d (nest (.tup []) 21)) h := fun h hf => nested_run (n := n + 21) A hf _ 21 (by omega)
  have n4 : ∀ h : Heap, Fine h → callN p (n + 22) t.f_law_nested [.d (.int 7), .d (.int 21)] h = .ok (.d (nest (.int 7) 21)) h := fun h hf => nested_run (n := n + 21) A hf _ 21 (by omega)
  have n5 : ∀ h : Heap, Fine h → callN p (n + 22) t.f_law_nested [.d (.int 7), .d (.int 30)] h = .ok (.d (nest (.int 7) 30)) h := fun h hf => nested_run (n := n + 21) A hf _ 30 (by omega)
  have hf2 : Fine (h ++ [Cell.dead]) := hf.app rfl
  have l0 : decide (0 ≤ line) = true := by decide
  have l1 : decide (1 ≤ line) = true := by decide
  have l2 : decide (2 ≤ line) = true := by decide
  have l3 : decide (3 ≤ line) = true := by decide
  have l6 : decide (6 ≤ line) = true := by decide
  have l6' : 6 < line := by decide
  have l7 : decide (7 ≤ line) = true := by decide
  have l9 : 9 ≤ line := by decide
  have d0 : dispD [] = some ([], []) := rfl
  have m0 : ∀ xs : List D, (h ++ [Cell.lst xs])[h.length]? = some (.lst xs) := fun xs => by simp
  have G : ∀ f : D → Heap → Res (Option D), (∀ x ∈ greatL, f x (h ++ [Cell.dead]) = .ok none (h ++ [Cell.dead])) → compGo f greatL (h ++ [Cell.dead]) = .ok [] (h ++ [Cell.dead]) := fun f e => compGo_none e
  have M : ∀ f : D → Heap → Res (Option D), (∀ x ∈ moreL, f x (h ++ [Cell.dead]) = .ok none (h ++ [Cell.dead])) → compGo f moreL (h ++ [Cell.dead]) = .ok [] (h ++ [Cell.dead]) := fun f e => compGo_none e
  have G' := G
  have M' := M
  unfold greatL at G'
  unfold moreL at M'
  simp [LwI.d_law_bounds_right, startEnv, slotOf, setEnv, fits, l0, l1, l2, l3, l6, n1 h hf, n2 h hf, mtK_app (m0 _), app_run (m0 _), l6', frz_ref (m0 _)]
  rw [G']
  · simp [l0, l1, l2, eqD_nilL, nilB, l3, l7, l9, d0, n3 _ hf2, n4 _ hf2, n5 _ hf2, slotOf]
    rw [M']
    · simp [l0, eqD_nilL, nilB, leave_ext hf]
    · intro x hx
      have q := more_refu x hx
      obtain ⟨s, hs⟩ := q.rp
      have e : callN p (n + 22) t.f_law_is_refused [.d x] (h ++ [Cell.dead]) = _ := is_refused_run (n := n + 16) A hne hf2 x q.nt q.nd s hs
      simp [wipeE, setTg, setEnv, e]
  · intro x hx
    have e : callN p (n + 22) t.f_law_is_right [.d x] (h ++ [Cell.dead]) = _ := is_right_run (n := n) A hf2 hp x (great_things x hx)
    simp [wipeE, setTg, setEnv, e]
end
end Ev
end
section
/-! EvLw6: law k84: wide things; the law. -/
set_option autoImplicit false
set_option linter.all false
set_option maxRecDepth 100000
namespace Ev
theorem mulT (x : D) (n : Nat) (h1 : 2 ≤ n) (h2 : n ≤ 10000) : binD .mul (.tup [x]) (.int n) = some (.tup (zs n x)) := by
  have e : rep n [x] = zs n x := by
    unfold rep zs
    clear h1 h2
    induction n with
    | zero => rfl
    | succ n ih => rw [List.replicate_succ, List.replicate_succ, List.flatten_cons, ih]; rfl
  show (if (decide (2 ≤ (n : Int)) && decide ((n : Int) ≤ 10000) && decide ([x].length ≤ 1000) && ![x].isEmpty) = true then some (D.tup (rep (n : Int).toNat [x])) else none) = _
  rw [if_pos, Int.toNat_natCast, e]
  simp
  omega
def wideL : List D := [.tup (zs 3999 (.int 0)), nest (.tup (zs 3980 (.int 0))) 19]
def wideM : List D := [.tup (zs 4000 (.int 0)), nest (.tup (zs 3981 (.int 0))) 19, .tup [.tup (zs 2000 (.int 0)), .tup (zs 1998 .non)]]
theorem p0 : isPlain (.int 0) = true := plain_big 0 (by decide)
theorem zs_tup (n : Nat) (x : D) (hx : isPlain x = true) : allPlain (.tup (zs n x)) = true ∧ lvl (.tup (zs n x)) ≤ 1 ∧ nodes (.tup (zs n x)) = n + 1 := by
  obtain ⟨a, b, c⟩ := zs_facts x hx n
  rw [allPlain, lvl, nodes, c]
  exact ⟨a, b, rfl⟩
theorem wide_things : ∀ x ∈ wideL, isThing x = true := by
  intro x hx
  simp only [wideL, List.mem_cons, List.not_mem_nil, or_false] at hx
  rcases hx with rfl | rfl
  · obtain ⟨a, b, c⟩ := zs_tup 3999 _ p0
    exact isThing_of a (by omega) (by omega)
  · obtain ⟨a, b, c⟩ := zs_tup 3980 _ p0
    obtain ⟨u, v, w⟩ := nest_facts 19 (.tup (zs 3980 (.int 0)))
    exact isThing_of (by rw [w]; exact a) (by omega) (by omega)
theorem wide_more : ∀ x ∈ wideM, isThing x = false ∧ nodes x ≤ line := by
  have k : ∀ x, nodes x = 4001 → isThing x = false ∧ nodes x ≤ line := by
    intro x h
    refine ⟨?_, by unfold line; omega⟩
    rw [isThing_eq, decide_eq_false (p := nodes x ≤ 4000) (by omega), Bool.and_false]
  intro x hx
  simp only [wideM, List.mem_cons, List.not_mem_nil, or_false] at hx
  rcases hx with rfl | rfl | rfl
  · exact k _ (zs_tup 4000 _ p0).2.2
  · have := (nest_facts 19 (.tup (zs 3981 (.int 0)))).2.1
    have := (zs_tup 3981 _ p0).2.2
    exact k _ (by omega)
  · have := (zs_tup 2000 _ p0).2.2
    have := (zs_tup 1998 .non rfl).2.2
    exact k _ (by rw [nodes, nodesL, nodesL, nodesL]; omega)
section
variable {t : LwI} {p : Prog} {n : Nat} {h : Heap}
theorem wide_run (A : t.At p) (hf : Fine h) (hp : 16000 ≤ p.fuel) : callN p (n + 23) t.f_law_wide_right [] h = .ok (.d (.bl true)) h := by
  rw [callN_run A.law_wide_right rfl]
  have n1 : callN p (n + 22) t.f_law_nested [.d (.tup (zs 3980 (.int 0))), .d (.int 19)] h = .ok (.d (nest (.tup (zs 3980 (.int 0))) 19)) h := nested_run (n := n + 21) A hf _ 19 (by omega)
  have n2 : callN p (n + 22) t.f_law_nested [.d (.tup (zs 3981 (.int 0))), .d (.int 19)] h = .ok (.d (nest (.tup (zs 3981 (.int 0))) 19)) h := nested_run (n := n + 21) A hf _ 19 (by omega)
  have m1 : binD .mul (.tup [.int 0]) (.int 3999) = some (.tup (zs 3999 (.int 0))) := mulT _ 3999 (by omega) (by omega)
  have m2 : binD .mul (.tup [.int 0]) (.int 3980) = some (.tup (zs 3980 (.int 0))) := mulT _ 3980 (by omega) (by omega)
  have m3 : binD .mul (.tup [.int 0]) (.int 4000) = some (.tup (zs 4000 (.int 0))) := mulT _ 4000 (by omega) (by omega)
  have m4 : binD .mul (.tup [.int 0]) (.int 3981) = some (.tup (zs 3981 (.int 0))) := mulT _ 3981 (by omega) (by omega)
  have m5 : binD .mul (.tup [.int 0]) (.int 2000) = some (.tup (zs 2000 (.int 0))) := mulT _ 2000 (by omega) (by omega)
  have m6 : binD .mul (.tup [.non]) (.int 1998) = some (.tup (zs 1998 .non)) := mulT _ 1998 (by omega) (by omega)
  have l0 : decide (0 ≤ line) = true := by decide
  have l1 : decide (1 ≤ line) = true := by decide
  have l2 : decide (2 ≤ line) = true := by decide
  have l3 : decide (3 ≤ line) = true := by decide
  have G : ∀ f : D → Heap → Res (Option D), (∀ x ∈ wideL, f x h = .ok none h) → compGo f wideL h = .ok [] h := fun f e => compGo_none e
  have M : ∀ f : D → Heap → Res (Option D), (∀ x ∈ wideM, f x h = .ok none h) → compGo f wideM h = .ok [] h := fun f e => compGo_none e
  have G' := G
  have M' := M
  unfold wideL at G'
  unfold wideM at M'
  simp [LwI.d_law_wide_right, startEnv, slotOf, setEnv, fits, l0, l1, l2, l3, m1, m2, m3, m4, m5, m6, n1, n2]
  rw [G']
  · simp [l0, eqD_nilL, nilB, slotOf]
    rw [M']
    · simp [l0, eqD_nilL, nilB, hf]
    · intro x hx
      have q := wide_more x hx
      have e : callN p (n + 22) t.th.f_is_thing [.d x] h = _ := is_thing_run (n := n + 19) A.th x hf q.2
      simp [wipeE, setTg, setEnv, e, q.1]
  · intro x hx
    have q := wide_things x hx
    obtain ⟨h1, h2, h3⟩ := isThing_plain q
    have hl := txt_len h1
    have e : callN p (n + 22) t.th.f_is_thing [.d x] h = _ := is_thing_run (n := n + 19) A.th x hf (by unfold line; omega)
    have e2 : callN p (n + 22) t.th.f_thing_text [.d x] h = _ := thing_text_run (n := n + 18) A.th x hf q hp
    have e3 : callN p (n + 22) t.th.f_read_thing [.d (.str (txt x))] h = _ := read_thing_run (n := n + 18) A.th (txt x) hf (by unfold line; omega)
    rw [read_txt q] at e3
    simp [wipeE, setTg, setEnv, e, q, e2, e3, resT, eqD_self q]
theorem eqD_bl (a b : Bool) : eqD (.bl a) (.bl b) = some (a == b) := rfl
theorem eq_texts {x y : D} (hx : isThing x = true) (hy : isThing y = true) : (txt x == txt y) = (rp x == rp y) := by
  by_cases e : x = y
  · subst e; simp
  · have a : txt x ≠ txt y := fun q => e (txt_inj hx hy q)
    have b : rp x ≠ rp y := fun q => e (rp_eq hx hy q)
    rw [beq_false_of_ne a, beq_false_of_ne b]
def lwBody (t : LwI) : List S := match t.d_law.body with
  | [.for _ _ _ b, _, _] => b
  | _ => []
theorem lw_body (t : LwI) : t.d_law.body = [.for [1] .rng [(.bin .add (.lit (.int 6)) (.bi .min2 [(.bi .len [(.slot 0)]), (.lit (.int 4))]))] (lwBody t), .ite (.and (.cmp .eq (.bin .mod (.bi .int [(.bi .len [(.slot 0)])]) (.lit (.int 8))) (.lit (.int 0))) (.not (.call t.f_law_wide_right []))) [.ret (.lit (.bl false))] [], .ret (.call t.f_law_bounds_right [])] := rfl
theorem law_step (A : t.At p) (hne : t.th.x_BadText ≠ t.th.x_OutOfPlace) (hf : Fine h) (hp : 16000 ≤ p.fuel) (b : Nat) (ns : List Int) (hn : ns.length ≤ 1000) (k : Int) (e2 e3 e4 : Option NV) :
    ∃ e2' e3' e4' h', evalSs (gAt p (n + 23) (fun _ => .bad) b) (lwBody t) [some (.v (.d (.lst (ns.map .int)))), some (.v (.d (.int k))), e2, e3, e4] h =
      .ok (.next [some (.v (.d (.lst (ns.map .int)))), some (.v (.d (.int k))), e2', e3', e4']) h' ∧ Fine h' := by
  obtain ⟨c, e1, S1⟩ := begun_run (n := n + 22) A.dr hf ns hn k 1000 (by decide)
  obtain ⟨x, H2, f2, g2, S2, l2⟩ := thing_run (n := n + 15) A 4 500 _ (S1.mono (by decide))
  obtain ⟨y, H3, f3, g3, S3, l3⟩ := thing_run (n := n + 15) A 4 20 _ (S2.mono (by decide))
  have tx := isThing_small g2
  have ty := isThing_small g3
  have f2 : callN p (n + 23) t.f_law_thing [.ref h.length, .d (.int 4)] (h ++ [c]) = _ := f2
  have f3 : callN p (n + 23) t.f_law_thing [.ref h.length, .d (.int 4)] H2 = _ := f3
  have r1 : callN p (n + 23) t.f_law_is_right [.d x] H3 = _ := is_right_run (n := n + 1) A S3.fine hp x tx
  have r2 : callN p (n + 23) t.f_law_is_right [.d y] H3 = _ := is_right_run (n := n + 1) A S3.fine hp y ty
  have t1 : callN p (n + 23) t.th.f_thing_text [.d x] H3 = _ := thing_text_run (n := n + 19) A.th x S3.fine tx hp
  have t2 : callN p (n + 23) t.th.f_thing_text [.d y] H3 = _ := thing_text_run (n := n + 19) A.th y S3.fine ty hp
  obtain ⟨z, H4, f4, g4, S4, l4⟩ := spoiled_run (n := n + 15) A 4 1 H3 x g2.pl g2.lv (isThing_plain tx).2.1 (S3.mono (by decide))
  have f4 : callN p (n + 23) t.f_law_spoiled [.ref h.length, .d x] H3 = _ := f4
  have q1 := refu_spoilt g4 (isThing_plain tx).2.1 (by have := g2.lv; omega)
  obtain ⟨s1, hs1⟩ := q1.rp
  have u1 : callN p (n + 23) t.f_law_is_refused [.d z] H4 = _ := is_refused_run (n := n + 17) A hne S4.fine z q1.nt q1.nd s1 hs1
  have q2 := refu_lst tx
  obtain ⟨s2, hs2⟩ := q2.rp
  have u2 : callN p (n + 23) t.f_law_is_refused [.d (.lst [x])] H4 = _ := is_refused_run (n := n + 17) A hne S4.fine (.lst [x]) q2.nt q2.nd s2 hs2
  have l1 : decide (1 ≤ line) = true := by decide
  refine ⟨some (.v (.ref h.length)), some (.v (.d x)), some (.v (.d y)), H4, ?_, S4.fine⟩
  simp [lwBody, LwI.d_law, slotOf, setEnv, e1, f2, f3, r1, r2, t1, t2, eqD_str, repr_thing tx, repr_thing ty, eqD_bl, eq_texts tx ty, f4, u1, u2, fits, l1]
theorem law_run (A : t.At p) (hne : t.th.x_BadText ≠ t.th.x_OutOfPlace) (hp : 16000 ≤ p.fuel) (ns : List Int) (hn : ns.length ≤ 1000) : ∃ h', callN p (n + 24) t.f_law [.d (.lst (ns.map .int))] [] = .ok (.d (.bl true)) h' := by
  rw [callN_run A.law rfl, lw_body]
  obtain ⟨j, hj, q⟩ : ∃ j : Int, (if 4 < (ns.length : Int) then (4 : Int) else ns.length) = j ∧ rngD 0 (6 + j) = some (cnt (6 + j).toNat) := by
    refine ⟨_, rfl, rng_small ?_ ?_⟩ <;> split <;> omega
  obtain ⟨env', h', L, F, e2, e3, e4, e5, rfl⟩ := forGo_inv (f := fun x env h => opt (setTg env [1] x) fun env' => evalSs (gAt p (n + 23) (fun _ => .bad) 0) (lwBody t) env' h)
    (fun _ env h => Fine h ∧ ∃ e1 e2 e3 e4, env = [some (.v (.d (.lst (ns.map .int)))), e1, e2, e3, e4]) (cnt (6 + j).toNat) 0 [some (.v (.d (.lst (ns.map .int)))), none, none, none, none] [] ⟨fine_nil, _, _, _, _, rfl⟩ (by
      intro i x env h hx ⟨hf, e1, e2, e3, e4, he⟩
      subst he
      have : ∃ k : Int, x = .int k := by
        unfold cnt at hx
        rw [List.getElem?_map] at hx
        cases hr : (List.range (6 + j).toNat)[i]? with
        | none => rw [hr] at hx; cases hx
        | some k => rw [hr] at hx; exact ⟨_, (Option.some.inj hx).symm⟩
      obtain ⟨k, rfl⟩ := this
      obtain ⟨a, b, c, h', e, hf'⟩ := law_step (n := n) A hne hf hp 0 ns hn k e2 e3 e4
      exact ⟨_, h', e, hf', _, _, _, _, rfl⟩)
  have w := wide_run (n := n) A F hp
  have b := bounds_run (n := n) A hne F hp
  have fin0 : ∀ v, leave 0 (.ok (.d v) h') = .ok (.d v) [] := fun v => rfl
  refine ⟨[], ?_⟩
  simp only [startEnv, show t.d_law.ns = 5 from rfl, show t.d_law.ps = 1 from rfl, List.map_cons, List.map_nil, List.cons_append, List.nil_append, List.replicate, Nat.sub, Ss_cons, S_for, List.length_nil]
  have R : evalEs (gAt p (n + 23) (fun _ => .bad) 0) [(.bin .add (.lit (.int 6)) (.bi .min2 [(.bi .len [(.slot 0)]), (.lit (.int 4))]))] [some (.v (.d (.lst (ns.map .int)))), none, none, none, none] [] = .ok [.d (.int (6 + j))] [] := by
    simp [slotOf, hj]
  rw [R]
  simp only [Res.bind_ok, w_rng, q, opt_some]
  rw [L]
  by_cases z : (ns.length : Int) % 8 = 0 <;> simp [slotOf, z, eqD_int, w, b, fin0]
end
end Ev
end
section
/-! EvRs: what is read has that text; no text is two things'. -/
set_option autoImplicit false
set_option linter.all false
set_option maxRecDepth 100000
namespace Ev
theorem plainOf_sound {s : List Nat} {x : D} (h : plainOf s = (true, x)) : isPlain x = true ∧ ptext x = s := by
  unfold plainOf at h
  split at h
  · rename_i c; cases h; exact ⟨rfl, (eq_of_beq c).symm⟩
  · split at h
    · rename_i c; cases h; exact ⟨rfl, (eq_of_beq c).symm⟩
    · split at h
      · rename_i c; cases h; exact ⟨rfl, (eq_of_beq c).symm⟩
      · split at h
        · rename_i c; cases h; exact ⟨c, rfl⟩
        · split at h
          · rename_i c
            injection h with h1 h2
            subst h2
            exact ⟨decide_eq_true (int_of c).2, eq_of_beq h1⟩
          · injection h with h1 h2; cases h1
theorem plain_tup {x : D} (h : isPlain x = true) : isTup x = false := by cases x <;> first | rfl | cases h
theorem plain_all {x : D} (h : isPlain x = true) : allPlain x = true := by rw [allPlain_leaf (plain_tup h)]; exact h
theorem parts_flatten : ∀ (s piece : List Nat), (partsGo s piece).flatten = piece ++ s
  | [], piece => by
    rw [partsGo]
    unfold endP
    by_cases h : piece = []
    · subst h; rfl
    · have : (piece == []) = false := by simpa using h
      simp [this]
  | c :: r, piece => by
    rw [partsGo]
    split
    · have := parts_flatten r []
      unfold endP
      by_cases h : piece = []
      · subst h; simp [this]
      · have h2 : (piece == []) = false := by simpa using h
        simp [h, this]
    · rw [parts_flatten]; simp
/-- what stands behind the rows -/
def tx : List (List D) → Bool → List Nat
  | [], _ => []
  | r :: rs, due => (if rs.isEmpty then [] else tx rs true ++ [40]) ++ txtj r ++ (if due && !nilB r then [32] else [])
theorem tx_add (q : List D) (rs : List (List D)) (y : D) : tx (q :: rs) true ++ txt y = tx ((q ++ [y]) :: rs) false := by
  rw [tx, tx]
  cases q with
  | nil => simp [txtj, nilB, txtr]
  | cons a q =>
    rw [txtj_snoc (by simp)]
    simp [nilB]
/-- how the reader stands: the lowest row has nothing while more is open or due; what is not due has something -/
structure Stand (rows : List (List D)) (due : Bool) : Prop where
  ne : rows ≠ []
  low : (2 ≤ rows.length ∨ due = true) → rows.getLast? = some []
  top : due = false → ∀ r rs, rows = r :: rs → r ≠ []
theorem wr_sound : ∀ (ps : List (List Nat)) (rows : List (List D)) (due : Bool) (x : D), Stand rows due → wr ps rows due = [x] → tx rows due ++ ps.flatten = txt x
  | [], rows, due, x, S, h => by
    rcases rows with _ | ⟨a, _ | ⟨b, r⟩⟩
    · cases h
    · have h : a = [x] := h
      subst h
      cases due with
      | true => have := S.low (.inr rfl); simp at this
      | false => simp [tx, txtj, txtr]
    · cases h
  | s :: ps, rows, due, x, S, h => by
    rw [wr_cons] at h
    rw [List.flatten_cons]
    split at h
    · rename_i c
      have c := eq_of_beq c
      subst c
      split at h
      · cases h
      · rename_i c2
        simp at c2
        obtain ⟨c2, c3⟩ := c2
        subst c2
        obtain ⟨r, rs, hr⟩ : ∃ r rs, rows = r :: rs := by cases rows with | nil => exact absurd rfl S.ne | cons r rs => exact ⟨r, rs, rfl⟩
        have hl : 2 ≤ rows.length := by
          have : rows.length ≠ 0 := fun z => S.ne (List.length_eq_zero_iff.mp z)
          omega
        have := wr_sound ps rows true x ⟨S.ne, fun _ => S.low (.inl hl), by simp⟩ h
        rw [← this]
        have hne := S.top rfl r rs hr
        subst hr
        have : nilB r = false := by simpa [nilB] using hne
        simp [tx, this]
    · split at h
      · rename_i c
        have c := eq_of_beq c
        subst c
        rcases rows with _ | ⟨r, _ | ⟨q, rs⟩⟩
        · cases h
        · cases h
        · dsimp only at h
          split at h
          · cases h
          · rename_i c2
            have hd : (if due && !nilB r then [32] else ([] : List Nat)) = [] := if_neg c2
            have := wr_sound ps ((q ++ [.tup r]) :: rs) false x ⟨by simp, fun z => ?_, fun _ r' rs' e => by cases e; simp⟩ h
            · rw [← this, ← tx_add]
              have e : tx (r :: q :: rs) due = tx (q :: rs) true ++ [40] ++ txtj r ++ (if due && !nilB r then [32] else []) := rfl
              rw [e, hd, txt]
              simp
            · have low := S.low (.inl (by simp))
              rcases z with z | z
              · cases rs with
                | nil => simp at z
                | cons a as => simpa using low
              · cases z
      · split at h
        · cases h
        · rename_i c3
          have hd : due = true := by simpa using c3
          subst hd
          split at h
          · rename_i c
            have c := eq_of_beq c
            subst c
            have := wr_sound ps ([] :: rows) true x ⟨by simp, fun _ => ?_, by simp⟩ h
            · rw [← this]
              obtain ⟨r, rs, hr⟩ : ∃ r rs, rows = r :: rs := by cases rows with | nil => exact absurd rfl S.ne | cons r rs => exact ⟨r, rs, rfl⟩
              subst hr
              rw [show tx ([] :: r :: rs) true = tx (r :: rs) true ++ [40] ++ [] ++ [] from rfl]
              simp
            · have low := S.low (.inr rfl)
              cases rows with
              | nil => exact absurd rfl S.ne
              | cons r rs => simpa using low
          · split at h
            · cases h
            · rename_i c4
              have hp : plainOf s = (true, (plainOf s).2) := by
                have : (plainOf s).1 = true := by simpa using c4
                rw [← this]
              obtain ⟨p1, p2⟩ := plainOf_sound hp
              rcases rows with _ | ⟨r, rs⟩
              · exact absurd rfl S.ne
              · dsimp only at h
                have := wr_sound ps ((r ++ [(plainOf s).2]) :: rs) false x ⟨by simp, fun z => ?_, fun _ r' rs' e => by cases e; simp⟩ h
                · rw [← this, ← tx_add, txt_leaf (plain_tup p1), p2]
                  simp
                · have low := S.low (.inr rfl)
                  rcases z with z | z
                  · cases rs with
                    | nil => simp at z
                    | cons a as => simpa using low
                  · cases z
theorem readT_sound {s : List Nat} {x : D} (h : readT s = some x) : isThing x = true ∧ txt x = s := by
  unfold readT at h
  split at h
  · rename_i y hw
    split at h
    · rename_i c
      cases h
      refine ⟨c, ?_⟩
      have := wr_sound (parts s) [[]] true x ⟨by simp, fun _ => rfl, by simp⟩ hw
      rw [← this]
      unfold parts
      rw [parts_flatten]
      simp [tx, txtj, nilB]
    · cases h
  · cases h
theorem readT_iff {s : List Nat} {x : D} : readT s = some x ↔ isThing x = true ∧ txt x = s :=
  ⟨readT_sound, fun h => by rw [← h.2]; exact read_txt h.1⟩
/-! ### no text begins with two things -/
theorem leaf_head {x : D} (h : isPlain x = true) : ∃ c r, txt x = c :: r ∧ mark c = false := by
  have hs := ptext_signs h
  have hn := ptext_ne h
  rw [txt_leaf (plain_tup h)]
  cases hp : ptext x with
  | nil => exact absurd hp hn
  | cons c r => exact ⟨c, r, rfl, hs c (by rw [hp]; simp)⟩
theorem leafPl {x : D} (h : allPlain x = true) (ht : isTup x = false) : isPlain x = true := by rw [← allPlain_leaf ht]; exact h
theorem ends_not {s : List Nat} (h : ends s = true) : ∀ c r, s = c :: r → (!mark c) = false := by
  intro c r e
  subst e
  have : mark c = true := h
  simp [this]
theorem signs_all {x : D} (h : isPlain x = true) : (ptext x).all (fun c => !mark c) = true := by
  refine List.all_eq_true.mpr fun c hc => ?_
  rw [ptext_signs h c hc]; rfl
theorem ends_txtr (xs : List D) (s : List Nat) : ends (txtr xs ++ 41 :: s) = true := ends_r rfl
theorem uniq_leaf {x : D} (px : isPlain x = true) (y : D) {s t : List Nat} (hy : allPlain y = true) (hs : ends s = true) (ht : isTup y = false → ends t = true) (h : txt x ++ s = txt y ++ t) : x = y ∧ s = t := by
  cases ty : isTup y with
  | true =>
    obtain ⟨ys, rfl⟩ : ∃ ys, y = .tup ys := by cases y <;> first | (cases ty; done) | exact ⟨_, rfl⟩
    obtain ⟨c, r, e, m⟩ := leaf_head px
    rw [txt, e] at h
    simp only [List.cons_append, List.cons.injEq] at h
    rw [h.1] at m; cases m
  | false =>
    have py := leafPl hy ty
    rw [txt_leaf (plain_tup px), txt_leaf ty] at h
    obtain ⟨a, b⟩ := span_inj (P := fun c => !mark c) (signs_all px) (signs_all py) (ends_not hs) (ends_not (ht ty)) h
    have := plainOf_ptext px
    rw [a, plainOf_ptext py] at this
    injection this with _ q
    exact ⟨q.symm, b⟩
theorem head_mark {x : D} (hx : allPlain x = true) {c : Nat} {s t : List Nat} (h : txt x ++ s = c :: t) (hm : mark c = true) : c = 40 ∧ isTup x = true := by
  cases tx : isTup x with
  | true =>
    obtain ⟨ys, rfl⟩ : ∃ ys, x = .tup ys := by cases x <;> first | (cases tx; done) | exact ⟨_, rfl⟩
    rw [txt, List.cons_append, List.cons.injEq] at h
    exact ⟨h.1.symm, rfl⟩
  | false =>
    obtain ⟨d, r, e, m⟩ := leaf_head (leafPl hx tx)
    rw [e, List.cons_append, List.cons.injEq] at h
    rw [h.1, hm] at m; cases m
mutual
theorem txt_uniq : ∀ (x y : D) {s t : List Nat}, allPlain x = true → allPlain y = true → (isTup x = false → ends s = true) → (isTup y = false → ends t = true) → txt x ++ s = txt y ++ t → x = y ∧ s = t
  | .tup xs, y, s, t, hx, hy, hs, ht, h => by
    have k : isTup y = true := by
      rw [txt, List.cons_append] at h
      exact (head_mark hy h.symm rfl).2
    obtain ⟨ys, rfl⟩ : ∃ ys, y = .tup ys := by cases y <;> first | (cases k; done) | exact ⟨_, rfl⟩
    rw [allPlain] at hx hy
    rw [txt, txt] at h
    simp only [List.cons_append, List.append_assoc, List.nil_append, List.cons.injEq, true_and] at h
    obtain ⟨a, b⟩ := txtj_uniq xs ys hx hy h
    exact ⟨by rw [a], b⟩
  | .non, y, s, t, hx, hy, hs, ht, h => uniq_leaf rfl y hy (hs rfl) ht h
  | .bl _, y, s, t, hx, hy, hs, ht, h => uniq_leaf rfl y hy (hs rfl) ht h
  | .int _, y, s, t, hx, hy, hs, ht, h => uniq_leaf (leafPl hx rfl) y hy (hs rfl) ht h
  | .str _, y, s, t, hx, hy, hs, ht, h => uniq_leaf (leafPl hx rfl) y hy (hs rfl) ht h
  | .lst _, _, _, _, h, _, _, _, _ => by simp [allPlain] at h
  | .dct _ _, _, _, _, h, _, _, _, _ => by simp [allPlain] at h
theorem txtj_uniq : ∀ (xs ys : List D) {s t : List Nat}, allPlains xs = true → allPlains ys = true → txtj xs ++ 41 :: s = txtj ys ++ 41 :: t → xs = ys ∧ s = t
  | [], ys, s, t, hx, hy, h => by
    cases ys with
    | nil => simp [txtj] at h; exact ⟨rfl, h⟩
    | cons y ys =>
      rw [allPlains, Bool.and_eq_true] at hy
      rw [txtj, txtj, List.append_assoc] at h
      have := (head_mark hy.1 h.symm rfl).1
      cases this
  | x :: xs, ys, s, t, hx, hy, h => by
    rw [allPlains, Bool.and_eq_true] at hx
    cases ys with
    | nil =>
      rw [txtj, txtj, List.append_assoc] at h
      have := (head_mark hx.1 h rfl).1
      cases this
    | cons y ys =>
      rw [allPlains, Bool.and_eq_true] at hy
      rw [txtj, txtj, List.append_assoc, List.append_assoc] at h
      obtain ⟨a, b⟩ := txt_uniq x y hx.1 hy.1 (fun _ => ends_txtr _ _) (fun _ => ends_txtr _ _) h
      obtain ⟨c, d⟩ := txtr_uniq xs ys hx.2 hy.2 b
      exact ⟨by rw [a, c], d⟩
theorem txtr_uniq : ∀ (xs ys : List D) {s t : List Nat}, allPlains xs = true → allPlains ys = true → txtr xs ++ 41 :: s = txtr ys ++ 41 :: t → xs = ys ∧ s = t
  | [], ys, s, t, hx, hy, h => by
    cases ys with
    | nil => simp [txtr] at h; exact ⟨rfl, h⟩
    | cons y ys => simp [txtr] at h
  | x :: xs, ys, s, t, hx, hy, h => by
    rw [allPlains, Bool.and_eq_true] at hx
    cases ys with
    | nil => simp [txtr] at h
    | cons y ys =>
      rw [allPlains, Bool.and_eq_true] at hy
      rw [txtr, txtr] at h
      simp only [List.cons_append, List.append_assoc, List.cons.injEq, true_and] at h
      obtain ⟨a, b⟩ := txt_uniq x y hx.1 hy.1 (fun _ => ends_txtr _ _) (fun _ => ends_txtr _ _) h
      obtain ⟨c, d⟩ := txtr_uniq xs ys hx.2 hy.2 b
      exact ⟨by rw [a, c], d⟩
end
end Ev
end
section
/-! EvLx1: law k85 (defs printed by gen3.py), run: a piece. -/
set_option autoImplicit false
set_option linter.all false
set_option maxRecDepth 100000
namespace Ev
structure LxI where
  th : ThI
  dr : DrI
  lt : LtI
  f_law : Nat
  f_law_bent : Nat
  f_law_depth : Nat
  f_law_due : Nat
  f_law_hand_right : Nat
  f_law_is_right : Nat
  f_law_piece : Nat
  f_law_read : Nat
  f_law_thing : Nat
  f_law_told : Nat
  f_law_wide_right : Nat
/-- _law_thing: 0 _law_m 1 _law_deep 2 _law_some 3 _law_k -/
def LxI.d_law_thing (t : LxI) : Def := ⟨2, 4, [.ite (.or (.cmp .eq (.slot 1) (.lit (.int 0))) (.cmp .eq (.call t.dr.f_law_draw [(.slot 0), (.lit (.int 4))]) (.lit (.int 0)))) [.asg 2 (.lst false [(.lit (.int 0)), (.lit (.int 1)), (.neg (.lit (.int 1))), (.lit (.int 10)), (.neg (.lit (.int 30))), (.bin .sub (.call t.dr.f_law_draw [(.slot 0), (.lit (.int 1000))]) (.lit (.int 500))), (.bin .pow (.lit (.int 10)) (.lit (.int 30))), (.lit .non), (.lit (.bl true)), (.lit (.bl false)), (.lit (.str [97])), (.lit (.str [122])), (.lit (.str [107, 101, 112, 116]))]), .ret (.call t.dr.f_law_of [(.slot 0), (.bin .add (.slot 2) (.lst false [(.lit (.str [97, 98, 99, 100, 101, 102, 103, 104, 105, 106, 107, 108]))]))])] [], .ret (.bi .tuple [(.comp false (.call t.f_law_thing [(.slot 0), (.bin .sub (.slot 1) (.lit (.int 1)))]) [3] [3] .rng [(.call t.dr.f_law_draw [(.slot 0), (.lit (.int 4))])] [])])]⟩
/-- _law_piece: 0 _law_piece_here 1 _law_letters 2 _law_figures 3 _law_sign -/
def LxI.d_law_piece (t : LxI) : Def := ⟨1, 4, [.ite (.cmp .isin (.slot 0) (.tup [(.lit (.str [46])), (.lit (.str [43])), (.lit (.str [45]))])) [.ret (.lst false [(.idx (.dct false [(.lit (.str [46])), (.lit .non), (.lit (.str [43])), (.lit (.bl true)), (.lit (.str [45])), (.lit (.bl false))]) (.slot 0))])] [], .asg 1 (.comp false (.slot 3) [3] [3] .val [(.slot 0)] [(.cmp .isin (.slot 3) (.lit (.str [97, 98, 99, 100, 101, 102, 103, 104, 105, 106, 107, 108, 109, 110, 111, 112, 113, 114, 115, 116, 117, 118, 119, 120, 121, 122])))]), .ite (.cmp .eq (.bi .len [(.slot 1)]) (.bi .len [(.slot 0)])) [.ret (.ite (.chain .le .le (.lit (.int 1)) (.bi .len [(.slot 0)]) (.lit (.int 12))) (.lst false [(.slot 0)]) (.lst false []))] [], .asg 2 (.ite (.cmp .eq (.sliH (.slot 0) (.lit (.int 1))) (.lit (.str [45]))) (.sliL (.slot 0) (.lit (.int 1))) (.slot 0)), .ite (.or (.cmp .ne (.comp false (.slot 3) [3] [3] .val [(.slot 2)] [(.cmp .notin (.slot 3) (.lit (.str [48, 49, 50, 51, 52, 53, 54, 55, 56, 57])))]) (.lst false [])) (.not (.chain .le .le (.lit (.int 1)) (.bi .len [(.slot 2)]) (.lit (.int 31))))) [.ret (.lst false [])] [], .ite (.and (.cmp .eq (.idx (.slot 2) (.lit (.int 0))) (.lit (.str [48]))) (.or (.cmp .gt (.bi .len [(.slot 2)]) (.lit (.int 1))) (.cmp .eq (.sliH (.slot 0) (.lit (.int 1))) (.lit (.str [45]))))) [.ret (.lst false [])] [], .ret (.lst false [(.bi .int [(.slot 0)])])]⟩
/-- _law_read: 0 _law_text_here 1 _law_at 2 _law_end 3 _law_found 4 _law_here 5 _law_one -/
def LxI.d_law_read (t : LxI) : Def := ⟨2, 6, [.ite (.cmp .ne (.sliB (.slot 0) (.slot 1) (.bin .add (.slot 1) (.lit (.int 1)))) (.lit (.str [40]))) [.asg 2 (.slot 1), .while (.and (.cmp .lt (.slot 2) (.bi .len [(.slot 0)])) (.cmp .notin (.idx (.slot 0) (.slot 2)) (.lit (.str [32, 40, 41])))) [.asg 2 (.bin .add (.slot 2) (.lit (.int 1)))], .ret (.tup [(.call t.f_law_piece [(.sliB (.slot 0) (.slot 1) (.slot 2))]), (.slot 2)])] [], .par 3 4 (.lst true []) (.bin .add (.slot 1) (.lit (.int 1))), .ite (.cmp .eq (.sliB (.slot 0) (.slot 4) (.bin .add (.slot 4) (.lit (.int 1)))) (.lit (.str [41]))) [.ret (.tup [(.lst false [(.tup [])]), (.bin .add (.slot 4) (.lit (.int 1)))])] [], .while (.lit (.bl true)) [.asgT [5, 4] (.call t.f_law_read [(.slot 0), (.slot 4)]), .ite (.or (.cmp .eq (.slot 5) (.lst false [])) (.cmp .notin (.sliB (.slot 0) (.slot 4) (.bin .add (.slot 4) (.lit (.int 1)))) (.tup [(.lit (.str [32])), (.lit (.str [41]))]))) [.ret (.tup [(.lst false []), (.slot 4)])] [], .expr (.mt .append (.slot 3) [(.idx (.slot 5) (.lit (.int 0)))]), .ite (.cmp .eq (.idx (.slot 0) (.slot 4)) (.lit (.str [41]))) [.ret (.tup [(.lst false [(.bi .tuple [(.slot 3)])]), (.bin .add (.slot 4) (.lit (.int 1)))])] [], .asg 4 (.bin .add (.slot 4) (.lit (.int 1)))]]⟩
/-- _law_depth: 0 _law_thing_here 1 _law_one -/
def LxI.d_law_depth (t : LxI) : Def := ⟨1, 2, [.ite (.or (.not (.isi (.slot 0) .tuple)) (.cmp .eq (.slot 0) (.tup []))) [.ret (.lit (.int 0))] [], .ret (.bin .add (.lit (.int 1)) (.bi .maxL [(.comp false (.call t.f_law_depth [(.slot 1)]) [1] [1] .val [(.slot 0)] [])]))]⟩
/-- _law_due: 0 _law_text_here 1 _law_found 2 _law_here -/
def LxI.d_law_due (t : LxI) : Def := ⟨1, 3, [.ite (.not (.isi (.slot 0) .str)) [.ret (.tup [(.lit (.str [116, 101, 120, 116])), (.lit (.int 0))])] [], .asgT [1, 2] (.call t.f_law_read [(.slot 0), (.lit (.int 0))]), .ite (.or (.cmp .eq (.slot 1) (.lst false [])) (.or (.cmp .ne (.slot 2) (.bi .len [(.slot 0)])) (.cmp .gt (.call t.f_law_depth [(.idx (.slot 1) (.lit (.int 0)))]) (.lit (.int 20))))) [.ret (.tup [(.lit (.str [116, 101, 120, 116])), (.lit (.int 1))])] [], .ret (.slot 1)]⟩
/-- _law_told: 0 _law_call 1 _law_found 2 e -/
def LxI.d_law_told (t : LxI) : Def := ⟨1, 3, [.asg 1 (.tup [(.lit (.str [111, 100, 100])), (.lit .non)]), .tri (.asg 1 (.lst false [(.act 0)])) [(t.th.x_BadText, some 2)] [[.asg 1 (.tup [(.lit (.str [116, 101, 120, 116])), (.exf 2)])]], .ret (.slot 1)]⟩
/-- _law_bent: 0 _law_m 1 _law_text_here 2 _law_turn 3 _law_at 4 _law_way 5 _law_sign -/
def LxI.d_law_bent (t : LxI) : Def := ⟨2, 6, [.for [2] .rng [(.bin .add (.lit (.int 1)) (.call t.dr.f_law_draw [(.slot 0), (.lit (.int 2))]))] [.par3 3 4 5 (.call t.dr.f_law_draw [(.slot 0), (.bin .add (.bi .len [(.slot 1)]) (.lit (.int 1)))]) (.call t.dr.f_law_draw [(.slot 0), (.lit (.int 4))]) (.call t.dr.f_law_of [(.slot 0), (.bi .list [(.lit (.str [32, 40, 41, 43, 45, 46, 48, 49, 57, 97, 122, 65, 44]))])]), .ite (.cmp .eq (.slot 4) (.lit (.int 0))) [.asg 1 (.bin .add (.sliH (.slot 1) (.slot 3)) (.sliL (.slot 1) (.bin .add (.slot 3) (.lit (.int 1)))))] [.ite (.cmp .eq (.slot 4) (.lit (.int 1))) [.asg 1 (.bin .add (.bin .add (.sliH (.slot 1) (.slot 3)) (.slot 5)) (.sliL (.slot 1) (.slot 3)))] [.ite (.cmp .eq (.slot 4) (.lit (.int 2))) [.asg 1 (.bin .add (.bin .add (.sliH (.slot 1) (.slot 3)) (.slot 5)) (.sliL (.slot 1) (.bin .add (.slot 3) (.lit (.int 1)))))] [.asg 1 (.bin .add (.bin .add (.sliH (.slot 1) (.slot 3)) (.sliB (.slot 1) (.slot 3) (.bin .add (.slot 3) (.lit (.int 1))))) (.sliL (.slot 1) (.slot 3)))]]]], .ret (.slot 1)]⟩
/-- _law_is_right: 0 _law_text_here 1 _law_due_here -/
def LxI.d_law_is_right (t : LxI) : Def := ⟨1, 2, [.asg 1 (.call t.f_law_due [(.slot 0)]), .ite (.cmp .ne (.bi .repr [(.lst false [(.lam t.f_law_told (.call t.th.f_read_thing [(.slot 0)])), (.lam t.f_law_told (.call t.th.f_read_thing [(.slot 0)]))])]) (.bi .repr [(.lst false [(.slot 1), (.slot 1)])])) [.ret (.lit (.bl false))] [], .ret (.or (.not (.isi (.slot 1) .list)) (.cmp .eq (.call t.th.f_thing_text [(.idx (.slot 1) (.lit (.int 0)))]) (.slot 0)))]⟩
/-- _law_hand_right: 0 _law_rows 1 _law_wrong 2 _law_text_here 3 _law_due_here -/
def LxI.d_law_hand_right (t : LxI) : Def := ⟨0, 4, [.asg 0 (.lst true [(.tup [(.lit (.str [48])), (.lst false [(.lit (.int 0))])]), (.tup [(.lit (.str [45, 49])), (.lst false [(.neg (.lit (.int 1)))])]), (.tup [(.lit (.str [45])), (.lst false [(.lit (.bl false))])]), (.tup [(.lit (.str [43])), (.lst false [(.lit (.bl true))])]), (.tup [(.lit (.str [46])), (.lst false [(.lit .non)])]), (.tup [(.lit (.str [97])), (.lst false [(.lit (.str [97]))])]), (.tup [(.lit (.str [40, 41])), (.lst false [(.tup [])])])]), .asg 0 (.catM (.slot 0) (.lst false [(.tup [(.lit (.str [40, 48, 41])), (.lst false [(.tup [(.lit (.int 0))])])]), (.tup [(.lit (.str [40, 48, 32, 49, 41])), (.lst false [(.tup [(.lit (.int 0)), (.lit (.int 1))])])]), (.tup [(.lit (.str [40, 40, 41, 32, 45, 41])), (.lst false [(.tup [(.tup []), (.lit (.bl false))])])])])), .expr (.mt .append (.slot 0) [(.tup [(.lit (.str [40, 40, 97, 41, 32, 40, 98, 32, 46, 41, 41])), (.lst false [(.tup [(.tup [(.lit (.str [97]))]), (.tup [(.lit (.str [98])), (.lit .non)])])])])]), .asg 1 (.lst false [(.lit (.str [])), (.lit (.str [32])), (.lit (.str [40])), (.lit (.str [41])), (.lit (.str [40, 48])), (.lit (.str [48, 41])), (.lit (.str [48, 48])), (.lit (.str [45, 48])), (.lit (.str [48, 49])), (.lit (.str [43, 49])), (.lit (.str [45, 45])), (.lit (.str [46, 46])), (.lit (.str [48, 32, 49])), (.lit (.str [40, 48, 32, 32, 49, 41])), (.lit (.str [40, 32, 48, 41])), (.lit (.str [40, 48, 32, 41])), (.lit (.str [65]))]), .asg 1 (.bin .add (.slot 1) (.lst false [(.lit (.str [97, 49])), (.lit (.str [49, 97])), (.lit (.str [97, 45])), (.lit (.str [40, 48, 44, 49, 41])), (.lit (.str [40, 41, 40, 41])), (.lit (.str [40, 41, 32])), (.lit (.str [32, 40, 41])), (.lit (.str [40, 40, 41])), (.lit (.str [40, 41, 41])), (.lit (.str [48, 10])), (.lit (.str [97, 98, 99, 100, 101, 102, 103, 104, 105, 106, 107, 108, 109])), (.lit (.str [40, 45, 32, 45, 48, 41]))])), .asg 0 (.catM (.slot 0) (.comp false (.tup [(.slot 2), (.tup [(.lit (.str [116, 101, 120, 116])), (.lit (.int 1))])]) [2] [2] .val [(.bin .add (.slot 1) (.lst false [(.bin .mul (.lit (.str [57])) (.lit (.int 32)))]))] [])), .asg 0 (.catM (.slot 0) (.lst false [(.tup [(.bin .mul (.lit (.str [57])) (.lit (.int 31))), (.lst false [(.bin .sub (.bin .pow (.lit (.int 10)) (.lit (.int 31))) (.lit (.int 1)))])]), (.tup [(.bin .add (.lit (.str [45])) (.bin .mul (.lit (.str [57])) (.lit (.int 31)))), (.lst false [(.bin .sub (.lit (.int 1)) (.bin .pow (.lit (.int 10)) (.lit (.int 31))))])]), (.tup [(.bin .add (.bin .mul (.lit (.str [40])) (.lit (.int 19))) (.bin .mul (.lit (.str [41])) (.lit (.int 19)))), (.lit .non)])])), .asg 0 (.catM (.slot 0) (.lst false [(.tup [(.bin .add (.bin .mul (.lit (.str [40])) (.lit (.int 26))) (.bin .mul (.lit (.str [41])) (.lit (.int 26)))), (.tup [(.lit (.str [116, 101, 120, 116])), (.lit (.int 1))])]), (.tup [(.lit .non), (.tup [(.lit (.str [116, 101, 120, 116])), (.lit (.int 0))])]), (.tup [(.lit (.int 7)), (.tup [(.lit (.str [116, 101, 120, 116])), (.lit (.int 0))])]), (.tup [(.lst false [(.lit (.str [48]))]), (.tup [(.lit (.str [116, 101, 120, 116])), (.lit (.int 0))])])])), .for [2, 3] .val [(.bin .add (.slot 0) (.lst false [(.tup [(.tup []), (.tup [(.lit (.str [116, 101, 120, 116])), (.lit (.int 0))])])]))] [.ite (.or (.and (.cmp .isNot (.slot 3) (.lit .non)) (.cmp .ne (.bi .repr [(.call t.f_law_due [(.slot 2)])]) (.bi .repr [(.slot 3)]))) (.not (.call t.f_law_is_right [(.slot 2)]))) [.ret (.lit (.bl false))] []], .ret (.lit (.bl true))]⟩
/-- _law_wide_right: 0 _law_text_here 1 _law_told_here -/
def LxI.d_law_wide_right (t : LxI) : Def := ⟨0, 2, [.asg 0 (.bin .add (.lit (.str [40])) (.bin .mul (.lit (.str [48, 32])) (.lit (.int 3998)))), .asg 1 (.lst false [(.lam t.f_law_told (.call t.th.f_read_thing [(.bin .add (.slot 0) (.lit (.str [48, 41])))])), (.lam t.f_law_told (.call t.th.f_read_thing [(.bin .add (.slot 0) (.lit (.str [48, 32, 48, 41])))]))]), .ret (.cmp .eq (.slot 1) (.lst false [(.lst false [(.bin .mul (.tup [(.lit (.int 0))]) (.lit (.int 3999)))]), (.tup [(.lit (.str [116, 101, 120, 116])), (.lit (.int 1))])]))]⟩
/-- law: 0 _law_script 1 _law_k 2 _law_m 3 _law_text_here 4 _law_far 5 _law_turn -/
def LxI.d_law (t : LxI) : Def := ⟨1, 6, [.for [1] .rng [(.bin .add (.lit (.int 5)) (.bi .min2 [(.bi .len [(.slot 0)]), (.lit (.int 4))]))] [.asg 2 (.call t.dr.f_law_begun [(.slot 0), (.slot 1)]), .asg 3 (.call t.lt.f_law_text [(.call t.f_law_thing [(.slot 2), (.lit (.int 4))])]), .for [4] .val [(.bin .add (.lst false [(.slot 3)]) (.comp false (.call t.f_law_bent [(.slot 2), (.slot 3)]) [5] [5] .rng [(.lit (.int 10))] []))] [.ite (.not (.call t.f_law_is_right [(.slot 4)])) [.ret (.lit (.bl false))] []]], .ite (.and (.cmp .eq (.bin .mod (.bi .int [(.bi .len [(.slot 0)])]) (.lit (.int 8))) (.lit (.int 0))) (.not (.call t.f_law_wide_right []))) [.ret (.lit (.bl false))] [], .ret (.call t.f_law_hand_right [])]⟩
/-- the text has these -/
structure LxI.At (t : LxI) (p : Prog) : Prop where
  th : t.th.At p
  dr : t.dr.At p
  lt : t.lt.At p
  law_thing : p.defs t.f_law_thing = some t.d_law_thing
  law_piece : p.defs t.f_law_piece = some t.d_law_piece
  law_read : p.defs t.f_law_read = some t.d_law_read
  law_depth : p.defs t.f_law_depth = some t.d_law_depth
  law_due : p.defs t.f_law_due = some t.d_law_due
  law_told : p.defs t.f_law_told = some t.d_law_told
  law_bent : p.defs t.f_law_bent = some t.d_law_bent
  law_is_right : p.defs t.f_law_is_right = some t.d_law_is_right
  law_hand_right : p.defs t.f_law_hand_right = some t.d_law_hand_right
  law_wide_right : p.defs t.f_law_wide_right = some t.d_law_wide_right
  law : p.defs t.f_law = some t.d_law
/-! ### numbers that are written without need of zeros -/
theorem canon : ∀ (r : List Nat) (c : Nat), (c :: r).all fig = true → c ≠ 48 → digits (valOf (c :: r)) = c :: r ∧ 1 ≤ valOf (c :: r) := by
  intro r
  suffices ∀ (n : Nat) (r : List Nat), r.length = n → ∀ c, (c :: r).all fig = true → c ≠ 48 → digits (valOf (c :: r)) = c :: r ∧ 1 ≤ valOf (c :: r) from fun c h1 h2 => this r.length r rfl c h1 h2
  intro n
  induction n with
  | zero =>
    intro r hr c h hc
    have : r = [] := List.length_eq_zero_iff.mp hr
    subst this
    simp [fig] at h
    have e : valOf [c] = c - 48 := by simp [valOf]
    rw [e, digits_eq, if_pos (by omega)]
    exact ⟨by congr 1; omega, by omega⟩
  | succ n ih =>
    intro r hr c h hc
    rcases List.eq_nil_or_concat r with rfl | ⟨g, d, rfl⟩
    · simp at hr
    · rw [List.concat_eq_append] at hr h ⊢
      rw [← List.cons_append] at h ⊢
      rw [List.all_append, Bool.and_eq_true] at h
      obtain ⟨q1, q2⟩ := ih g (by simpa using hr) c h.1 hc
      have hd : 48 ≤ d ∧ d ≤ 57 := by have := h.2; simpa [fig] using this
      rw [valOf_snoc, digits_eq, if_neg (by omega)]
      have e1 : (valOf (c :: g) * 10 + (d - 48)) / 10 = valOf (c :: g) := by omega
      have e2 : 48 + (valOf (c :: g) * 10 + (d - 48)) % 10 = d := by omega
      rw [e1, e2, q1]
      exact ⟨rfl, by omega⟩
theorem val_zero (r : List Nat) : valOf (48 :: r) = valOf r := by simp [valOf]
theorem not_canon {r : List Nat} (h : r.all fig = true) (hr : r ≠ []) : digits (valOf (48 :: r)) ≠ 48 :: r := by
  intro e
  have l := valOf_lt r h
  have h0 : 0 < r.length := List.length_pos_iff.mpr hr
  rw [val_zero] at e
  have := (digits_len (valOf r) r.length h0).mpr l
  rw [e] at this
  simp at this
  omega
def lead (s : List Nat) : Bool := match figsOf s with
  | 48 :: r => !r.isEmpty || s.take 1 == [45]
  | _ => false
theorem lead_ok {s : List Nat} (h : figsOk s = true) : (intText (intOf s) == s) = !lead s := by
  unfold lead
  cases s with
  | nil => simp [figsOk, figsOf] at h
  | cons c r =>
    by_cases hc : c = 45
    · subst hc
      have ef : figsOf (45 :: r) = r := rfl
      unfold figsOk at h
      rw [ef] at h ⊢
      simp only [Bool.and_eq_true, decide_eq_true_eq] at h
      have iv : intOf (45 :: r) = -(valOf r : Int) := by
        unfold intOf
        rw [readInt_neg, if_pos (by simp; exact ⟨by omega, by simpa using h.2⟩)]
        rfl
      rw [iv]
      cases r with
      | nil => simp at h
      | cons d r =>
        by_cases hd : d = 48
        · subst hd
          simp only [List.take_succ_cons, List.take_zero, beq_self_eq_true, Bool.or_true, Bool.not_true]
          rw [beq_eq_false_iff_ne]
          intro e
          unfold intText at e
          split at e
          · injection e with _ e
            rw [Int.natAbs_neg, Int.natAbs_natCast] at e
            by_cases hr : r = []
            · subst hr
              rename_i q
              simp [valOf] at q
            · exact not_canon (by have := h.2; simp at this; simpa using this.2) hr e
          · cases hg : digits (-(valOf (48 :: r) : Int)).natAbs with
            | nil => have := digits_pos (-(valOf (48 :: r) : Int)).natAbs; rw [hg] at this; simp at this
            | cons a b =>
              have := digits_ne45 _ _ _ hg
              rw [hg] at e
              injection e with e1 e2
              subst e1
              cases this
        · obtain ⟨q1, q2⟩ := canon r d h.2 hd
          have : intText (-(valOf (d :: r) : Int)) = 45 :: d :: r := by
            unfold intText
            rw [if_pos (by omega), Int.natAbs_neg, Int.natAbs_natCast, q1]
          rw [this]
          simp only [beq_self_eq_true]
          split
          · rename_i e; injection e with e1 e2; exact absurd e1 hd
          · rfl
    · have ef : figsOf (c :: r) = c :: r := by
        unfold figsOf
        rw [if_neg (by simpa using hc)]
      unfold figsOk at h
      rw [ef] at h ⊢
      simp only [Bool.and_eq_true, decide_eq_true_eq] at h
      have iv : intOf (c :: r) = (valOf (c :: r) : Int) := by
        unfold intOf
        rw [readInt_pos c r hc, if_pos (by simp; simp at h; exact ⟨by omega, h.2⟩)]
        rfl
      have it : intText (valOf (c :: r) : Int) = digits (valOf (c :: r)) := by
        unfold intText
        rw [if_neg (by omega), Int.natAbs_natCast]
      rw [iv, it]
      have ht : ((c :: r).take 1 == [45]) = false := by simpa using hc
      by_cases hd : c = 48
      · subst hd
        rw [ht]
        cases hr : r with
        | nil => simp [valOf]; rfl
        | cons a b =>
          rw [← hr]
          have hne : r ≠ [] := by rw [hr]; simp
          have := not_canon (r := r) (by have := h.2; simp at this; simpa using this.2) hne
          rw [beq_eq_false_iff_ne.mpr this, hr]
          rfl
      · rw [(canon r c h.2 hd).1]
        simp only [beq_self_eq_true]
        split
        · rename_i e; injection e with e1 e2; exact absurd e1 hd
        · rfl
end Ev
end
section
/-! EvLx2: law k85: a piece. -/
set_option autoImplicit false
set_option linter.all false
set_option maxRecDepth 100000
namespace Ev
def sg (c : Nat) : D := .str [c]
theorem compGo_filt {P : Nat → Bool} {f : D → Heap → Res (Option D)} {w : List Nat} {h : Heap} (e : ∀ c ∈ w, f (.str [c]) h = .ok (if P c then some (.str [c]) else none) h) :
    compGo f (w.map fun c => .str [c]) h = .ok ((w.filter P).map fun c => .str [c]) h := by
  induction w with
  | nil => rfl
  | cons c w ih =>
    rw [List.map_cons, compGo, e c (by simp), Res.bind_ok, ih fun x hx => e x (by simp [hx]), Res.bind_ok, List.filter_cons]
    cases P c <;> rfl
theorem in_signs3 (w : List Nat) : isinD (.str w) (.tup [.str [46], .str [43], .str [45]]) = some (w == [46] || w == [43] || w == [45]) := by
  simp only [isinD, inD, flat, D.eq, List.all_cons, List.all_nil, Bool.and_self, if_true, List.any_cons, List.any_nil, Bool.or_false]
  congr 1
  have s : ∀ a b : List Nat, (a == b) = (b == a) := fun a b => by
    by_cases h : a = b
    · subst h; rfl
    · rw [beq_false_of_ne h, beq_false_of_ne (fun e => h e.symm)]
  rw [s [46] w, s [43] w, s [45] w, Bool.or_assoc]
def lp (w : List Nat) : List D := if (plainOf w).1 then [(plainOf w).2] else []
theorem eqD_nat (a b : Nat) : eqD (.int (a : Int)) (.int (b : Int)) = some (a == b) := by
  rw [eqD_int]
  congr 1
  by_cases h : a = b
  · subst h; simp
  · have : ¬ (a : Int) = b := by omega
    rw [beq_false_of_ne h, beq_false_of_ne this]
def pcLet : E := .comp false (.slot 3) [3] [3] .val [(.slot 0)] [(.cmp .isin (.slot 3) (.lit (.str [97, 98, 99, 100, 101, 102, 103, 104, 105, 106, 107, 108, 109, 110, 111, 112, 113, 114, 115, 116, 117, 118, 119, 120, 121, 122])))]
def pcFig : E := .ite (.cmp .eq (.sliH (.slot 0) (.lit (.int 1))) (.lit (.str [45]))) (.sliL (.slot 0) (.lit (.int 1))) (.slot 0)
def pcBad : E := .comp false (.slot 3) [3] [3] .val [(.slot 2)] [(.cmp .notin (.slot 3) (.lit (.str [48, 49, 50, 51, 52, 53, 54, 55, 56, 57])))]
theorem piece_body (t : LxI) : t.d_law_piece.body = [.ite (.cmp .isin (.slot 0) (.tup [(.lit (.str [46])), (.lit (.str [43])), (.lit (.str [45]))])) [.ret (.lst false [(.idx (.dct false [(.lit (.str [46])), (.lit .non), (.lit (.str [43])), (.lit (.bl true)), (.lit (.str [45])), (.lit (.bl false))]) (.slot 0))])] [], .asg 1 pcLet,
  .ite (.cmp .eq (.bi .len [(.slot 1)]) (.bi .len [(.slot 0)])) [.ret (.ite (.chain .le .le (.lit (.int 1)) (.bi .len [(.slot 0)]) (.lit (.int 12))) (.lst false [(.slot 0)]) (.lst false []))] [], .asg 2 pcFig, .ite (.or (.cmp .ne pcBad (.lst false [])) (.not (.chain .le .le (.lit (.int 1)) (.bi .len [(.slot 2)]) (.lit (.int 31))))) [.ret (.lst false [])] [],
  .ite (.and (.cmp .eq (.idx (.slot 2) (.lit (.int 0))) (.lit (.str [48]))) (.or (.cmp .gt (.bi .len [(.slot 2)]) (.lit (.int 1))) (.cmp .eq (.sliH (.slot 0) (.lit (.int 1))) (.lit (.str [45]))))) [.ret (.lst false [])] [], .ret (.lst false [(.bi .int [(.slot 0)])])] := rfl
section
variable {t : LxI} {p : Prog} {n : Nat} {h : Heap}
theorem let_run (g : G) (w : List Nat) (hw : w.length ≤ line) (e1 e2 e3 : Option NV) : evalE g pcLet [some (.v (.d (.str w))), e1, e2, e3] h = .ok (.d (.lst ((w.filter lower).map fun c => .str [c]))) h := by
  have fl1 : (w.filter lower).length ≤ line := Nat.le_trans (List.length_filter_le ..) hw
  have F1 : ∀ f : D → Heap → Res (Option D), (∀ c ∈ w, f (.str [c]) h = .ok (if lower c then some (.str [c]) else none) h) → compGo f (w.map fun c => .str [c]) h = .ok ((w.filter lower).map fun c => .str [c]) h := fun f e => compGo_filt e
  simp [pcLet, slotOf]
  rw [F1]
  · simp [fits, fl1]
  · intro c hc
    simp only [setTg, setEnv, wipeE, opt_some, List.set_cons_succ, List.set_cons_zero, Tt_cons, E_cmp, E_slot, slotOf, List.getElem?_cons_succ, List.getElem?_cons_zero, Res.bind_ok, E_lit, look_d, c_isin, isin_sign, letters_lower, okB_some]
    cases lower c <;> simp
theorem fig_run (g : G) (w : List Nat) (e1 e2 e3 : Option NV) : evalE g pcFig [some (.v (.d (.str w))), e1, e2, e3] h = .ok (.d (.str (figsOf w))) h := by
  have k2 : (if w.take 1 = [45] then Res.ok (PV.d (D.str w.tail)) h else .ok (.d (.str w)) h) = Res.ok (PV.d (D.str (figsOf w))) h := by
    unfold figsOf
    by_cases q : w.take 1 = [45] <;> simp [q]
  simp [pcFig, slotOf, slice_take1, slice_drop1, eqD_str, k2]
theorem bad_run (g : G) (f : List Nat) (hw : f.length ≤ line) (e0 e1 e3 : Option NV) : evalE g pcBad [e0, e1, some (.v (.d (.str f))), e3] h = .ok (.d (.lst ((f.filter fun c => !fig c).map fun c => .str [c]))) h := by
  have fl1 : (f.filter fun c => !fig c).length ≤ line := Nat.le_trans (List.length_filter_le ..) hw
  have F1 : ∀ F : D → Heap → Res (Option D), (∀ c ∈ f, F (.str [c]) h = .ok (if !fig c then some (.str [c]) else none) h) → compGo F (f.map fun c => .str [c]) h = .ok ((f.filter fun c => !fig c).map fun c => .str [c]) h := fun f e => compGo_filt e
  simp [pcBad, slotOf]
  rw [F1]
  · simp [fits, fl1]
  · intro c hc
    simp only [setTg, setEnv, wipeE, opt_some, List.set_cons_succ, List.set_cons_zero, Tt_cons, E_cmp, E_slot, slotOf, List.getElem?_cons_succ, List.getElem?_cons_zero, Res.bind_ok, E_lit, look_d, c_notin, isin_sign, digits_has, Option.map_some, okB_some]
    cases fig c <;> simp
theorem piece_run (A : t.At p) (w : List Nat) (hf : Fine h) (hw : w.length ≤ line) : callN p (n + 1) t.f_law_piece [.d (.str w)] h = .ok (.d (.lst (lp w))) h := by
  rw [callN_run A.law_piece rfl, piece_body]
  have l3 : decide (3 ≤ line) = true := by decide
  have l1 : decide (1 ≤ line) = true := by decide
  have l0 : decide (0 ≤ line) = true := by decide
  have disp : dispD [.str [46], .non, .str [43], .bl true, .str [45], .bl false] = some ([.str [46], .str [43], .str [45]], [.non, .bl true, .bl false]) := rfl
  have q1 : idxD (.dct [.str [46], .str [43], .str [45]] [.non, .bl true, .bl false]) (.str [46]) = some .non := rfl
  have q2 : idxD (.dct [.str [46], .str [43], .str [45]] [.non, .bl true, .bl false]) (.str [43]) = some (.bl true) := rfl
  have q3 : idxD (.dct [.str [46], .str [43], .str [45]] [.non, .bl true, .bl false]) (.str [45]) = some (.bl false) := rfl
  simp only [startEnv, show t.d_law_piece.ns = 4 from rfl, show t.d_law_piece.ps = 1 from rfl, List.map_cons, List.map_nil, List.cons_append, List.nil_append, List.replicate, Nat.sub]
  unfold lp plainOf
  by_cases c1 : w = [46]
  · subst c1
    simp [slotOf, fits, l3, l1, in_signs3, disp, q1, hf]
  · by_cases c2 : w = [43]
    · subst c2
      simp [slotOf, fits, l3, l1, in_signs3, disp, q2, hf]
    · by_cases c3 : w = [45]
      · subst c3
        simp [slotOf, fits, l3, l1, in_signs3, disp, q3, hf]
      · have b1 : (w == [46]) = false := by simpa using c1
        have b2 : (w == [43]) = false := by simpa using c2
        have b3 : (w == [45]) = false := by simpa using c3
        have lr := let_run (h := h) (gAt p n (fun _ => .bad) h.length) w hw none none none
        have fr := fun e1 => fig_run (h := h) (gAt p n (fun _ => .bad) h.length) w e1 none none
        have fl : (figsOf w).length ≤ line := by
          unfold figsOf
          by_cases q : w.take 1 = [45] <;> simp [q] <;> omega
        have br := fun e0 e1 => bad_run (h := h) (gAt p n (fun _ => .bad) h.length) (figsOf w) fl e0 e1 none
        rw [b1, b2, b3]
        by_cases al : w.all lower = true
        · have e1 : w.filter lower = w := List.filter_eq_self.mpr (by simpa using al)
          rw [e1] at lr
          by_cases z1 : 1 ≤ w.length
          · by_cases z2 : w.length ≤ 12
            · have z1' : (1 : Int) ≤ w.length := by omega
              have z2' : (w.length : Int) ≤ 12 := by omega
              have hw : isWordS w = true := by unfold isWordS; rw [al, decide_eq_true z1, decide_eq_true z2]; rfl
              simp [slotOf, setEnv, fits, l3, l1, in_signs3, c1, c2, c3, lr, eqD_nat, z1', z2', hw, hf]
            · have z1' : (1 : Int) ≤ w.length := by omega
              have z2' : ¬ (w.length : Int) ≤ 12 := by omega
              have hw : isWordS w = false := by unfold isWordS; rw [decide_eq_false z2]; simp
              have fo : figsOk w = false := by
                cases w with
                | nil => simp at z1
                | cons c r =>
                  have hc : lower c = true := by simp at al; exact al.1
                  have : c ≠ 45 := by intro e; subst e; cases hc
                  unfold figsOk figsOf
                  rw [if_neg (by simpa using this), List.all_cons]
                  have : fig c = false := by simp [lower] at hc; simp [fig]; omega
                  rw [this]; simp
              simp [slotOf, setEnv, fits, l3, l0, in_signs3, c1, c2, c3, lr, eqD_nat, z1', z2', hw, fo, hf]
          · have z1' : ¬ (1 : Int) ≤ w.length := by omega
            have : w = [] := List.length_eq_zero_iff.mp (by omega)
            subst this
            simp [slotOf, setEnv, fits, l3, l0, in_signs3, lr, eqD_int, isWordS, figsOk, figsOf, hf]
        · have e1 : ¬ (w.filter lower).length = w.length := by
            intro e
            apply al
            rw [List.length_filter_eq_length_iff] at e
            exact List.all_eq_true.mpr e
          have hwd : isWordS w = false := by
            unfold isWordS
            rw [Bool.not_eq_true] at al
            rw [al]; simp
          have hd0 : ∃ f, f = figsOf w := ⟨_, rfl⟩
          by_cases b : (figsOf w).all fig = true
          · have e2 : (figsOf w).filter (fun c => !fig c) = [] := by
              rw [List.filter_eq_nil_iff]
              intro c hc
              have := List.all_eq_true.mp b c hc
              simp [this]
            rw [e2] at br
            by_cases z1 : 1 ≤ (figsOf w).length
            · by_cases z2 : (figsOf w).length ≤ 31
              · have z1' : (1 : Int) ≤ (figsOf w).length := by omega
                have z2' : ((figsOf w).length : Int) ≤ 31 := by omega
                have fo : figsOk w = true := by unfold figsOk; rw [b, decide_eq_true z1, decide_eq_true z2]; rfl
                obtain ⟨r1, r2⟩ := int_of fo
                have ld := lead_ok fo
                have goal : (if (if w == [46] then (true, D.non) else if w == [43] then (true, .bl true) else if w == [45] then (true, .bl false) else if isWordS w then (true, .str w) else if figsOk w then (intText (intOf w) == w, .int (intOf w)) else (false, .non)).1 then [(if w == [46] then (true, D.non) else if w == [43] then (true, .bl true) else if w == [45] then (true, .bl false) else if isWordS w then (true, .str w) else if figsOk w then (intText (intOf w) == w, .int (intOf w)) else (false, .non)).2] else []) = if lead w then [] else [.int (intOf w)] := by
                  rw [b1, b2, b3, hwd, fo, ld]
                  cases lead w <;> rfl
                rw [b1, b2, b3] at goal
                rw [goal]
                clear goal ld
                obtain ⟨d, r, hd⟩ : ∃ d r, figsOf w = d :: r := by
                  cases hd : figsOf w with
                  | nil => rw [hd] at z1; simp at z1
                  | cons d r => exact ⟨d, r, rfl⟩
                have st : ∀ i, i = 0 → strAt (figsOf w) i = some (.str [d]) := by
                  intro i hi
                  subst hi
                  have : (0 : Int) < (figsOf w).length := by omega
                  unfold strAt spot
                  rw [if_pos (by omega), if_pos this]
                  simp [sign, hd]
                have st := st 0 rfl
                by_cases d0 : d = 48
                · by_cases r0 : r = []
                  · have lz : ¬ (1 : Int) < (figsOf w).length := by rw [hd, r0]; simp
                    have ll : lead w = (w.take 1 == [45]) := by unfold lead; rw [hd, d0, r0]; rfl
                    rw [ll]
                    by_cases mi : w.take 1 = [45]
                    · simp [slotOf, setEnv, fits, l3, l0, l1, in_signs3, c1, c2, c3, lr, fr, br, eqD_nat, e1, z1', z2', hwd, fo, hf, eqD_nilL, nilB, st, eqD_str, d0, lz, slice_take1, mi]
                    · simp [slotOf, setEnv, fits, l3, l0, l1, in_signs3, c1, c2, c3, lr, fr, br, eqD_nat, e1, z1', z2', hwd, fo, hf, eqD_nilL, nilB, st, eqD_str, d0, lz, slice_take1, mi, r1]
                  · have lz : (1 : Int) < (figsOf w).length := by
                      have : 0 < r.length := List.length_pos_iff.mpr r0
                      rw [hd, List.length_cons]; omega
                    have ll : lead w = true := by
                      unfold lead; rw [hd, d0]
                      have : r.isEmpty = false := by simpa using r0
                      simp [this]
                    simp [slotOf, setEnv, fits, l3, l0, l1, in_signs3, c1, c2, c3, lr, fr, br, eqD_nat, e1, z1', z2', hwd, fo, hf, eqD_nilL, nilB, st, eqD_str, d0, lz, ll]
                · have ll : lead w = false := by
                    unfold lead; rw [hd]
                    split
                    · rename_i q; injection q with q1 q2; exact absurd q1 d0
                    · rfl
                  simp [slotOf, setEnv, fits, l3, l0, l1, in_signs3, c1, c2, c3, lr, fr, br, eqD_nat, e1, z1', z2', hwd, fo, hf, eqD_nilL, nilB, st, eqD_str, d0, ll, r1]
              · have z1' : (1 : Int) ≤ (figsOf w).length := by omega
                have z2' : ¬ ((figsOf w).length : Int) ≤ 31 := by omega
                have fo : figsOk w = false := by unfold figsOk; rw [decide_eq_false z2]; simp
                simp [slotOf, setEnv, fits, l3, l0, in_signs3, c1, c2, c3, lr, fr, br, eqD_nat, e1, z1', z2', hwd, fo, hf, eqD_nilL, nilB]
            · have z1' : ¬ (1 : Int) ≤ (figsOf w).length := by omega
              have fo : figsOk w = false := by unfold figsOk; rw [decide_eq_false z1]; simp
              simp [slotOf, setEnv, fits, l3, l0, in_signs3, c1, c2, c3, lr, fr, br, eqD_nat, e1, z1', hwd, fo, hf, eqD_nilL, nilB]
          · have fo : figsOk w = false := by unfold figsOk; rw [Bool.not_eq_true] at b; rw [b]; simp
            have e2 : nilB (((figsOf w).filter fun c => !fig c).map fun c => D.str [c]) = false := by
              cases hfl : (figsOf w).filter (fun c => !fig c) with
              | nil =>
                rw [List.filter_eq_nil_iff] at hfl
                exact absurd (List.all_eq_true.mpr fun c hc => by simpa using hfl c hc) b
              | cons _ _ => rfl
            simp [slotOf, setEnv, fits, l3, l0, in_signs3, c1, c2, c3, lr, fr, br, eqD_nat, e1, hwd, fo, hf, eqD_nilL, e2]
end
end Ev
end
section
/-! EvLx3: law k85: the law's own reader. -/
set_option autoImplicit false
set_option linter.all false
set_option maxRecDepth 100000
namespace Ev
theorem slice_at (q s : List Nat) (j : Nat) (a b : Int) (ha : a = q.length) (hb : b = q.length + j) : sliceD (.str (q ++ s)) (some a) (some b) = some (.str (s.take j)) := by
  subst ha hb
  rw [sliceD]
  unfold sliceL ixL
  have h1 : ¬ (q.length : Int) < 0 := by omega
  have h2 : ¬ (q.length : Int) + j < 0 := by omega
  have e : ((q.length : Int) + j).toNat = q.length + j := by omega
  have e1 : min q.length (q ++ s).length = q.length := by rw [List.length_append]; omega
  have e2 : min (q.length + j) (q ++ s).length - q.length = min j s.length := by rw [List.length_append]; omega
  simp only [h1, h2, if_false, Int.toNat_natCast, e, e1, e2, List.drop_left]
  congr 2
  by_cases z : j ≤ s.length
  · rw [Nat.min_eq_left z]
  · rw [Nat.min_eq_right (by omega), List.take_of_length_le (by omega), List.take_of_length_le (by omega)]
theorem sign_at (q r : List Nat) (c : Nat) : strAt (q ++ c :: r) (q.length : Int) = some (.str [c]) := by
  have : (q.length : Int) < (q ++ c :: r).length := by rw [List.length_append, List.length_cons]; omega
  unfold strAt spot
  rw [if_pos (by omega), if_pos this]
  simp [sign]
theorem marks_has (c : Nat) : ([32, 40, 41] : List Nat).contains c = mark c := by
  unfold mark
  by_cases h1 : c = 32
  · subst h1; rfl
  · by_cases h2 : c = 40
    · subst h2; rfl
    · by_cases h3 : c = 41
      · subst h3; rfl
      · simp [h1, h2, h3]
theorem in_two (w : List Nat) : isinD (.str w) (.tup [.str [32], .str [41]]) = some (w == [32] || w == [41]) := by
  simp only [isinD, inD, flat, D.eq, List.all_cons, List.all_nil, Bool.and_self, if_true, List.any_cons, List.any_nil, Bool.or_false]
  have s : ∀ a b : List Nat, (a == b) = (b == a) := fun a b => by
    by_cases h : a = b
    · subst h; rfl
    · rw [beq_false_of_ne h, beq_false_of_ne (fun e => h e.symm)]
  rw [s [32] w, s [41] w]
def nm (c : Nat) : Bool := !mark c
def scCond : E := .and (.cmp .lt (.slot 2) (.bi .len [(.slot 0)])) (.cmp .notin (.idx (.slot 0) (.slot 2)) (.lit (.str [32, 40, 41])))
def scBody : List S := [.asg 2 (.bin .add (.slot 2) (.lit (.int 1)))]
def ldCond : E := .lit (.bl true)
def LxI.ldBody (t : LxI) : List S := match t.d_law_read.body with
  | [_, _, _, .while _ b] => b
  | _ => []
theorem read_body (t : LxI) : t.d_law_read.body = [.ite (.cmp .ne (.sliB (.slot 0) (.slot 1) (.bin .add (.slot 1) (.lit (.int 1)))) (.lit (.str [40]))) [.asg 2 (.slot 1), .while scCond scBody, .ret (.tup [(.call t.f_law_piece [(.sliB (.slot 0) (.slot 1) (.slot 2))]), (.slot 2)])] [], .par 3 4 (.lst true []) (.bin .add (.slot 1) (.lit (.int 1))),
  .ite (.cmp .eq (.sliB (.slot 0) (.slot 4) (.bin .add (.slot 4) (.lit (.int 1)))) (.lit (.str [41]))) [.ret (.tup [(.lst false [(.tup [])]), (.bin .add (.slot 4) (.lit (.int 1)))])] [], .while ldCond t.ldBody] := rfl
section
variable {t : LxI} {p : Prog} {n : Nat} {h : Heap}
theorem scan_loop (g : G) (T : List Nat) (e1 e3 e4 e5 : Option NV) : ∀ (u q : List Nat) (fuel : Nat), u.length < fuel → T = q ++ u →
    whileGo (fun env h => evalE g scCond env h) (fun env h => evalSs g scBody env h) fuel [some (.v (.d (.str T))), e1, some (.v (.d (.int q.length))), e3, e4, e5] h =
      .ok (.next [some (.v (.d (.str T))), e1, some (.v (.d (.int (q.length + (u.takeWhile nm).length : Nat)))), e3, e4, e5]) h
  | [], q, fuel, hf, hT => by
    obtain ⟨fuel, rfl⟩ : ∃ f, fuel = f + 1 := ⟨fuel - 1, by simp at hf; omega⟩
    subst hT
    rw [whileGo_succ]
    simp [scCond, slotOf]
  | c :: r, q, fuel, hf, hT => by
    obtain ⟨fuel, rfl⟩ : ∃ f, fuel = f + 1 := ⟨fuel - 1, by omega⟩
    have lt : (q.length : Int) < T.length := by rw [hT, List.length_append, List.length_cons]; omega
    have sa : strAt T (q.length : Int) = some (.str [c]) := by rw [hT]; exact sign_at q r c
    rw [whileGo_succ]
    have cc : evalE g scCond [some (.v (.d (.str T))), e1, some (.v (.d (.int q.length))), e3, e4, e5] h = .ok (.d (.bl (nm c))) h := by
      simp [scCond, slotOf, lt, sa, marks_has, nm, -List.contains_cons]
      unfold mark
      by_cases h1 : c = 32 <;> by_cases h2 : c = 40 <;> by_cases h3 : c = 41 <;> simp [h1, h2, h3]
    rw [cc]
    cases hm : mark c with
    | true => simp [nm, hm]
    | false =>
      have := scan_loop g T e1 e3 e4 e5 r (q ++ [c]) fuel (by simp at hf; omega) (by rw [hT]; simp)
      have nmc : nm c = true := by simp [nm, hm]
      rw [nmc, List.takeWhile_cons, nmc]
      simp only [Res.bind_ok, test_d, truD_bl, if_true]
      have b : evalSs g scBody [some (.v (.d (.str T))), e1, some (.v (.d (.int q.length))), e3, e4, e5] h = .ok (.next [some (.v (.d (.str T))), e1, some (.v (.d (.int (q ++ [c]).length))), e3, e4, e5]) h := by
        simp [scBody, slotOf, setEnv]
      rw [b, nxt_next, this]
      simp
      omega
/-- a thing is read at the beginning of s -/
structure RD (s : List Nat) (x : D) (rest : List Nat) : Prop where
  pl : allPlain x = true
  eq : s = txt x ++ rest
  en : isTup x = false → ends rest = true
structure LdS (u : List Nat) (xs : List D) (rest : List Nat) : Prop where
  ne : xs ≠ []
  pl : allPlains xs = true
  eq : u = txtj xs ++ 41 :: rest
theorem RD.uniq {s : List Nat} {x y : D} {r1 r2 : List Nat} (a : RD s x r1) (b : RD s y r2) : x = y ∧ r1 = r2 := txt_uniq x y a.pl b.pl a.en b.en (by rw [← a.eq, ← b.eq])
def ReadAt (t : LxI) (p : Prog) (n : Nat) (T : List Nat) (a : Nat) (s : List Nat) : Prop := ∀ h : Heap, Fine h → ∃ (found : List D) (j : Int), callN p n t.f_law_read [.d (.str T), .d (.int a)] h = .ok (.d (.tup [.lst found, .int j])) h ∧
  ((∃ x rest, RD s x rest ∧ found = [x] ∧ j = ((a + (txt x).length : Nat) : Int)) ∨ (found = [] ∧ ∀ x rest, ¬RD s x rest))
theorem txt_pos {x : D} (h : allPlain x = true) : 1 ≤ (txt x).length := by
  cases ht : isTup x with
  | true =>
    obtain ⟨ys, rfl⟩ : ∃ ys, x = .tup ys := by cases x <;> first | (cases ht; done) | exact ⟨_, rfl⟩
    rw [txt]; simp
  | false =>
    obtain ⟨c, r, e, _⟩ := leaf_head (leafPl h ht)
    rw [e]; simp
theorem ld_loop (A : t.At p) (c : Nat) (T : List Nat) (hT : T.length < line) (hf : Fine h) (IH : ∀ (q u : List Nat), T = q ++ u → u.count 40 ≤ c → ReadAt t p n T q.length u) (e1 e2 : Option NV) :
    ∀ (m : Nat) (u q : List Nat) (acc : List D) (e5 : Option NV) (fuel : Nat), u.length ≤ m → m < fuel → T = q ++ u → u.count 40 ≤ c → acc.length + u.length < line →
    ∃ (found : List D) (j : Int) (acc' : List D), whileGo (fun env h' => evalE (gAt p n (fun _ => .bad) h.length) ldCond env h') (fun env h' => evalSs (gAt p n (fun _ => .bad) h.length) t.ldBody env h') fuel [some (.v (.d (.str T))), e1, e2, some (.v (.ref h.length)), some (.v (.d (.int q.length))), e5] (h ++ [.lst acc]) =
      .ok (.ret (.d (.tup [.lst found, .int j]))) (h ++ [.lst acc']) ∧
      ((∃ xs rest, LdS u xs rest ∧ found = [.tup (acc ++ xs)] ∧ j = ((q.length + (txtj xs).length + 1 : Nat) : Int)) ∨ (found = [] ∧ ∀ xs rest, ¬LdS u xs rest)) := by
  intro m
  induction m with
  | zero =>
    intro u q acc e5 fuel hm hfu hTq hc ha
    have : u = [] := List.length_eq_zero_iff.mp (by omega)
    subst this
    obtain ⟨fuel, rfl⟩ : ∃ f, fuel = f + 1 := ⟨fuel - 1, by omega⟩
    obtain ⟨found, j, e, o⟩ := IH q [] hTq hc (h ++ [.lst acc]) (hf.app rfl)
    have no : ∀ x rest, ¬RD [] x rest := by
      intro x rest r
      have := txt_pos r.pl
      have e := congrArg List.length r.eq
      rw [List.length_append, List.length_nil] at e
      omega
    have hfo : found = [] := by
      rcases o with ⟨x, rest, r, _⟩ | ⟨o, _⟩
      · exact absurd r (no x rest)
      · exact o
    subst hfo
    have l0 : decide (0 ≤ line) = true := by decide
    have l2 : decide (2 ≤ line) = true := by decide
    refine ⟨[], j, acc, ?_, .inr ⟨rfl, fun xs rest l => ?_⟩⟩
    · rw [whileGo_succ]
      simp [ldCond, LxI.ldBody, LxI.d_law_read, slotOf, e, setEnvs, setEnv, eqD_nilL, nilB, fits, l0, l2]
    · have := congrArg List.length l.eq
      simp at this
  | succ m ih =>
    intro u q acc e5 fuel hm hfu hTq hc ha
    obtain ⟨fuel, rfl⟩ : ∃ f, fuel = f + 1 := ⟨fuel - 1, by omega⟩
    obtain ⟨found, j, e, o⟩ := IH q u hTq hc (h ++ [.lst acc]) (hf.app rfl)
    have l0 : decide (0 ≤ line) = true := by decide
    have l1 : decide (1 ≤ line) = true := by decide
    have l2 : decide (2 ≤ line) = true := by decide
    rw [whileGo_succ]
    rcases o with ⟨x, rest, r, hfo, hj⟩ | ⟨hfo, no⟩
    · subst hfo hj
      have hpos := txt_pos r.pl
      have hlen : u.length = (txt x).length + rest.length := by rw [r.eq, List.length_append]
      have hTr : T = (q ++ txt x) ++ rest := by rw [hTq, r.eq, List.append_assoc]
      have ql : (q ++ txt x).length = q.length + (txt x).length := List.length_append
      have sl : sliceD (.str T) (some ((q.length + (txt x).length : Nat) : Int)) (some (((q.length + (txt x).length : Nat) : Int) + 1)) = some (.str (rest.take 1)) := by
        rw [hTr]
        exact slice_at (q ++ txt x) rest 1 _ _ (by rw [ql]) (by rw [ql]; omega)
      simp only [Int.natCast_add] at sl e
      by_cases h32 : rest.take 1 = [32]
      · obtain ⟨v, hv⟩ : ∃ v, rest = 32 :: v := by
          cases rest with
          | nil => simp at h32
          | cons a v => simp at h32; exact ⟨v, by rw [h32]⟩
        subst hv
        have at_ : strAt T (q.length + (txt x).length : Nat) = some (.str [32]) := by rw [hTr, ← ql]; exact sign_at _ _ _
        rw [Int.natCast_add] at at_
        have hTv : T = (q ++ txt x ++ [32]) ++ v := by rw [hTr]; simp
        have cv : v.count 40 ≤ c := by
          have : u.count 40 = (txt x).count 40 + (32 :: v).count 40 := by rw [r.eq, List.count_append]
          have : (32 :: v).count 40 = v.count 40 := by simp
          omega
        simp only [List.length_cons] at hlen
        obtain ⟨fo, j', acc', q1, q2⟩ := ih v (q ++ txt x ++ [32]) (acc ++ [x]) (some (.v (.d (.lst [x])))) fuel (by omega) (by omega) hTv cv (by simp; omega)
        have Q : ((q ++ txt x ++ [32]).length : Int) = (q.length : Int) + (txt x).length + 1 := by simp; omega
        rw [Q] at q1
        have ac : (h ++ [Cell.lst acc])[h.length]? = some (.lst acc) := by simp
        refine ⟨fo, j', acc', ?_, ?_⟩
        · rw [← q1]
          simp [ldCond, LxI.ldBody, LxI.d_law_read, slotOf, e, setEnvs, setEnv, eqD_nilL, nilB, fits, l0, l2, sl, in_two, seqAt, spot, mtK_app ac, app_run ac (show acc.length < line by omega), at_, eqD_str]
        · rcases q2 with ⟨xs, rest', l, k1, k2⟩ | ⟨k1, k2⟩
          · refine .inl ⟨x :: xs, rest', ⟨by simp, by rw [allPlains, r.pl, l.pl]; rfl, ?_⟩, by rw [k1]; simp, ?_⟩
            · have := l.ne
              cases xs with
              | nil => exact absurd rfl this
              | cons y ys => rw [r.eq, l.eq]; simp [txtj, txtr]
            · have := l.ne
              rw [k2]
              cases xs with
              | nil => exact absurd rfl this
              | cons y ys => simp [txtj, txtr]; omega
          · refine .inr ⟨k1, fun xs rest' l => ?_⟩
            cases xs with
            | nil => exact l.ne rfl
            | cons y ys =>
              have lp := l.pl
              rw [allPlains, Bool.and_eq_true] at lp
              have le := l.eq
              rw [txtj, List.append_assoc] at le
              obtain ⟨a1, a2⟩ := r.uniq (⟨lp.1, le, fun _ => ends_txtr _ _⟩ : RD u y (txtr ys ++ 41 :: rest'))
              cases ys with
              | nil => simp [txtr] at a2
              | cons z zs =>
                rw [txtr] at a2
                simp only [List.cons_append, List.append_assoc, List.cons.injEq, true_and] at a2
                exact k2 (z :: zs) rest' ⟨by simp, lp.2, by rw [a2, txtj]; simp⟩
      · by_cases h41 : rest.take 1 = [41]
        · obtain ⟨v, hv⟩ : ∃ v, rest = 41 :: v := by
            cases rest with
            | nil => simp at h41
            | cons a v => simp at h41; exact ⟨v, by rw [h41]⟩
          subst hv
          have at_ : strAt T (q.length + (txt x).length : Nat) = some (.str [41]) := by rw [hTr, ← ql]; exact sign_at _ _ _
          rw [Int.natCast_add] at at_
          have ac : (h ++ [Cell.lst acc])[h.length]? = some (.lst acc) := by simp
          have ac2 : (h ++ [Cell.lst (acc ++ [x])])[h.length]? = some (.lst (acc ++ [x])) := by simp
          refine ⟨[.tup (acc ++ [x])], _, acc ++ [x], ?_, .inl ⟨[x], v, ⟨by simp, by rw [allPlains, r.pl]; rfl, by rw [r.eq]; simp [txtj, txtr]⟩, rfl, rfl⟩⟩
          simp [ldCond, LxI.ldBody, LxI.d_law_read, slotOf, e, setEnvs, setEnv, eqD_nilL, nilB, fits, l0, l1, l2, sl, in_two, seqAt, spot, mtK_app ac, app_run ac (show acc.length < line by omega), at_, eqD_str, tuple_ref ac2, txtj, txtr]
        · refine ⟨[], ((q.length + (txt x).length : Nat) : Int), acc, ?_, .inr ⟨rfl, fun xs rest' l => ?_⟩⟩
          · simp [ldCond, LxI.ldBody, LxI.d_law_read, slotOf, e, setEnvs, setEnv, eqD_nilL, nilB, fits, l0, l2, sl, in_two, h32, h41]
          · cases xs with
            | nil => exact l.ne rfl
            | cons y ys =>
              have lp := l.pl
              rw [allPlains, Bool.and_eq_true] at lp
              have le := l.eq
              rw [txtj, List.append_assoc] at le
              obtain ⟨a1, a2⟩ := r.uniq (⟨lp.1, le, fun _ => ends_txtr _ _⟩ : RD u y (txtr ys ++ 41 :: rest'))
              rw [a2] at h32 h41
              cases ys with
              | nil => simp [txtr] at h41
              | cons z zs => simp [txtr] at h32
    · subst hfo
      refine ⟨[], j, acc, ?_, .inr ⟨rfl, fun xs rest l => ?_⟩⟩
      · simp [ldCond, LxI.ldBody, LxI.d_law_read, slotOf, e, setEnvs, setEnv, eqD_nilL, nilB, fits, l0, l2]
      · cases xs with
        | nil => exact l.ne rfl
        | cons y ys =>
          have lp := l.pl
          rw [allPlains, Bool.and_eq_true] at lp
          have le := l.eq
          rw [txtj, List.append_assoc] at le
          exact no y _ ⟨lp.1, le, fun _ => ends_txtr _ _⟩
end
end Ev
end
section
/-! EvLx4: law k85: the law's own reader, whole; its depth; what is due. -/
set_option autoImplicit false
set_option linter.all false
set_option maxRecDepth 100000
namespace Ev
theorem takeW_all (u : List Nat) : (u.takeWhile nm).all nm = true := by
  induction u with
  | nil => rfl
  | cons c r ih =>
    rw [List.takeWhile_cons]
    cases h : nm c
    · rfl
    · simp only [if_true, List.all_cons, h, ih, Bool.and_self]
theorem ends_dropW (u : List Nat) : ends (u.dropWhile nm) = true := by
  induction u with
  | nil => rfl
  | cons c r ih =>
    rw [List.dropWhile_cons]
    cases h : nm c
    · simp only [Bool.false_eq_true, if_false]
      unfold nm at h
      simpa [ends] using h
    · simpa using ih
theorem takeW_leaf {x : D} (h : isPlain x = true) {rest : List Nat} (he : ends rest = true) : (ptext x ++ rest).takeWhile nm = ptext x := by
  have hs := ptext_signs h
  generalize ptext x = w at hs
  induction w with
  | nil =>
    cases rest with
    | nil => rfl
    | cons c r =>
      have : mark c = true := he
      simp [nm, this]
  | cons c w ih =>
    have := hs c (by simp)
    rw [List.cons_append, List.takeWhile_cons]
    simp only [nm, this, Bool.not_false, if_true]
    rw [ih fun d hd => hs d (by simp [hd])]
section
variable {t : LxI} {p : Prog} {n : Nat} {h : Heap}
theorem read_leaf (A : t.At p) (T : List Nat) (hT : T.length < line) (hfu : T.length < p.fuel) (q u : List Nat) (hq : T = q ++ u) (h40 : u.take 1 ≠ [40]) : ReadAt t p (n + 2) T q.length u := by
  intro h hf
  rw [callN_run A.law_read rfl, read_body]
  have hl : T.length = q.length + u.length := by rw [hq, List.length_append]
  have sl1 : sliceD (.str T) (some (q.length : Int)) (some ((q.length : Int) + 1)) = some (.str (u.take 1)) := by rw [hq]; exact slice_at q u 1 _ _ rfl rfl
  have sc := scan_loop (h := h) (gAt p (n + 1) (fun _ => .bad) h.length) T (some (.v (.d (.int q.length)))) none none none u q p.fuel (by omega) hq
  have tl : (u.takeWhile nm).length ≤ u.length := by
    have := congrArg List.length (List.takeWhile_append_dropWhile (p := nm) (l := u))
    rw [List.length_append] at this
    omega
  have tk : u.take (u.takeWhile nm).length = u.takeWhile nm := by
    have e := List.takeWhile_append_dropWhile (p := nm) (l := u)
    have := congrArg (List.take (u.takeWhile nm).length) e
    rw [List.take_left] at this
    exact this.symm
  have sl2 : sliceD (.str T) (some (q.length : Int)) (some ((q.length + (u.takeWhile nm).length : Nat) : Int)) = some (.str (u.takeWhile nm)) := by
    rw [hq, slice_at q u (u.takeWhile nm).length _ _ rfl (by omega), tk]
  rw [Int.natCast_add] at sl2 sc
  have P := piece_run (n := n) (h := h) A (u.takeWhile nm) hf (by omega)
  have l2 : decide (2 ≤ line) = true := by decide
  have b40 : (u.take 1 == [40]) = false := by simpa using h40
  refine ⟨lp (u.takeWhile nm), ((q.length : Int) + (u.takeWhile nm).length), ?_, ?_⟩
  · simp only [startEnv, show t.d_law_read.ns = 6 from rfl, show t.d_law_read.ps = 2 from rfl, List.map_cons, List.map_nil, List.cons_append, List.nil_append, List.replicate, Nat.sub]
    simp only [Ss_cons, S_ite, E_cmp, E_sliB, E_slot, E_bin, E_lit, slotOf, List.getElem?_cons_zero, List.getElem?_cons_succ, opt_some, Res.bind_ok, look_d, b_add, okD_some, intD_int, sl1, c_ne, eqD_str, b40, Option.map_some, Bool.not_false, okB_some, test_d, truD_bl, if_true, S_asg, nxt_next, setEnv, List.set_cons_succ, List.set_cons_zero, S_while, gAt_fuel]
    rw [sc]
    simp [slotOf, sl2, P, fits, l2, hf]
  · cases hp : (plainOf (u.takeWhile nm)).1 with
    | true =>
      have hp2 : plainOf (u.takeWhile nm) = (true, (plainOf (u.takeWhile nm)).2) := by rw [← hp]
      obtain ⟨p1, p2⟩ := plainOf_sound hp2
      refine .inl ⟨(plainOf (u.takeWhile nm)).2, u.dropWhile nm, ⟨plain_all p1, ?_, fun _ => ends_dropW u⟩, ?_, ?_⟩
      · rw [txt_leaf (plain_tup p1), p2, List.takeWhile_append_dropWhile]
      · unfold lp; rw [hp]; rfl
      · rw [txt_leaf (plain_tup p1), p2, Int.natCast_add]
    | false =>
      refine .inr ⟨by unfold lp; rw [hp]; rfl, fun x rest r => ?_⟩
      cases ht : isTup x with
      | true =>
        obtain ⟨ys, rfl⟩ : ∃ ys, x = .tup ys := by cases x <;> first | (cases ht; done) | exact ⟨_, rfl⟩
        have e := r.eq
        rw [txt] at e
        rw [e] at h40
        simp at h40
      | false =>
        have px := leafPl r.pl ht
        have e := r.eq
        rw [txt_leaf ht] at e
        rw [e, takeW_leaf px (r.en ht), plainOf_ptext px] at hp
        cases hp
theorem read_run (A : t.At p) (T : List Nat) (hT : T.length + 2 < line) (hfu : T.length < p.fuel) : ∀ (c : Nat) (q u : List Nat), T = q ++ u → u.count 40 ≤ c → ReadAt t p (n + c + 2) T q.length u := by
  intro c
  induction c with
  | zero =>
    intro q u hq hc
    refine read_leaf A T (by omega) hfu q u hq ?_
    intro e
    cases u with
    | nil => simp at e
    | cons a r => simp at e; subst e; simp at hc
  | succ c ih =>
    intro q u hq hc
    by_cases h40 : u.take 1 = [40]
    · obtain ⟨r, rfl⟩ : ∃ r, u = 40 :: r := by
        cases u with
        | nil => simp at h40
        | cons a r => simp at h40; exact ⟨r, by rw [h40]⟩
      intro h hf
      have hl : T.length = q.length + r.length + 1 := by rw [hq, List.length_append, List.length_cons]; omega
      have sl1 : sliceD (.str T) (some (q.length : Int)) (some ((q.length : Int) + 1)) = some (.str [40]) := by rw [hq]; exact slice_at q (40 :: r) 1 _ _ rfl rfl
      have hq2 : T = (q ++ [40]) ++ r := by rw [hq]; simp
      have ql : ((q ++ [40]).length : Int) = (q.length : Int) + 1 := by simp
      have sl2 : sliceD (.str T) (some ((q.length : Int) + 1)) (some ((q.length : Int) + 1 + 1)) = some (.str (r.take 1)) := by rw [hq2]; exact slice_at (q ++ [40]) r 1 _ _ ql.symm (by rw [ql]; rfl)
      have l0 : decide (0 ≤ line) = true := by decide
      have l1 : decide (1 ≤ line) = true := by decide
      have l2 : decide (2 ≤ line) = true := by decide
      rw [callN_run A.law_read rfl, read_body]
      simp only [startEnv, show t.d_law_read.ns = 6 from rfl, show t.d_law_read.ps = 2 from rfl, List.map_cons, List.map_nil, List.cons_append, List.nil_append, List.replicate, Nat.sub]
      by_cases h41 : r.take 1 = [41]
      · obtain ⟨v, rfl⟩ : ∃ v, r = 41 :: v := by
          cases r with
          | nil => simp at h41
          | cons a r => simp at h41; exact ⟨r, by rw [h41]⟩
        refine ⟨[.tup []], (q.length : Int) + 1 + 1, ?_, .inl ⟨.tup [], v, ⟨rfl, rfl, fun z => by cases z⟩, rfl, ?_⟩⟩
        · simp [slotOf, setEnv, sl1, sl2, eqD_str, fits, l0, l1, l2, leave_ext hf]
        · simp [txt, txtj]; omega
      · have b41 : (r.take 1 == [41]) = false := by simpa using h41
        obtain ⟨found, j, acc', L, o⟩ := ld_loop (n := n + c + 2) (h := h) A c T (by omega) hf (fun q u hq hc => ih q u hq hc) (some (.v (.d (.int q.length)))) none T.length r (q ++ [40]) [] none p.fuel (by omega) hfu hq2 (by simp at hc; omega) (by simp; omega)
        rw [ql] at L
        refine ⟨found, j, ?_, ?_⟩
        · simp only [Ss_cons, S_ite, E_cmp, E_sliB, E_slot, E_bin, E_lit, slotOf, List.getElem?_cons_zero, List.getElem?_cons_succ, opt_some, Res.bind_ok, look_d, b_add, okD_some, intD_int, sl1, sl2, c_ne, c_eq, eqD_str, b41, Option.map_some, beq_self_eq_true, Bool.not_true, okB_some, test_d, truD_bl, Bool.false_eq_true, if_false, Ss_nil, nxt_next, S_par, E_lst, Es_nil, keeps_nil, fits, l0, List.length_nil, need_true, if_true, setEnv, List.set_cons_succ, List.set_cons_zero, S_while, gAt_fuel]
          rw [show n + (c + 1) + 1 = n + c + 2 from by omega, L]
          simp [leave_ext hf]
        · rcases o with ⟨xs, rest, l, k1, k2⟩ | ⟨k1, k2⟩
          · refine .inl ⟨.tup xs, rest, ⟨by rw [allPlain]; exact l.pl, by rw [l.eq, txt]; simp, fun z => by cases z⟩, by rw [k1]; rfl, ?_⟩
            rw [k2, txt]
            simp; omega
          · refine .inr ⟨k1, fun x rest d => ?_⟩
            have e := d.eq
            obtain ⟨_, ht⟩ := head_mark d.pl e.symm rfl
            obtain ⟨ys, rfl⟩ : ∃ ys, x = .tup ys := by cases x <;> first | (cases ht; done) | exact ⟨_, rfl⟩
            rw [txt] at e
            simp only [List.cons_append, List.append_assoc, List.cons.injEq, true_and, List.nil_append] at e
            have dp := d.pl
            rw [allPlain] at dp
            cases ys with
            | nil =>
              rw [e] at h41
              simp [txtj] at h41
            | cons y ys => exact k2 (y :: ys) rest ⟨by simp, dp, e⟩
    · have := read_leaf (n := n + c + 1) A T (by omega) hfu q u hq h40
      rw [show n + (c + 1) + 2 = n + c + 1 + 2 from by omega]
      exact this
end
end Ev
end
section
/-! EvLx5: law k85: depth, due, told. -/
set_option autoImplicit false
set_option linter.all false
set_option maxRecDepth 100000
namespace Ev
mutual
theorem nodes_txt : ∀ {x : D}, allPlain x = true → nodes x ≤ (txt x).length
  | .tup xs, h => by
    rw [allPlain] at h
    have := nodes_txtj h
    rw [nodes, txt, List.length_cons, List.length_append, List.length_singleton]
    omega
  | .non, _ => by simp [nodes, txt]
  | .bl b, h => by have := txt_pos h; rw [nodes]; omega; all_goals simp
  | .int i, h => by have := txt_pos h; rw [nodes]; omega; all_goals simp
  | .str s, h => by have := txt_pos h; rw [nodes]; omega; all_goals simp
  | .lst _, h => by simp [allPlain] at h
  | .dct _ _, h => by simp [allPlain] at h
theorem nodes_txtj : ∀ {xs : List D}, allPlains xs = true → nodesL xs ≤ (txtj xs).length
  | [], _ => by simp [nodesL]
  | x :: xs, h => by
    rw [allPlains, Bool.and_eq_true] at h
    have := nodes_txt h.1
    have := nodes_txtr h.2
    rw [nodesL, txtj, List.length_append]; omega
theorem nodes_txtr : ∀ {xs : List D}, allPlains xs = true → nodesL xs ≤ (txtr xs).length
  | [], _ => by simp [nodesL]
  | x :: xs, h => by
    rw [allPlains, Bool.and_eq_true] at h
    have := nodes_txt h.1
    have := nodes_txtr h.2
    rw [nodesL, txtr, List.length_cons, List.length_append]; omega
end
mutual
theorem lvl_count : ∀ (x : D), lvl x ≤ (txt x).count 40
  | .tup xs => by
    have := lvls_countj xs
    rw [lvl, txt]
    simp [List.count_cons, List.count_append]
    omega
  | .non => by simp [lvl]
  | .bl b => by simp [lvl]
  | .int i => by simp [lvl]
  | .str s => by simp [lvl]
  | .lst _ => by simp [lvl]
  | .dct _ _ => by simp [lvl]
theorem lvls_countj : ∀ (xs : List D), lvls xs ≤ (txtj xs).count 40 + 1
  | [] => by simp [lvls]
  | x :: xs => by
    have := lvl_count x
    have := lvls_countr xs
    rw [lvls, txtj, List.count_append]; omega
theorem lvls_countr : ∀ (xs : List D), lvls xs ≤ (txtr xs).count 40 + 1
  | [] => by simp [lvls]
  | x :: xs => by
    have := lvl_count x
    have := lvls_countr xs
    rw [lvls, txtr]
    simp [List.count_cons, List.count_append]
    omega
end
theorem intsD_map (xs : List D) (f : D → Int) : intsD (xs.map fun x => .int (f x)) = some (xs.map f) := by
  induction xs with
  | nil => rfl
  | cons x xs ih => rw [List.map_cons, intsD, ih]; rfl
theorem fold_max : ∀ (xs : List D) (a : Nat), (xs.map fun x => ((lvl x : Nat) : Int)).foldl (fun a b => if b > a then b else a) (a : Int) = ((max a (lvls xs - 1) : Nat) : Int)
  | [], a => by simp [lvls]
  | x :: xs, a => by
    rw [List.map_cons, List.foldl_cons, lvls]
    by_cases h : lvl x > a
    · have : ((lvl x : Nat) : Int) > (a : Int) := by omega
      rw [if_pos this, fold_max xs (lvl x)]
      congr 1
      omega
    · have : ¬ ((lvl x : Nat) : Int) > (a : Int) := by omega
      rw [if_neg this, fold_max xs a]
      congr 1
      omega
theorem maxL_run {h : Heap} (x : D) (xs : List D) : biGo .maxL [.d (.lst ((x :: xs).map fun x => .int (lvl x : Nat)))] h = .ok (.d (.int ((lvls (x :: xs) - 1 : Nat) : Int))) h := by
  have e : biGo .maxL [.d (.lst ((x :: xs).map fun x => .int (lvl x : Nat)))] h = okD (fnD .maxL [.lst ((x :: xs).map fun x => .int (lvl x : Nat))]) h := rfl
  rw [e, fnD, intsD_map]
  simp only [List.map_cons]
  have := fold_max xs (lvl x)
  rw [this, lvls]
  have e : max (lvl x) (lvls xs - 1) = max (lvl x + 1) (lvls xs) - 1 := by omega
  rw [e]
  rfl
section
variable {t : LxI} {p : Prog} {n : Nat} {h : Heap}
theorem xtold_ok (A : t.At p) (hf : Fine h) (th : Heap → Res PV) (v : D) (e : th h = .ok (.d v) h) : lamN p (n + 1) t.f_law_told th h = .ok (.d (.lst [v])) h := by
  rw [lamN_run A.law_told rfl]
  have l2 : decide (2 ≤ line) = true := by decide
  have l1 : decide (1 ≤ line) = true := by decide
  simp [LxI.d_law_told, startEnv, slotOf, setEnv, fits, l1, l2, e, hf]
theorem xtold_text (A : t.At p) (hf : Fine h) (th : Heap → Res PV) (v : D) (e : th h = .exc t.th.x_BadText [v] h) : lamN p (n + 1) t.f_law_told th h = .ok (.d (.tup [.str [116, 101, 120, 116], v])) h := by
  rw [lamN_run A.law_told rfl]
  have l2 : decide (2 ≤ line) = true := by decide
  have l1 : decide (1 ≤ line) = true := by decide
  simp [LxI.d_law_told, startEnv, slotOf, setEnv, fits, l1, l2, e, hf, evalH, noExn, excOf]
theorem depth_run (A : t.At p) (hf : Fine h) : ∀ (m : Nat) (x : D), allPlain x = true → lvl x ≤ m → nodes x ≤ 10000 → callN p (n + m + 1) t.f_law_depth [.d x] h = .ok (.d (.int (lvl x : Nat))) h := by
  intro m
  induction m with
  | zero =>
    intro x hx hl hn
    rw [callN_run A.law_depth rfl]
    have l0 : decide (0 ≤ line) = true := by decide
    cases ht : isTup x with
    | true =>
      obtain ⟨ys, rfl⟩ : ∃ ys, x = .tup ys := by cases x <;> first | (cases ht; done) | exact ⟨_, rfl⟩
      rw [lvl] at hl
      have : ys = [] := lvls_nil.mp (by omega)
      subst this
      simp [LxI.d_law_depth, startEnv, slotOf, fits, l0, eqD_tup_nil (xs := []) rfl, nilB, hf, lvl, lvls]
    | false =>
      have : lvl x = 0 := by omega
      simp [LxI.d_law_depth, startEnv, slotOf, isa_tuple, ht, hf, this]
  | succ m ih =>
    intro x hx hl hn
    rw [callN_run A.law_depth rfl]
    have l0 : decide (0 ≤ line) = true := by decide
    cases ht : isTup x with
    | false =>
      have : lvl x = 0 := by cases x <;> first | (cases ht; done) | simp [lvl]
      simp [LxI.d_law_depth, startEnv, slotOf, isa_tuple, ht, hf, this]
    | true =>
      obtain ⟨ys, rfl⟩ : ∃ ys, x = .tup ys := by cases x <;> first | (cases ht; done) | exact ⟨_, rfl⟩
      have hlay := (plain_depth hx).2.2.2
      have E := eqD_tup_nil hlay
      rw [allPlain] at hx
      rw [lvl] at hl
      rw [nodes] at hn
      have hlen := length_nodes ys
      have fl : ys.length ≤ line := by unfold line; omega
      cases ys with
      | nil => simp [LxI.d_law_depth, startEnv, slotOf, fits, l0, E, nilB, hf, lvl, lvls]
      | cons y ys =>
        have c : ∀ f : D → Heap → Res (Option D), (∀ x ∈ y :: ys, f x h = .ok (some (.int (lvl x : Nat))) h) → compGo f (y :: ys) h = .ok ((y :: ys).map fun x => .int (lvl x : Nat)) h := fun f e => compGo_map e
        have M := maxL_run (h := h) y ys
        have pos : 1 ≤ lvls (y :: ys) := by rw [lvls]; omega
        simp [LxI.d_law_depth, startEnv, slotOf, fits, l0, E, nilB]
        rw [c]
        · simp only [List.length_map, fl, decide_true, Res.nox_ok, Res.bind_ok, need_true]
          rw [M]
          simp [hf, lvl]
          omega
        · intro x hxm
          have q := lvl_mem hxm
          have := ih x (plain_mem hx hxm) (by omega) (by omega)
          simp [setTg, setEnv, wipeE, show n + (m + 1) = n + m + 1 from rfl, this]
/-- what the law holds to be due -/
def dueT (s : List Nat) : D := match readT s with
  | some x => .lst [x]
  | none => .tup [.str [116, 101, 120, 116], .int 1]
theorem due_run (A : t.At p) (hf : Fine h) (c : Nat) (s : List Nat) (hs : s.length ≤ 4000) (hfu : 4000 < p.fuel) (hc : s.count 40 ≤ c) : callN p (n + c + 3) t.f_law_due [.d (.str s)] h = .ok (.d (dueT s)) h := by
  rw [callN_run A.law_due rfl]
  have l0 : decide (0 ≤ line) = true := by decide
  have l2 : decide (2 ≤ line) = true := by decide
  obtain ⟨found, j, e, o⟩ := read_run (n := n) A s (by unfold line; omega) (by omega) c [] s rfl hc h hf
  simp only [List.length_nil] at e
  have e : callN p (n + c + 2) t.f_law_read [.d (.str s), .d (.int 0)] h = _ := e
  rcases o with ⟨x, rest, r, rfl, rfl⟩ | ⟨rfl, no⟩
  · have hn := nodes_txt r.pl
    have hlen : s.length = (txt x).length + rest.length := by rw [r.eq, List.length_append]
    have hlv := lvl_count x
    have hcx : (txt x).count 40 ≤ s.count 40 := by rw [r.eq, List.count_append]; omega
    have D1 : callN p (n + c + 2) t.f_law_depth [.d x] h = .ok (.d (.int (lvl x : Nat))) h := depth_run (n := n + 1 + (c - lvl x)) A hf (lvl x) x r.pl (Nat.le_refl _) (by omega) |> fun q => by
      rw [show n + 1 + (c - lvl x) + lvl x + 1 = n + c + 2 by omega] at q
      exact q
    by_cases hr : rest = []
    · subst hr
      have hlz : (txt x).length = s.length := by simp at hlen; omega
      have se : s = txt x := by rw [r.eq]; simp
      by_cases hl : lvl x ≤ 20
      · have it := isThing_of r.pl hl (by omega)
        have R : readT s = some x := readT_iff.mpr ⟨it, se.symm⟩
        have hl' : ¬ ((20 : Int) < (lvl x : Nat)) := by omega
        simp [LxI.d_law_due, startEnv, slotOf, setEnvs, setEnv, e, fits, l0, eqD_nilL, nilB, hlz, eqD_int, seqAt, spot, D1, hl', dueT, R, hf]
      · have R : readT s = none := by
          cases R : readT s with
          | none => rfl
          | some y =>
            obtain ⟨y1, y2⟩ := readT_iff.mp R
            have := (r.uniq (⟨(isThing_plain y1).1, by rw [y2]; simp, fun _ => rfl⟩ : RD s y [])).1
            subst this
            exact absurd (isThing_plain y1).2.2 hl
        have hl' : ((20 : Int) < (lvl x : Nat)) := by omega
        simp [LxI.d_law_due, startEnv, slotOf, setEnvs, setEnv, e, fits, l0, l2, eqD_nilL, nilB, hlz, eqD_int, seqAt, spot, D1, hl', dueT, R, hf]
    · have R : readT s = none := by
        cases R : readT s with
        | none => rfl
        | some y =>
          obtain ⟨y1, y2⟩ := readT_iff.mp R
          exact absurd (r.uniq (⟨(isThing_plain y1).1, by rw [y2]; simp, fun _ => rfl⟩ : RD s y [])).2 hr
      have hne : ¬ ((txt x).length : Int) = s.length := by
        have : 0 < rest.length := List.length_pos_iff.mpr hr
        omega
      simp [LxI.d_law_due, startEnv, slotOf, setEnvs, setEnv, e, fits, l0, l2, eqD_nilL, nilB, eqD_int, hne, dueT, R, hf]
  · have R : readT s = none := by
      cases R : readT s with
      | none => rfl
      | some y =>
        obtain ⟨y1, y2⟩ := readT_iff.mp R
        exact absurd (⟨(isThing_plain y1).1, by rw [y2]; simp, fun _ => rfl⟩ : RD s y []) (no y [])
    simp [LxI.d_law_due, startEnv, slotOf, setEnvs, setEnv, e, fits, l0, l2, eqD_nilL, nilB, dueT, R, hf]
end
end Ev
end
section
/-! EvLx6: law k85: is right; what is drawn and bent. -/
set_option autoImplicit false
set_option linter.all false
set_option maxRecDepth 100000
namespace Ev
theorem repr_pair {x : D} (h : isThing x = true) : ∃ z, reprD (.lst [.lst [x], .lst [x]]) = some z := by
  obtain ⟨h1, h2, h3⟩ := isThing_plain h
  obtain ⟨a1, a2, a3, a4⟩ := plain_depth h1
  have l1 := rp_len h1
  unfold reprD
  rw [shown, showns, showns, showns, shown, showns, showns, shown_plain h1]
  simp only [D.hasD, D.hasDs, a2, Bool.or_self, Bool.not_false, Bool.true_or, Bool.and_true]
  refine ⟨_, if_pos ?_⟩
  simp [D.depth, D.depths, sepT, joinT]
  unfold line
  omega
section
variable {t : LxI} {p : Prog} {n : Nat} {h : Heap}
theorem xright_str (A : t.At p) (hf : Fine h) (c : Nat) (s : List Nat) (hs : s.length ≤ 4000) (hfu : 16000 ≤ p.fuel) (hc : s.count 40 ≤ c) : callN p (n + c + 7) t.f_law_is_right [.d (.str s)] h = .ok (.d (.bl true)) h := by
  rw [callN_run A.law_is_right rfl]
  have e1 : callN p (n + c + 6) t.f_law_due [.d (.str s)] h = .ok (.d (dueT s)) h := by
    have := due_run (n := n + 3) A hf c s hs (by omega) hc
    rw [show n + 3 + c + 3 = n + c + 6 by omega] at this
    exact this
  have e2 : callN p (n + c + 6) t.th.f_read_thing [.d (.str s)] h = resT t.th h (readT s) := read_thing_run (n := n + c + 2) A.th s hf (by unfold line; omega)
  have l2 : decide (2 ≤ line) = true := by decide
  have k : evalE (gAt p (n + c + 6) (fun _ => .bad) h.length) (.lam t.f_law_told (.call t.th.f_read_thing [(.slot 0)])) [some (.v (.d (.str s))), some (.v (.d (dueT s)))] h = .ok (.d (dueT s)) h := by
    rw [E_lam]
    unfold dueT
    cases R : readT s with
    | some x =>
      rw [R] at e2
      exact xtold_ok (n := n + c + 5) A hf _ _ (by simp [dataE, dataN, slotOf, e2, resT])
    | none =>
      rw [R] at e2
      exact xtold_text (n := n + c + 5) A hf _ _ (by simp [dataE, dataN, slotOf, e2, resT])
  obtain ⟨z, hz⟩ : ∃ z, reprD (.lst [dueT s, dueT s]) = some z := by
    unfold dueT
    cases R : readT s with
    | some x => exact repr_pair (readT_iff.mp R).1
    | none => exact ⟨_, rfl⟩
  cases R : readT s with
  | some x =>
    obtain ⟨y1, y2⟩ := readT_iff.mp R
    have e3 : callN p (n + c + 6) t.th.f_thing_text [.d x] h = _ := thing_text_run (n := n + c + 2) A.th x hf y1 hfu
    have hd : dueT s = .lst [x] := by unfold dueT; rw [R]
    rw [hd] at e1 k hz
    simp [LxI.d_law_is_right, startEnv, slotOf, setEnv, e1, k, -E_lam, fits, l2, hz, eqD_str, seqAt, spot, e3, y2, hf]
  | none =>
    have hd : dueT s = .tup [.str [116, 101, 120, 116], .int 1] := by unfold dueT; rw [R]
    rw [hd] at e1 k hz
    simp [LxI.d_law_is_right, startEnv, slotOf, setEnv, e1, k, -E_lam, fits, l2, hz, eqD_str, hf]
theorem xright_odd (A : t.At p) (hf : Fine h) (x : D) (hx : x.isa .str = false) : callN p (n + 7) t.f_law_is_right [.d x] h = .ok (.d (.bl true)) h := by
  rw [callN_run A.law_is_right rfl]
  have l2 : decide (2 ≤ line) = true := by decide
  have e1 : callN p (n + 6) t.f_law_due [.d x] h = .ok (.d (.tup [.str [116, 101, 120, 116], .int 0])) h := by
    rw [callN_run A.law_due rfl]
    simp [LxI.d_law_due, startEnv, slotOf, hx, fits, l2, hf]
  have e2 : callN p (n + 6) t.th.f_read_thing [.d x] h = _ := read_thing_odd (n := n + 5) A.th x hx hf
  have k : evalE (gAt p (n + 6) (fun _ => .bad) h.length) (.lam t.f_law_told (.call t.th.f_read_thing [(.slot 0)])) [some (.v (.d x)), some (.v (.d (.tup [.str [116, 101, 120, 116], .int 0])))] h = .ok (.d (.tup [.str [116, 101, 120, 116], .int 0])) h := by
    rw [E_lam]
    exact xtold_text (n := n + 5) A hf _ _ (by simp [dataE, dataN, slotOf, e2])
  obtain ⟨z, hz⟩ : ∃ z, reprD (.lst [.tup [.str [116, 101, 120, 116], .int 0], .tup [.str [116, 101, 120, 116], .int 0]]) = some z := ⟨_, rfl⟩
  simp [LxI.d_law_is_right, startEnv, slotOf, setEnv, e1, k, -E_lam, fits, l2, hz, eqD_str, hf]
end
/-! ### what is drawn -/
def lb : Nat → Nat
  | 0 => 31
  | d + 1 => 4 + 3 * lb d
def tb : Nat → Nat
  | 0 => 0
  | d + 1 => 1 + 3 * tb d
structure SmallX (d : Nat) (x : D) : Prop where
  sm : Small d x
  ln : (txt x).length ≤ lb d
  ct : (txt x).count 40 ≤ tb d
theorem lb_le (d : Nat) : 31 ≤ lb d := by induction d with | zero => simp [lb] | succ d ih => simp [lb]; omega
theorem smallx_leaf {d : Nat} {x : D} (h : isPlain x = true) (hl : (txt x).length ≤ 31) : SmallX d x := by
  refine ⟨small_leaf h, Nat.le_trans hl (lb_le d), ?_⟩
  rw [txt_leaf (plain_tup h), List.count_eq_zero.mpr]
  · omega
  · intro hm
    have := ptext_signs h 40 hm
    cases this
theorem smallx_tup {d : Nat} {ys : List D} (h : ∀ y ∈ ys, SmallX d y) (hl : ys.length ≤ 3) : SmallX (d + 1) (.tup ys) := by
  refine ⟨small_tup (fun y hy => (h y hy).sm) hl, ?_, ?_⟩
  · have : ∀ zs : List D, (∀ y ∈ zs, SmallX d y) → (txtr zs).length ≤ zs.length * (lb d + 1) := by
      intro zs
      induction zs with
      | nil => intro _; simp [txtr]
      | cons z zs ih =>
        intro hz
        have := ih fun y hy => hz y (by simp [hy])
        have := (hz z (by simp)).ln
        rw [txtr, List.length_cons, List.length_append, List.length_cons, Nat.add_mul]; omega
    have k : (txtj ys).length ≤ 3 * lb d + 2 := by
      cases ys with
      | nil => simp [txtj]
      | cons z zs =>
        have a := this zs fun y hy => h y (by simp [hy])
        have b := (h z (by simp)).ln
        have c : zs.length * (lb d + 1) ≤ 2 * (lb d + 1) := Nat.mul_le_mul_right _ (by simp at hl; omega)
        rw [txtj, List.length_append]; omega
    rw [txt, lb, List.length_cons, List.length_append, List.length_singleton]
    omega
  · have : ∀ zs : List D, (∀ y ∈ zs, SmallX d y) → (txtr zs).count 40 ≤ zs.length * tb d := by
      intro zs
      induction zs with
      | nil => intro _; simp [txtr]
      | cons z zs ih =>
        intro hz
        have := ih fun y hy => hz y (by simp [hy])
        have := (hz z (by simp)).ct
        rw [txtr, List.length_cons, Nat.add_mul]
        simp [List.count_cons, List.count_append]; omega
    have k : (txtj ys).count 40 ≤ 3 * tb d := by
      cases ys with
      | nil => simp [txtj]
      | cons z zs =>
        have a := this zs fun y hy => h y (by simp [hy])
        have b := (h z (by simp)).ct
        have c : zs.length * tb d ≤ 2 * tb d := Nat.mul_le_mul_right _ (by simp at hl; omega)
        rw [txtj, List.count_append]; omega
    rw [txt, tb]
    simp [List.count_cons, List.count_append]
    omega
section
variable {t : LxI} {p : Prog} {n : Nat}
def xbud : Nat → Nat
  | 0 => 2
  | d + 1 => 3 + 3 * xbud d
theorem xplain (A : t.At p) {m k : Nat} {H : Heap} (S : St m (k + 2) H) : ∃ r1 H1 x H2, callN p (n + 2) t.dr.f_law_draw [.ref m, .d (.int 1000)] H = .ok (.d (.int r1)) H1 ∧ H1.length = H.length ∧
    callN p (n + 2) t.dr.f_law_of [.ref m, .d (.lst [.int 0, .int 1, .int (-1), .int 10, .int (-30), .int (r1 - 500), .int 1000000000000000000000000000000, .non, .bl true, .bl false, .str [97], .str [122], .str [107, 101, 112, 116], .str [97, 98, 99, 100, 101, 102, 103, 104, 105, 106, 107, 108]])] H1 = .ok (.d x) H2 ∧
    (∀ d, SmallX d x) ∧ St m k H2 ∧ H2.length = H.length := by
  obtain ⟨r1, H1, e1, g1, S1, l1⟩ := draw_run (n := n + 1) (k := k + 1) A.dr S (many := 1000) (by decide) (by decide +kernel)
  obtain ⟨x, H4, e4, hx, S4, l4⟩ := of_run (n := n) (k := k) A.dr S1 (xs := [.int 0, .int 1, .int (-1), .int 10, .int (-30), .int (r1 - 500), .int 1000000000000000000000000000000, .non, .bl true, .bl false, .str [97], .str [122], .str [107, 101, 112, 116], .str [97, 98, 99, 100, 101, 102, 103, 104, 105, 106, 107, 108]]) (by simp) (by simp)
  refine ⟨r1, H1, x, H4, e1, l1, e4, fun d => ?_, S4, by omega⟩
  have it : ∀ i : Int, i.natAbs < 10 ^ 30 → SmallX d (.int i) := by
    intro i hi
    refine smallx_leaf (plain_big i (by omega)) ?_
    have : (digits i.natAbs).length ≤ 30 := (digits_len _ _ (by omega)).mpr hi
    rw [txt]
    unfold intText
    split <;> simp <;> omega
  simp only [List.mem_cons, List.not_mem_nil, or_false] at hx
  rcases hx with rfl | rfl | rfl | rfl | rfl | rfl | rfl | rfl | rfl | rfl | rfl | rfl | rfl | rfl <;> first
    | exact it _ (by omega)
    | exact smallx_leaf (plain_big _ (by decide)) (by decide)
    | exact smallx_leaf (by decide) (by decide)
end
end Ev
end
section
/-! EvLx7: law k85: a drawn thing, bent texts. -/
set_option autoImplicit false
set_option linter.all false
set_option maxRecDepth 100000
namespace Ev
section
variable {t : LxI} {p : Prog} {n : Nat}
theorem xthing_run (A : t.At p) : ∀ (d k : Nat) (H : Heap) (m : Nat), St m (k + xbud d) H → ∃ x H', callN p (n + d + 3) t.f_law_thing [.ref m, .d (.int d)] H = .ok (.d x) H' ∧ SmallX d x ∧ St m k H' ∧ H'.length = H.length
  | 0, k, H, m, S => by
    obtain ⟨r1, H1, x, H2, e1, l1, e2, g, S2, l2⟩ := xplain (n := n) (k := k) A S
    refine ⟨x, H2, ?_, g 0, S2, l2⟩
    rw [callN_run A.law_thing rfl]
    have l13 : decide (13 ≤ line) = true := by decide
    have l1' : decide (1 ≤ line) = true := by decide
    have l14 : 14 ≤ line := by decide
    simp [LxI.d_law_thing, startEnv, slotOf, setEnv, eqD_int, fits, l13, l1', l14, e1, e2]
    exact leave_len S2.fine l2
  | d + 1, k, H, m, S => by
    have hd : ¬ ((d : Int) + 1 = 0) := by omega
    obtain ⟨r, H1, e1, g1, S1, l1⟩ := draw_run (n := n + d + 2) (k := k + 2 + 3 * xbud d) A.dr (S.mono (by rw [xbud]; omega)) (many := 4) (by decide) (by decide +kernel)
    have e1' : callN p (n + d + 3) t.dr.f_law_draw [.ref m, .d (.int 4)] H = _ := e1
    rw [callN_run A.law_thing rfl]
    by_cases hr : r = 0
    · obtain ⟨r1, H2, x, H3, e2, l2, e3, g, S3, l3⟩ := xplain (n := n + d + 1) (k := k) A (S1.mono (by omega))
      refine ⟨x, H3, ?_, g (d + 1), S3, by omega⟩
      have l13 : decide (13 ≤ line) = true := by decide
      have l1' : decide (1 ≤ line) = true := by decide
      have l14 : 14 ≤ line := by decide
      have e2 : callN p (n + d + 3) t.dr.f_law_draw [.ref m, .d (.int 1000)] H1 = _ := e2
      have e3 : callN p (n + d + 3) t.dr.f_law_of [.ref m, .d (.lst [.int 0, .int 1, .int (-1), .int 10, .int (-30), .int (r1 - 500), .int 1000000000000000000000000000000, .non, .bl true, .bl false, .str [97], .str [122], .str [107, 101, 112, 116], .str [97, 98, 99, 100, 101, 102, 103, 104, 105, 106, 107, 108]])] H2 = _ := e3
      subst hr
      simp [LxI.d_law_thing, startEnv, slotOf, setEnv, eqD_int, hd, show n + (d + 1) + 2 = n + d + 3 from by omega, e1', fits, l13, l1', l14, e2, e3]
      exact leave_len S3.fine (by omega)
    · obtain ⟨r2, H2, e2, g2, S2, l2⟩ := draw_run (n := n + d + 2) (k := k + 3 * xbud d) A.dr (S1.mono (by omega)) (many := 4) (by decide) (by decide +kernel)
      obtain ⟨j, hj⟩ : ∃ j : Nat, r2 = j := ⟨r2.toNat, by omega⟩
      subst hj
      have hj : j ≤ 3 := by omega
      have S2' : St m (k + (cnt j).length * xbud d) H2 := S2.mono (by
        rw [cnt_len]
        have := Nat.mul_le_mul_right (xbud d) hj
        omega)
      have q := rng_small (r := (j : Int)) (by omega) (by omega)
      obtain ⟨ys, H3, e3, n3, p3, S3, l3⟩ := compGo_dr (f := fun x H' => (callN p (n + d + 3) t.f_law_thing [.ref m, .d (.int d)] H').bind fun v h => keep v fun y => .ok (some y) h) (P := SmallX d) (m := m) (c := xbud d) (N := H.length) (by
        intro x k H' S hl
        obtain ⟨y, H4, e4, g4, S4, l4⟩ := xthing_run A d k H' m S
        exact ⟨y, H4, by rw [e4]; rfl, g4, S4, by omega⟩) _ k H2 S2' (by omega)
      have cF : ∀ f : D → Heap → Res (Option D), (∀ x H', f x H' = (callN p (n + d + 3) t.f_law_thing [.ref m, .d (.int d)] H').bind fun v h => keep v fun y => .ok (some y) h) → compGo f (cnt j) H2 = .ok ys H3 := by
        intro f hf
        rw [show f = _ from funext fun x => funext fun H' => hf x H']
        exact e3
      rw [cnt_len] at n3
      refine ⟨.tup ys, H3, ?_, smallx_tup p3 (by omega), S3, by omega⟩
      rw [Int.toNat_natCast] at q
      have hy : ys.length ≤ line := by unfold line; omega
      have e2' : callN p (n + d + 3) t.dr.f_law_draw [.ref m, .d (.int 4)] H1 = _ := e2
      simp [LxI.d_law_thing, startEnv, slotOf, eqD_int, hd, show n + (d + 1) + 2 = n + d + 3 from by omega, e1', hr, e2', q]
      rw [cF]
      · simp [fits, hy]
        exact leave_len S3.fine (by omega)
      · intro x H'
        simp [wipeE, setTg, setEnv]
end
end Ev
end
section
/-! EvLx8: law k85: bent texts; a turn of the law. -/
set_option autoImplicit false
set_option linter.all false
set_option maxRecDepth 100000
namespace Ev
theorem sl_t (s : List Nat) (a : Nat) : sliceD (.str s) none (some (a : Int)) = some (.str (s.take a)) := by
  rw [sliceD]
  unfold sliceL ixL
  have : ¬ (a : Int) < 0 := by omega
  simp only [this, if_false, Int.toNat_natCast, List.drop_zero, Nat.sub_zero]
  congr 2
  by_cases z : a ≤ s.length
  · rw [Nat.min_eq_left z]
  · rw [Nat.min_eq_right (by omega), List.take_of_length_le (by omega), List.take_of_length_le (by omega)]
theorem sl_d (s : List Nat) (a : Nat) (i : Int) (hi : i = a) : sliceD (.str s) (some i) none = some (.str (s.drop a)) := by
  subst hi
  rw [sliceD]
  unfold sliceL ixL
  have : ¬ (a : Int) < 0 := by omega
  simp only [this, if_false, Int.toNat_natCast]
  congr 2
  by_cases z : a ≤ s.length
  · rw [Nat.min_eq_left z, List.take_of_length_le (by rw [List.length_drop]; omega)]
  · rw [Nat.min_eq_right (by omega), List.drop_of_length_le (Nat.le_refl _), List.drop_of_length_le (by omega)]; simp
theorem sl_1 (s : List Nat) (a : Nat) (ha : a ≤ s.length) : sliceD (.str s) (some (a : Int)) (some ((a : Int) + 1)) = some (.str ((s.drop a).take 1)) := by
  have := slice_at (s.take a) (s.drop a) 1 (a : Int) ((a : Int) + 1) (by rw [List.length_take]; omega) (by rw [List.length_take]; omega)
  rw [List.take_append_drop] at this
  exact this
/-- at most j signs more, at most j brackets more -/
structure Near (j : Nat) (s s' : List Nat) : Prop where
  ln : s'.length ≤ s.length + j
  ct : s'.count 40 ≤ s.count 40 + j
theorem Near.trans {i j : Nat} {a b c : List Nat} (h : Near i a b) (g : Near j b c) : Near (i + j) a c := ⟨by have := h.ln; have := g.ln; omega, by have := h.ct; have := g.ct; omega⟩
theorem cut (s : List Nat) (a : Nat) : (s.take a).length + (s.drop a).length = s.length ∧ (s.take a).count 40 + (s.drop a).count 40 = s.count 40 := by
  have e := List.take_append_drop a s
  have e1 := congrArg List.length e
  have e2 := congrArg (List.count 40) e
  rw [List.length_append] at e1
  rw [List.count_append] at e2
  exact ⟨e1, e2⟩
theorem cut1 (s : List Nat) (a : Nat) : (s.drop (a + 1)).length ≤ (s.drop a).length ∧ (s.drop (a + 1)).count 40 ≤ (s.drop a).count 40 := by
  have e : s.drop (a + 1) = (s.drop a).drop 1 := by rw [List.drop_drop, Nat.add_comm]
  rw [e]
  have := cut (s.drop a) 1
  omega
theorem near_del (s : List Nat) (a : Nat) : Near 1 s (s.take a ++ s.drop (a + 1)) := by
  have := cut s a
  have := cut1 s a
  exact ⟨by rw [List.length_append]; omega, by rw [List.count_append]; omega⟩
theorem count1 (c : Nat) : ([c] : List Nat).count 40 ≤ 1 := List.count_le_length
theorem near_ins (s : List Nat) (a c : Nat) : Near 1 s (s.take a ++ [c] ++ s.drop a) := by
  have := cut s a
  have := count1 c
  exact ⟨by rw [List.length_append, List.length_append, List.length_singleton]; omega, by rw [List.count_append, List.count_append]; omega⟩
theorem near_rep (s : List Nat) (a c : Nat) : Near 1 s (s.take a ++ [c] ++ s.drop (a + 1)) := by
  have := cut s a
  have := cut1 s a
  have := count1 c
  exact ⟨by rw [List.length_append, List.length_append, List.length_singleton]; omega, by rw [List.count_append, List.count_append]; omega⟩
theorem near_dup (s : List Nat) (a : Nat) : Near 1 s (s.take a ++ (s.drop a).take 1 ++ s.drop a) := by
  have := cut s a
  have h1 : ((s.drop a).take 1).length ≤ 1 := List.length_take_le 1 (s.drop a)
  have h2 : ((s.drop a).take 1).count 40 ≤ 1 := Nat.le_trans List.count_le_length h1
  exact ⟨by rw [List.length_append, List.length_append]; omega, by rw [List.count_append, List.count_append]; omega⟩
def LxI.beBody (t : LxI) : List S := match t.d_law_bent.body with
  | [.for _ _ _ b, _] => b
  | _ => []
theorem bent_body (t : LxI) : t.d_law_bent.body = [.for [2] .rng [(.bin .add (.lit (.int 1)) (.call t.dr.f_law_draw [(.slot 0), (.lit (.int 2))]))] t.beBody, .ret (.slot 1)] := rfl
section
variable {t : LxI} {p : Prog} {n : Nat}
theorem be_step (A : t.At p) {m k b : Nat} {H : Heap} (S : St m (k + 3) H) (s : List Nat) (hs : s.length ≤ 10000) (e2 e3 e4 e5 : Option NV) :
    ∃ s' e3' e4' e5' H', evalSs (gAt p (n + 2) (fun _ => .bad) b) t.beBody [some (.v (.ref m)), some (.v (.d (.str s))), e2, e3, e4, e5] H = .ok (.next [some (.v (.ref m)), some (.v (.d (.str s'))), e2, e3', e4', e5']) H' ∧ Near 1 s s' ∧ St m k H' ∧ H'.length = H.length := by
  obtain ⟨r1, H1, f1, g1, S1, l1⟩ := draw_run (n := n + 1) (k := k + 2) A.dr S (many := (s.length : Int) + 1) (by omega) (by
    have : ((s.length : Int) + 1).natAbs = s.length + 1 := by omega
    rw [this]
    exact Nat.lt_trans ((Nat.log2_lt (by omega)).mpr (show s.length + 1 < 2 ^ 20 by omega)) (by decide))
  obtain ⟨r2, H2, f2, g2, S2, l2⟩ := draw_run (n := n + 1) (k := k + 1) A.dr S1 (many := 4) (by decide) (by decide +kernel)
  obtain ⟨x, H3, f3, hx, S3, l3⟩ := of_run (n := n) (k := k) A.dr S2 (xs := ([32, 40, 41, 43, 45, 46, 48, 49, 57, 97, 122, 65, 44] : List Nat).map fun c => .str [c]) (by simp) (by simp)
  obtain ⟨c, rfl⟩ : ∃ c, x = .str [c] := by obtain ⟨c, _, rfl⟩ := List.mem_map.mp hx; exact ⟨c, rfl⟩
  obtain ⟨a, ha⟩ : ∃ a : Nat, r1 = a := ⟨r1.toNat, by omega⟩
  subst ha
  have ha : a ≤ s.length := by omega
  have c0 := cut s a
  have c1 := cut1 s a
  have fl1 : (s.take a).length + (s.drop (a + 1)).length ≤ line := by unfold line; omega
  have fl2 : (s.take a).length + 1 ≤ line := by unfold line; omega
  have fl3 : (s.take a).length + 1 + (s.drop a).length ≤ line := by unfold line; omega
  have fl4 : (s.take a).length + 1 + (s.drop (a + 1)).length ≤ line := by unfold line; omega
  have h1 : ((s.drop a).take 1).length ≤ 1 := List.length_take_le 1 (s.drop a)
  have fl5 : (s.take a).length + ((s.drop a).take 1).length ≤ line := by unfold line; omega
  have fl6 : (s.take a).length + ((s.drop a).take 1).length + (s.drop a).length ≤ line := by unfold line; omega
  have u1 := sl_t s a
  have u2 := sl_d s (a + 1) ((a : Int) + 1) (by omega)
  have u3 := sl_d s a (a : Int) rfl
  have u4 := sl_1 s a ha
  have pre : ∀ rest, evalSs (gAt p (n + 2) (fun _ => .bad) b) (.par3 3 4 5 (.call t.dr.f_law_draw [(.slot 0), (.bin .add (.bi .len [(.slot 1)]) (.lit (.int 1)))]) (.call t.dr.f_law_draw [(.slot 0), (.lit (.int 4))]) (.call t.dr.f_law_of [(.slot 0), (.bi .list [(.lit (.str [32, 40, 41, 43, 45, 46, 48, 49, 57, 97, 122, 65, 44]))])]) :: rest) [some (.v (.ref m)), some (.v (.d (.str s))), e2, e3, e4, e5] H =
      evalSs (gAt p (n + 2) (fun _ => .bad) b) rest [some (.v (.ref m)), some (.v (.d (.str s))), e2, some (.v (.d (.int a))), some (.v (.d (.int r2))), some (.v (.d (.str [c])))] H3 := by
    intro rest
    rw [Ss_cons]
    have f3' := f3
    simp only [List.map_cons, List.map_nil] at f3'
    simp [slotOf, f1, f2, f3', setEnv]
  have bd : t.beBody = .par3 3 4 5 (.call t.dr.f_law_draw [(.slot 0), (.bin .add (.bi .len [(.slot 1)]) (.lit (.int 1)))]) (.call t.dr.f_law_draw [(.slot 0), (.lit (.int 4))]) (.call t.dr.f_law_of [(.slot 0), (.bi .list [(.lit (.str [32, 40, 41, 43, 45, 46, 48, 49, 57, 97, 122, 65, 44]))])]) ::
    [.ite (.cmp .eq (.slot 4) (.lit (.int 0))) [.asg 1 (.bin .add (.sliH (.slot 1) (.slot 3)) (.sliL (.slot 1) (.bin .add (.slot 3) (.lit (.int 1)))))] [.ite (.cmp .eq (.slot 4) (.lit (.int 1))) [.asg 1 (.bin .add (.bin .add (.sliH (.slot 1) (.slot 3)) (.slot 5)) (.sliL (.slot 1) (.slot 3)))] [.ite (.cmp .eq (.slot 4) (.lit (.int 2))) [.asg 1 (.bin .add (.bin .add (.sliH (.slot 1) (.slot 3)) (.slot 5)) (.sliL (.slot 1) (.bin .add (.slot 3) (.lit (.int 1)))))] [.asg 1 (.bin .add (.bin .add (.sliH (.slot 1) (.slot 3)) (.sliB (.slot 1) (.slot 3) (.bin .add (.slot 3) (.lit (.int 1))))) (.sliL (.slot 1) (.slot 3)))]]]] := rfl
  rw [bd, pre]
  have : r2 = 0 ∨ r2 = 1 ∨ r2 = 2 ∨ r2 = 3 := by omega
  rcases this with rfl | rfl | rfl | rfl
  · refine ⟨_, some (.v (.d (.int a))), some (.v (.d (.int 0))), some (.v (.d (.str [c]))), H3, ?_, near_del s a, S3, by omega⟩
    simp [slotOf, setEnv, eqD_int, u1, u2, fl1, -List.length_take, -List.length_drop]
  · refine ⟨_, some (.v (.d (.int a))), some (.v (.d (.int 1))), some (.v (.d (.str [c]))), H3, ?_, near_ins s a c, S3, by omega⟩
    simp [slotOf, setEnv, eqD_int, u1, u3, fl2, fl3, -List.length_take, -List.length_drop]
  · refine ⟨_, some (.v (.d (.int a))), some (.v (.d (.int 2))), some (.v (.d (.str [c]))), H3, ?_, near_rep s a c, S3, by omega⟩
    simp [slotOf, setEnv, eqD_int, u1, u2, fl2, fl4, -List.length_take, -List.length_drop]
  · refine ⟨_, some (.v (.d (.int a))), some (.v (.d (.int 3))), some (.v (.d (.str [c]))), H3, ?_, near_dup s a, S3, by omega⟩
    simp [slotOf, setEnv, eqD_int, u1, u3, u4, fl5, fl6, -List.length_take, -List.length_drop]
theorem be_loop (A : t.At p) {m b : Nat} : ∀ (xs : List D) (k : Nat) (H : Heap) (s : List Nat) (e2 e3 e4 e5 : Option NV), St m (k + xs.length * 3) H → s.length + xs.length ≤ 10000 →
    ∃ s' e2' e3' e4' e5' H', forGo (fun x env h => opt (setTg env [2] x) fun env' => evalSs (gAt p (n + 2) (fun _ => .bad) b) t.beBody env' h) xs [some (.v (.ref m)), some (.v (.d (.str s))), e2, e3, e4, e5] H =
      .ok (.next [some (.v (.ref m)), some (.v (.d (.str s'))), e2', e3', e4', e5']) H' ∧ Near xs.length s s' ∧ St m k H' ∧ H'.length = H.length
  | [], k, H, s, e2, e3, e4, e5, S, hs => ⟨s, e2, e3, e4, e5, H, by rw [forGo_nil], ⟨by simp, by simp⟩, S.mono (by simp), rfl⟩
  | x :: xs, k, H, s, e2, e3, e4, e5, S, hs => by
    rw [List.length_cons] at hs
    have S : St m ((k + xs.length * 3) + 3) H := S.mono (by rw [List.length_cons]; omega)
    obtain ⟨s1, e3a, e4a, e5a, H1, q1, n1, S1, l1⟩ := be_step (n := n) (b := b) A S s (by omega) (some (.v (.d x))) e3 e4 e5
    obtain ⟨s2, e2b, e3b, e4b, e5b, H2, q2, n2, S2, l2⟩ := be_loop A xs k H1 s1 (some (.v (.d x))) e3a e4a e5a S1 (by have := n1.ln; omega)
    refine ⟨s2, e2b, e3b, e4b, e5b, H2, ?_, ?_, S2, by omega⟩
    · rw [forGo_cons]
      have tg : setTg [some (.v (.ref m)), some (.v (.d (.str s))), e2, e3, e4, e5] [2] x = some [some (.v (.ref m)), some (.v (.d (.str s))), some (.v (.d x)), e3, e4, e5] := rfl
      rw [tg, opt_some, q1, nxt_next, q2]
    · have := n1.trans n2
      rw [List.length_cons, Nat.add_comm]
      exact this
theorem bent_run (A : t.At p) {m k : Nat} {H : Heap} (S : St m (k + 7) H) (s : List Nat) (hs : s.length ≤ 9000) : ∃ s' H', callN p (n + 3) t.f_law_bent [.ref m, .d (.str s)] H = .ok (.d (.str s')) H' ∧ Near 2 s s' ∧ St m k H' ∧ H'.length = H.length := by
  rw [callN_run A.law_bent rfl, bent_body]
  obtain ⟨r, H1, f1, g1, S1, l1⟩ := draw_run (n := n + 1) (k := k + 6) A.dr S (many := 2) (by decide) (by decide +kernel)
  have q := rng_small (r := 1 + r) (by omega) (by omega)
  have hj : (cnt (1 + r).toNat).length ≤ 2 := by rw [cnt_len]; omega
  obtain ⟨s', e2, e3, e4, e5, H2, L, N, S2, l2⟩ := be_loop (n := n) (b := H.length) A (cnt (1 + r).toNat) k H1 s none none none none (S1.mono (by omega)) (by omega)
  refine ⟨s', H2, ?_, ⟨by have := N.ln; omega, by have := N.ct; omega⟩, S2, by omega⟩
  simp only [startEnv, show t.d_law_bent.ns = 6 from rfl, show t.d_law_bent.ps = 2 from rfl, List.map_cons, List.map_nil, List.cons_append, List.nil_append, List.replicate, Nat.sub]
  have R : evalEs (gAt p (n + 2) (fun _ => .bad) H.length) [(.bin .add (.lit (.int 1)) (.call t.dr.f_law_draw [(.slot 0), (.lit (.int 2))]))] [some (.v (.ref m)), some (.v (.d (.str s))), none, none, none, none] H = .ok [.d (.int (1 + r))] H1 := by
    simp [slotOf, f1]
  simp only [Ss_cons, S_for, R, Res.bind_ok, w_rng, q, opt_some]
  rw [L]
  simp [slotOf]
  exact leave_len S2.fine (by omega)
end
end Ev
end
section
/-! EvLx9: law k85: by hand, wide. -/
set_option autoImplicit false
set_option linter.all false
set_option maxRecDepth 100000
namespace Ev
def handL : List D := [(.tup [(.str [48]), (.lst [(.int 0)])]), (.tup [(.str [45, 49]), (.lst [(.int (-1))])]), (.tup [(.str [45]), (.lst [(.bl false)])]), (.tup [(.str [43]), (.lst [(.bl true)])]), (.tup [(.str [46]), (.lst [.non])]), (.tup [(.str [97]), (.lst [(.str [97])])]), (.tup [(.str [40, 41]), (.lst [(.tup [])])]), (.tup [(.str [40, 48, 41]), (.lst [(.tup [(.int 0)])])]), (.tup [(.str [40, 48, 32, 49, 41]), (.lst [(.tup [(.int 0), (.int 1)])])]), (.tup [(.str [40, 40, 41, 32, 45, 41]), (.lst [(.tup [(.tup []), (.bl false)])])]), (.tup [(.str [40, 40, 97, 41, 32, 40, 98, 32, 46, 41, 41]), (.lst [(.tup [(.tup [(.str [97])]), (.tup [(.str [98]), .non])])])]), (.tup [(.str []), (.tup [(.str [116, 101, 120, 116]), (.int 1)])]), (.tup [(.str [32]), (.tup [(.str [116, 101, 120, 116]), (.int 1)])]), (.tup [(.str [40]), (.tup [(.str [116, 101, 120, 116]), (.int 1)])]), (.tup [(.str [41]), (.tup [(.str [116, 101, 120, 116]), (.int 1)])]), (.tup [(.str [40, 48]), (.tup [(.str [116, 101, 120, 116]), (.int 1)])]), (.tup [(.str [48, 41]), (.tup [(.str [116, 101, 120, 116]), (.int 1)])]), (.tup [(.str [48, 48]), (.tup [(.str [116, 101, 120, 116]), (.int 1)])]), (.tup [(.str [45, 48]), (.tup [(.str [116, 101, 120, 116]), (.int 1)])]), (.tup [(.str [48, 49]), (.tup [(.str [116, 101, 120, 116]), (.int 1)])]), (.tup [(.str [43, 49]), (.tup [(.str [116, 101, 120, 116]), (.int 1)])]), (.tup [(.str [45, 45]), (.tup [(.str [116, 101, 120, 116]), (.int 1)])]), (.tup [(.str [46, 46]), (.tup [(.str [116, 101, 120, 116]), (.int 1)])]), (.tup [(.str [48, 32, 49]), (.tup [(.str [116, 101, 120, 116]), (.int 1)])]), (.tup [(.str [40, 48, 32, 32, 49, 41]), (.tup [(.str [116, 101, 120, 116]), (.int 1)])]), (.tup [(.str [40, 32, 48, 41]), (.tup [(.str [116, 101, 120, 116]), (.int 1)])]), (.tup [(.str [40, 48, 32, 41]), (.tup [(.str [116, 101, 120, 116]), (.int 1)])]), (.tup [(.str [65]), (.tup [(.str [116, 101, 120, 116]), (.int 1)])]), (.tup [(.str [97, 49]), (.tup [(.str [116, 101, 120, 116]), (.int 1)])]), (.tup [(.str [49, 97]), (.tup [(.str [116, 101, 120, 116]), (.int 1)])]), (.tup [(.str [97, 45]), (.tup [(.str [116, 101, 120, 116]), (.int 1)])]), (.tup [(.str [40, 48, 44, 49, 41]), (.tup [(.str [116, 101, 120, 116]), (.int 1)])]), (.tup [(.str [40, 41, 40, 41]), (.tup [(.str [116, 101, 120, 116]), (.int 1)])]), (.tup [(.str [40, 41, 32]), (.tup [(.str [116, 101, 120, 116]), (.int 1)])]), (.tup [(.str [32, 40, 41]), (.tup [(.str [116, 101, 120, 116]), (.int 1)])]), (.tup [(.str [40, 40, 41]), (.tup [(.str [116, 101, 120, 116]), (.int 1)])]), (.tup [(.str [40, 41, 41]), (.tup [(.str [116, 101, 120, 116]), (.int 1)])]), (.tup [(.str [48, 10]), (.tup [(.str [116, 101, 120, 116]), (.int 1)])]), (.tup [(.str [97, 98, 99, 100, 101, 102, 103, 104, 105, 106, 107, 108, 109]), (.tup [(.str [116, 101, 120, 116]), (.int 1)])]), (.tup [(.str [40, 45, 32, 45, 48, 41]), (.tup [(.str [116, 101, 120, 116]), (.int 1)])]), (.tup [(.str [57, 57, 57, 57, 57, 57, 57, 57, 57, 57, 57, 57, 57, 57, 57, 57, 57, 57, 57, 57, 57, 57, 57, 57, 57, 57, 57, 57, 57, 57, 57, 57]), (.tup [(.str [116, 101, 120, 116]), (.int 1)])]), (.tup [(.str [57, 57, 57, 57, 57, 57, 57, 57, 57, 57, 57, 57, 57, 57, 57, 57, 57, 57, 57, 57, 57, 57, 57, 57, 57, 57, 57, 57, 57, 57, 57]), (.lst [(.int 9999999999999999999999999999999)])]), (.tup [(.str [45, 57, 57, 57, 57, 57, 57, 57, 57, 57, 57, 57, 57, 57, 57, 57, 57, 57, 57, 57, 57, 57, 57, 57, 57, 57, 57, 57, 57, 57, 57, 57]), (.lst [(.int (-9999999999999999999999999999999))])]), (.tup [(.str [40, 40, 40, 40, 40, 40, 40, 40, 40, 40, 40, 40, 40, 40, 40, 40, 40, 40, 40, 41, 41, 41, 41, 41, 41, 41, 41, 41, 41, 41, 41, 41, 41, 41, 41, 41, 41, 41]), .non]), (.tup [(.str [40, 40, 40, 40, 40, 40, 40, 40, 40, 40, 40, 40, 40, 40, 40, 40, 40, 40, 40, 40, 40, 40, 40, 40, 40, 40, 41, 41, 41, 41, 41, 41, 41, 41, 41, 41, 41, 41, 41, 41, 41, 41, 41, 41, 41, 41, 41, 41, 41, 41, 41, 41]), (.tup [(.str [116, 101, 120, 116]), (.int 1)])]), (.tup [.non, (.tup [(.str [116, 101, 120, 116]), (.int 0)])]), (.tup [(.int 7), (.tup [(.str [116, 101, 120, 116]), (.int 0)])]), (.tup [(.lst [(.str [48])]), (.tup [(.str [116, 101, 120, 116]), (.int 0)])]), (.tup [(.tup []), (.tup [(.str [116, 101, 120, 116]), (.int 0)])])]
/-- a row by hand, with what is due -/
def rowB (x : D) : Bool := match x with
  | .tup [.str s, b] => decide (s.length ≤ 4000) && decide (s.count 40 ≤ 45) && (isNon b || ((reprD (dueT s)).isSome && reprD (dueT s) == reprD b))
  | .tup [a, .tup [.str [116, 101, 120, 116], .int 0]] => !(a.isa .str)
  | _ => false
theorem hand_ok : handL.all rowB = true := by decide +kernel
theorem row_is {x : D} (h : rowB x = true) : ∃ a b, x = .tup [a, b] ∧ ((∃ s, a = .str s ∧ s.length ≤ 4000 ∧ s.count 40 ≤ 45 ∧ (b = .non ∨ ∃ z, reprD (dueT s) = some z ∧ reprD b = some z)) ∨ (a.isa .str = false ∧ b = .tup [.str [116, 101, 120, 116], .int 0])) := by
  unfold rowB at h
  split at h
  · rename_i s b
    simp only [Bool.and_eq_true, decide_eq_true_eq, Bool.or_eq_true] at h
    refine ⟨_, _, rfl, .inl ⟨s, rfl, h.1.1, h.1.2, ?_⟩⟩
    rcases h.2 with q | q
    · left
      cases b <;> first | rfl | cases q
    · right
      obtain ⟨z, hz⟩ := Option.isSome_iff_exists.mp q.1
      have := eq_of_beq q.2
      exact ⟨z, hz, by rw [← this]; exact hz⟩
  · rename_i a _
    exact ⟨_, _, rfl, .inr ⟨by simpa using h, rfl⟩⟩
  · cases h
def LxI.haBody (t : LxI) : List S := match t.d_law_hand_right.body.reverse with
  | _ :: .for _ _ _ b :: _ => b
  | _ => []
section
variable {t : LxI} {p : Prog} {n : Nat} {h : Heap}
theorem xdue_odd (A : t.At p) (hf : Fine h) (x : D) (hx : x.isa .str = false) : callN p (n + 1) t.f_law_due [.d x] h = .ok (.d (.tup [.str [116, 101, 120, 116], .int 0])) h := by
  rw [callN_run A.law_due rfl]
  have l2 : decide (2 ≤ line) = true := by decide
  simp [LxI.d_law_due, startEnv, slotOf, hx, fits, l2, hf]
theorem ha_loop (A : t.At p) (hf : Fine h) (hfu : 16000 ≤ p.fuel) (b : Nat) (e0 e1 : Option NV) : ∀ (xs : List D) (e2 e3 : Option NV), xs.all rowB = true →
    ∃ e2' e3', forGo (fun x env h => opt (setTg env [2, 3] x) fun env' => evalSs (gAt p (n + 52) (fun _ => .bad) b) t.haBody env' h) xs [e0, e1, e2, e3] h = .ok (.next [e0, e1, e2', e3']) h
  | [], e2, e3, _ => ⟨e2, e3, by rw [forGo_nil]⟩
  | x :: xs, e2, e3, hx => by
    rw [List.all_cons, Bool.and_eq_true] at hx
    obtain ⟨a, d, rfl, o⟩ := row_is hx.1
    obtain ⟨e2', e3', L⟩ := ha_loop A hf hfu b e0 e1 xs (some (.v (.d a))) (some (.v (.d d))) hx.2
    refine ⟨e2', e3', ?_⟩
    rw [forGo_cons]
    have tg : setTg [e0, e1, e2, e3] [2, 3] (.tup [a, d]) = some [e0, e1, some (.v (.d a)), some (.v (.d d))] := rfl
    rw [tg, opt_some]
    have st : evalSs (gAt p (n + 52) (fun _ => .bad) b) t.haBody [e0, e1, some (.v (.d a)), some (.v (.d d))] h = .ok (.next [e0, e1, some (.v (.d a)), some (.v (.d d))]) h := by
      rw [show t.haBody = [.ite (.or (.and (.cmp .isNot (.slot 3) (.lit .non)) (.cmp .ne (.bi .repr [(.call t.f_law_due [(.slot 2)])]) (.bi .repr [(.slot 3)]))) (.not (.call t.f_law_is_right [(.slot 2)]))) [.ret (.lit (.bl false))] []] from rfl]
      rcases o with ⟨s, rfl, h1, h2, o⟩ | ⟨h1, rfl⟩
      · have r1 : callN p (n + 52) t.f_law_is_right [.d (.str s)] h = _ := xright_str (n := n) A hf 45 s h1 hfu h2
        have r2 : callN p (n + 52) t.f_law_due [.d (.str s)] h = _ := due_run (n := n + 4) A hf 45 s h1 (by omega) h2
        rcases o with rfl | ⟨z, z1, z2⟩
        · simp [slotOf, r1]
        · cases hn : isNon d <;> simp [slotOf, r1, r2, hn, z1, z2, eqD_str]
      · have r1 : callN p (n + 52) t.f_law_is_right [.d a] h = _ := xright_odd (n := n + 45) A hf a h1
        have r2 : callN p (n + 52) t.f_law_due [.d a] h = _ := xdue_odd (n := n + 51) A hf a h1
        obtain ⟨z, hz⟩ : ∃ z, reprD (.tup [.str [116, 101, 120, 116], .int 0]) = some z := ⟨_, rfl⟩
        simp [slotOf, r1, r2, hz, eqD_str]
    rw [st, nxt_next, L]
theorem evalSs_append (g : G) : ∀ (a b : List S) (env : Env) (h : Heap), evalSs g (a ++ b) env h = (evalSs g a env h).nxt fun env' h1 => evalSs g b env' h1
  | [], b, env, h => by rw [List.nil_append, Ss_nil, nxt_next]
  | s :: a, b, env, h => by
    rw [List.cons_append, Ss_cons, Ss_cons]
    cases evalS g s env h with
    | ok f h1 =>
      cases f with
      | next env' => rw [nxt_next, nxt_next, evalSs_append g a b]
      | ret v => rfl
    | exc c pl h1 => rfl
    | bad => rfl
def LxI.haPre (t : LxI) : List S := t.d_law_hand_right.body.take 8
theorem hand_body (t : LxI) : t.d_law_hand_right.body = t.haPre ++ [.for [2, 3] .val [(.bin .add (.slot 0) (.lst false [(.tup [(.tup []), (.tup [(.lit (.str [116, 101, 120, 116])), (.lit (.int 0))])])]))] t.haBody, .ret (.lit (.bl true))] := rfl
def HaEnd (h : Heap) (r : Res Fl) : Prop := ∃ a b c d w, r = .ok (.next [some (.v (.ref (h.length + 4))), w, none, none]) (h ++ [a, b, c, d, .lst (handL.take 48)]) ∧ [a, b, c, d, .lst (handL.take 48)].all (fun c => match c with | .rws _ => false | _ => true) = true
theorem ha_pre (g : G) (h : Heap) : HaEnd h (evalSs g t.haPre [none, none, none, none] h) := by
  have l0 : decide (0 ≤ line) = true := by decide
  have l1 : decide (1 ≤ line) = true := by decide
  have l2 : decide (2 ≤ line) = true := by decide
  have l3 : decide (3 ≤ line) = true := by decide
  have l4 : decide (4 ≤ line) = true := by decide
  have l7 : decide (7 ≤ line) = true := by decide
  have l12 : decide (12 ≤ line) = true := by decide
  have l17 : decide (17 ≤ line) = true := by decide
  have l30 : decide (30 ≤ line) = true := by decide
  have n10 : 10 < line := by decide
  have n10' : 10 ≤ line := by decide
  have n29 : 29 ≤ line := by decide
  have n30 : 30 ≤ line := by decide
  have n32 : 32 ≤ line := by decide
  have n38 : 38 ≤ line := by decide
  have n41 : 41 ≤ line := by decide
  have n44 : 44 ≤ line := by decide
  have n48 : 48 ≤ line := by decide
  have n49 : 49 ≤ line := by decide
  have n52 : 52 ≤ line := by decide
  have m1 : binD .mul (.str [57]) (.int 32) = some (.str [57, 57, 57, 57, 57, 57, 57, 57, 57, 57, 57, 57, 57, 57, 57, 57, 57, 57, 57, 57, 57, 57, 57, 57, 57, 57, 57, 57, 57, 57, 57, 57]) := rfl
  have m2 : binD .mul (.str [57]) (.int 31) = some (.str [57, 57, 57, 57, 57, 57, 57, 57, 57, 57, 57, 57, 57, 57, 57, 57, 57, 57, 57, 57, 57, 57, 57, 57, 57, 57, 57, 57, 57, 57, 57]) := rfl
  have m3 : binD .mul (.str [40]) (.int 19) = some (.str [40, 40, 40, 40, 40, 40, 40, 40, 40, 40, 40, 40, 40, 40, 40, 40, 40, 40, 40]) := rfl
  have m4 : binD .mul (.str [41]) (.int 19) = some (.str [41, 41, 41, 41, 41, 41, 41, 41, 41, 41, 41, 41, 41, 41, 41, 41, 41, 41, 41]) := rfl
  have m5 : binD .mul (.str [40]) (.int 26) = some (.str [40, 40, 40, 40, 40, 40, 40, 40, 40, 40, 40, 40, 40, 40, 40, 40, 40, 40, 40, 40, 40, 40, 40, 40, 40, 40]) := rfl
  have m6 : binD .mul (.str [41]) (.int 26) = some (.str [41, 41, 41, 41, 41, 41, 41, 41, 41, 41, 41, 41, 41, 41, 41, 41, 41, 41, 41, 41, 41, 41, 41, 41, 41, 41]) := rfl
  have c1 : ∀ (a : Cell) (xs : List D), (h ++ [a, Cell.lst xs])[h.length + 1]? = some (.lst xs) := fun a xs => by simp
  have cm : ∀ (xs : List D) (f : D → Heap → Res (Option D)) (H : Heap), (∀ x ∈ xs, f x H = .ok (some (.tup [x, .tup [.str [116, 101, 120, 116], .int 1]])) H) → compGo f xs H = .ok (xs.map fun x => .tup [x, .tup [.str [116, 101, 120, 116], .int 1]]) H := fun xs f H e => compGo_map e
  simp [LxI.haPre, LxI.d_law_hand_right, slotOf, setEnv, fits, l0, l1, l2, l3, l4, l7, l12, l17, n10, n10', n29, n30, m1, look, view, mtK_app (c1 _ _), app_run (c1 _ _)]
  rw [cm]
  · simp [fits, slotOf, setEnv, l1, l2, l3, l4, l30, n32, n38, n41, n44, n48, n49, n52, m2, m3, m4, m5, m6, look, view]
    exact ⟨_, _, _, _, _, rfl, rfl⟩
  · intro x hx
    simp [wipeE, setTg, setEnv, slotOf, fits, l2]
theorem hand_run (A : t.At p) (hf : Fine h) (hfu : 16000 ≤ p.fuel) : callN p (n + 53) t.f_law_hand_right [] h = .ok (.d (.bl true)) h := by
  rw [callN_run A.law_hand_right rfl, hand_body, evalSs_append]
  obtain ⟨a, b, c, d, w, P, nr⟩ := ha_pre (t := t) (gAt p (n + 52) (fun _ => .bad) h.length) h
  have R : (h ++ [a, b, c, d, Cell.lst (handL.take 48)])[h.length + 4]? = some (.lst (handL.take 48)) := by simp
  have l0 : decide (0 ≤ line) = true := by decide
  have l1 : decide (1 ≤ line) = true := by decide
  have l2 : decide (2 ≤ line) = true := by decide
  have hl : (handL.take 48).length + 1 ≤ line := by
    have : (handL.take 48).length ≤ 48 := List.length_take_le 48 handL
    unfold line; omega
  have fin2 : Fine (h ++ [a, b, c, d, Cell.lst (handL.take 48)]) := hf.app nr
  have last : handL.take 48 ++ [.tup [.tup [], .tup [.str [116, 101, 120, 116], .int 0]]] = handL := rfl
  obtain ⟨e2, e3, L⟩ := ha_loop (n := n) A fin2 hfu h.length (some (.v (.ref (h.length + 4)))) w handL none none hand_ok
  simp only [startEnv, show t.d_law_hand_right.ns = 4 from rfl, show t.d_law_hand_right.ps = 0 from rfl, List.map_nil, List.nil_append, List.replicate, Nat.sub, P, nxt_next, Ss_cons, S_for]
  have W : evalEs (gAt p (n + 52) (fun _ => .bad) h.length) [(.bin .add (.slot 0) (.lst false [(.tup [(.tup []), (.tup [(.lit (.str [116, 101, 120, 116])), (.lit (.int 0))])])]))] [some (.v (.ref (h.length + 4))), w, none, none] (h ++ [a, b, c, d, Cell.lst (handL.take 48)]) = .ok [.d (.lst handL)] (h ++ [a, b, c, d, Cell.lst (handL.take 48)]) := by
    have AD : binD .add (.lst (handL.take 48)) (.lst [.tup [.tup [], .tup [.str [116, 101, 120, 116], .int 0]]]) = some (.lst handL) := by
      rw [b_addL, if_pos (by exact hl), last]
    simp [slotOf, fits, l0, l1, l2, look_ref R, -b_addL, AD]
  rw [W]
  simp only [Res.bind_ok, w_val, items_lst, opt_some]
  rw [L]
  simp [leave_ext hf]
end
theorem mulS (xs : List Nat) (n : Nat) (h1 : 2 ≤ n) (h2 : n ≤ 10000) (h3 : xs.length ≤ 1000) (h4 : xs ≠ []) : binD .mul (.str xs) (.int n) = some (.str (rep n xs)) := by
  show (if (decide (2 ≤ (n : Int)) && decide ((n : Int) ≤ 10000) && decide (xs.length ≤ 1000) && !xs.isEmpty) = true then some (D.str (rep (n : Int).toNat xs)) else none) = _
  rw [if_pos, Int.toNat_natCast]
  have : xs.isEmpty = false := by simpa using h4
  simp [this]
  omega
theorem txt0 : txt (.int 0) = [48] := by decide
theorem txtr_zs (n : Nat) : [48] ++ txtr (zs n (.int 0)) = rep n [48, 32] ++ [48] := by
  have e : ∀ n, txtr (zs n (.int 0)) = rep n [32, 48] := by
    intro n
    unfold zs rep
    induction n with
    | zero => rfl
    | succ n ih => rw [List.replicate_succ, List.replicate_succ, txtr, ih, txt0]; rfl
  rw [e]
  unfold rep
  induction n with
  | zero => rfl
  | succ n ih =>
    rw [List.replicate_succ, List.replicate_succ, List.flatten_cons, List.flatten_cons, List.append_assoc, ← ih]
    rfl
theorem txt_zs (n : Nat) : txt (.tup (zs (n + 1) (.int 0))) = [40] ++ rep n [48, 32] ++ [48, 41] := by
  have := txtr_zs n
  rw [txt, show zs (n + 1) (.int 0) = .int 0 :: zs n (.int 0) from List.replicate_succ .., txtj, txt0, this]
  simp
section
variable {t : LxI} {p : Prog} {n : Nat} {h : Heap}
theorem xwide_run (A : t.At p) (hf : Fine h) : callN p (n + 8) t.f_law_wide_right [] h = .ok (.d (.bl true)) h := by
  rw [callN_run A.law_wide_right rfl]
  have m1 : binD .mul (.str [48, 32]) (.int 3998) = some (.str (rep 3998 [48, 32])) := mulS _ 3998 (by omega) (by omega) (by simp) (by simp)
  have rl : (rep 3998 [48, 32] : List Nat).length = 7996 := by simp [rep]
  generalize hw : (rep 3998 [48, 32] : List Nat) = w at m1 rl
  have t1 : txt (.tup (zs 3999 (.int 0))) = 40 :: (w ++ [48, 41]) := by rw [txt_zs 3998, hw]; rfl
  have t2 : txt (.tup (zs 4000 (.int 0))) = 40 :: (w ++ [48, 32, 48, 41]) := by
    rw [txt_zs 3999]
    have : (rep 3999 [48, 32] : List Nat) = w ++ [48, 32] := by
      rw [← hw]
      unfold rep
      rw [List.replicate_succ', List.flatten_append]
      rfl
    rw [this]; simp
  obtain ⟨a1, b1, c1⟩ := zs_tup 3999 _ p0
  obtain ⟨a2, b2, c2⟩ := zs_tup 4000 _ p0
  have th : isThing (.tup (zs 3999 (.int 0))) = true := isThing_of a1 (by omega) (by omega)
  have r1 : readT (40 :: (w ++ [48, 41])) = some (.tup (zs 3999 (.int 0))) := by rw [← t1]; exact read_txt th
  have r2 : readT (40 :: (w ++ [48, 32, 48, 41])) = none := by
    rw [← t2]
    cases R : readT (txt (.tup (zs 4000 (.int 0)))) with
    | none => rfl
    | some y =>
      obtain ⟨y1, y2⟩ := readT_iff.mp R
      have := (txt_uniq y (.tup (zs 4000 (.int 0))) (s := []) (t := []) (isThing_plain y1).1 a2 (fun _ => rfl) (fun _ => rfl) (by rw [y2])).1
      subst this
      have := (isThing_plain y1).2.1
      omega
  have e1 : callN p (n + 7) t.th.f_read_thing [.d (.str (40 :: (w ++ [48, 41])))] h = _ := read_thing_run (n := n + 3) A.th _ hf (by simp [rl]; decide)
  have e2 : callN p (n + 7) t.th.f_read_thing [.d (.str (40 :: (w ++ [48, 32, 48, 41])))] h = _ := read_thing_run (n := n + 3) A.th _ hf (by simp [rl]; decide)
  rw [r1] at e1
  rw [r2] at e2
  have l1 : decide (1 ≤ line) = true := by decide
  have l2 : decide (2 ≤ line) = true := by decide
  have f1 : 1 + w.length ≤ line := by rw [rl]; decide
  have f2 : w.length + 1 + 2 ≤ line := by rw [rl]; decide
  have f3 : w.length + 1 + 4 ≤ line := by rw [rl]; decide
  have k1 : evalE (gAt p (n + 7) (fun _ => .bad) h.length) (.lam t.f_law_told (.call t.th.f_read_thing [(.bin .add (.slot 0) (.lit (.str [48, 41])))])) [some (.v (.d (.str (40 :: w)))), none] h = .ok (.d (.lst [.tup (zs 3999 (.int 0))])) h := by
    rw [E_lam]
    exact xtold_ok (n := n + 6) A hf _ _ (by simp [dataE, dataN, slotOf, f2, e1, resT])
  have k2 : evalE (gAt p (n + 7) (fun _ => .bad) h.length) (.lam t.f_law_told (.call t.th.f_read_thing [(.bin .add (.slot 0) (.lit (.str [48, 32, 48, 41])))])) [some (.v (.d (.str (40 :: w)))), none] h = .ok (.d (.tup [.str [116, 101, 120, 116], .int 1])) h := by
    rw [E_lam]
    exact xtold_text (n := n + 6) A hf _ _ (by simp [dataE, dataN, slotOf, f3, e2, resT])
  have m2 : binD .mul (.tup [.int 0]) (.int 3999) = some (.tup (zs 3999 (.int 0))) := mulT _ 3999 (by omega) (by omega)
  have q : eqD (.lst [.lst [.tup (zs 3999 (.int 0))], .tup [.str [116, 101, 120, 116], .int 1]]) (.lst [.lst [.tup (zs 3999 (.int 0))], .tup [.str [116, 101, 120, 116], .int 1]]) = some true := by
    obtain ⟨d1, d2, d3, d4⟩ := plain_depth a1
    have eq := D.eq_self a1
    unfold eqD
    simp only [isStr, apart, D.lay, D.lays, d4, D.depth, D.depths, D.eq, D.eqs, eq, List.length_cons, List.length_nil, bne_self_eq_false, Bool.and_self, Bool.false_eq_true, if_false]
    simp
    have d4' : D.lays (zs 3999 (.int 0)) = true := by simpa [D.lay] using d4
    have eq' : D.eqs (zs 3999 (.int 0)) (zs 3999 (.int 0)) = true := by simpa [D.eq] using eq
    have dd : D.depths (zs 3999 (.int 0)) + 1 ≤ lvl (.tup (zs 3999 (.int 0))) + 1 := by simpa [D.depth] using d1
    exact ⟨⟨d4', by omega⟩, eq'⟩
  simp [LxI.d_law_wide_right, startEnv, slotOf, setEnv, m1, f1, k1, k2, -E_lam, fits, l1, l2, m2, q, hf]
end
end Ev
end
section
/-! EvLx10: law k85: the law. -/
set_option autoImplicit false
set_option linter.all false
set_option maxRecDepth 100000
namespace Ev
def LxI.lwBody (t : LxI) : List S := match t.d_law.body with
  | [.for _ _ _ b, _, _] => b
  | _ => []
def LxI.inBody (t : LxI) : List S := match t.lwBody with
  | [_, _, .for _ _ _ b] => b
  | _ => []
theorem xlw_body (t : LxI) : t.d_law.body = [.for [1] .rng [(.bin .add (.lit (.int 5)) (.bi .min2 [(.bi .len [(.slot 0)]), (.lit (.int 4))]))] t.lwBody, .ite (.and (.cmp .eq (.bin .mod (.bi .int [(.bi .len [(.slot 0)])]) (.lit (.int 8))) (.lit (.int 0))) (.not (.call t.f_law_wide_right []))) [.ret (.lit (.bl false))] [], .ret (.call t.f_law_hand_right [])] := rfl
theorem xin_body (t : LxI) : t.lwBody = [.asg 2 (.call t.dr.f_law_begun [(.slot 0), (.slot 1)]), .asg 3 (.call t.lt.f_law_text [(.call t.f_law_thing [(.slot 2), (.lit (.int 4))])]), .for [4] .val [(.bin .add (.lst false [(.slot 3)]) (.comp false (.call t.f_law_bent [(.slot 2), (.slot 3)]) [5] [5] .rng [(.lit (.int 10))] []))] t.inBody] := rfl
def ShortT (y : D) : Prop := ∃ s : List Nat, y = .str s ∧ s.length ≤ 4000 ∧ s.count 40 ≤ 45
section
variable {t : LxI} {p : Prog} {n : Nat} {h : Heap}
theorem in_loop (A : t.At p) (hf : Fine h) (hp : 16000 ≤ p.fuel) (b : Nat) (e0 e1 e2 e3 e5 : Option NV) : ∀ (xs : List D) (e4 : Option NV), (∀ x ∈ xs, ShortT x) →
    ∃ e4', forGo (fun x env h => opt (setTg env [4] x) fun env' => evalSs (gAt p (n + 53) (fun _ => .bad) b) t.inBody env' h) xs [e0, e1, e2, e3, e4, e5] h = .ok (.next [e0, e1, e2, e3, e4', e5]) h
  | [], e4, _ => ⟨e4, by rw [forGo_nil]⟩
  | x :: xs, e4, hx => by
    obtain ⟨s, rfl, h1, h2⟩ := hx x (by simp)
    obtain ⟨e4', L⟩ := in_loop A hf hp b e0 e1 e2 e3 e5 xs (some (.v (.d (.str s)))) fun y hy => hx y (by simp [hy])
    refine ⟨e4', ?_⟩
    have r1 : callN p (n + 53) t.f_law_is_right [.d (.str s)] h = _ := xright_str (n := n + 1) A hf 45 s h1 hp h2
    have tg : setTg [e0, e1, e2, e3, e4, e5] [4] (.str s) = some [e0, e1, e2, e3, some (.v (.d (.str s))), e5] := rfl
    rw [forGo_cons, tg, opt_some]
    have st : evalSs (gAt p (n + 53) (fun _ => .bad) b) t.inBody [e0, e1, e2, e3, some (.v (.d (.str s))), e5] h = .ok (.next [e0, e1, e2, e3, some (.v (.d (.str s))), e5]) h := by
      rw [show t.inBody = [.ite (.not (.call t.f_law_is_right [(.slot 4)])) [.ret (.lit (.bl false))] []] from rfl]
      simp [slotOf, r1]
    rw [st, nxt_next, L]
theorem xlaw_step (A : t.At p) (hf : Fine h) (hp : 16000 ≤ p.fuel) (b : Nat) (ns : List Int) (hn : ns.length ≤ 1000) (k : Int) (e2 e3 e4 : Option NV) (e5 : Option NV) :
    ∃ e2' e3' e4' h', evalSs (gAt p (n + 53) (fun _ => .bad) b) t.lwBody [some (.v (.d (.lst (ns.map .int)))), some (.v (.d (.int k))), e2, e3, e4, e5] h =
      .ok (.next [some (.v (.d (.lst (ns.map .int)))), some (.v (.d (.int k))), e2', e3', e4', e5]) h' ∧ Fine h' := by
  obtain ⟨c, q1, S1⟩ := begun_run (n := n + 52) A.dr hf ns hn k 1000 (by decide)
  obtain ⟨x, H2, f2, g2, S2, l2⟩ := xthing_run (n := n + 46) A 4 500 _ h.length (S1.mono (by decide))
  have f2 : callN p (n + 53) t.f_law_thing [.ref h.length, .d (.int 4)] (h ++ [c]) = _ := f2
  have hs1 := g2.ln
  have hs2 := g2.ct
  have e1 : lb 4 = 2671 := rfl
  have e2' : tb 4 = 40 := rfl
  have nd := g2.sm.nd
  have e3' : nb 4 = 121 := rfl
  have f3 : callN p (n + 53) t.lt.f_law_text [.d x] H2 = _ := law_text_run (n := n + 32) A.lt S2.fine 20 x g2.sm.pl (by have := g2.sm.lv; omega) (by omega)
  have q10 := rng_small (r := 10) (by decide) (by decide)
  obtain ⟨ys, H3, f4, n3, p3, S3, l3⟩ := compGo_dr (f := fun x' H' => (callN p (n + 53) t.f_law_bent [.ref h.length, .d (.str (txt x))] H').bind fun v h => keep v fun y => .ok (some y) h) (P := ShortT) (m := h.length) (c := 7) (N := H2.length) (by
    intro y k H' S hl
    obtain ⟨s', H4, e4, g4, S4, l4⟩ := bent_run (n := n + 50) A S (txt x) (by omega)
    have e4 : callN p (n + 53) t.f_law_bent [.ref h.length, .d (.str (txt x))] H' = _ := e4
    exact ⟨.str s', H4, by rw [e4]; rfl, ⟨s', rfl, by have := g4.ln; omega, by have := g4.ct; omega⟩, S4, by omega⟩) (cnt (10 : Int).toNat) 100 H2 (S2.mono (by rw [cnt_len]; decide)) rfl
  have cF : ∀ f : D → Heap → Res (Option D), (∀ y H', f y H' = (callN p (n + 53) t.f_law_bent [.ref h.length, .d (.str (txt x))] H').bind fun v h => keep v fun y => .ok (some y) h) → compGo f (cnt (10 : Int).toNat) H2 = .ok ys H3 := by
    intro f hf
    rw [show f = _ from funext fun x => funext fun H' => hf x H']
    exact f4
  rw [cnt_len] at n3
  have n3' : ys.length = 10 := n3
  obtain ⟨e4', L⟩ := in_loop (n := n) A S3.fine hp b (some (.v (.d (.lst (ns.map .int))))) (some (.v (.d (.int k)))) (some (.v (.ref h.length))) (some (.v (.d (.str (txt x))))) e5 (.str (txt x) :: ys) e4 (by
    intro y hy
    rcases List.mem_cons.mp hy with rfl | hy
    · exact ⟨_, rfl, by omega, by omega⟩
    · exact p3 y hy)
  refine ⟨some (.v (.ref h.length)), some (.v (.d (.str (txt x)))), e4', H3, ?_, S3.fine⟩
  have l1 : decide (1 ≤ line) = true := by decide
  have l10 : decide (10 ≤ line) = true := by decide
  have l11 : 11 ≤ line := by decide
  rw [xin_body]
  have W : evalE (gAt p (n + 53) (fun _ => .bad) b) (.bin .add (.lst false [(.slot 3)]) (.comp false (.call t.f_law_bent [(.slot 2), (.slot 3)]) [5] [5] .rng [(.lit (.int 10))] [])) [some (.v (.d (.lst (ns.map .int)))), some (.v (.d (.int k))), some (.v (.ref h.length)), some (.v (.d (.str (txt x)))), e4, e5] H2 = .ok (.d (.lst (.str (txt x) :: ys))) H3 := by
    simp only [Es_cons, Es_nil, E_bin, E_lst, E_slot, E_comp, E_lit, slotOf, List.getElem?_cons_zero, List.getElem?_cons_succ, opt_some, Res.bind_ok, keeps_d, keeps_nil, Option.map_some, fits, List.length_cons, List.length_nil, Nat.zero_add, l1, need_true, Bool.false_eq_true, if_false, w_rng, intD_int, keep_d, q10]
    rw [cF]
    · simp [fits, n3', l10, l11]
    · intro y H'
      simp [wipeE, setTg, setEnv, slotOf]
  simp only [Ss_cons, S_asg, E_call, Es_cons, Es_nil, E_slot, E_lit, slotOf, List.getElem?_cons_zero, List.getElem?_cons_succ, opt_some, Res.bind_ok, gAt_call, q1, nxt_next, setEnv, List.set_cons_succ, List.set_cons_zero, f2, f3, S_for, W, w_val, items_lst, L, Ss_nil]
theorem xlaw_run (A : t.At p) (hp : 16000 ≤ p.fuel) (ns : List Int) (hn : ns.length ≤ 1000) : ∃ h', callN p (n + 54) t.f_law [.d (.lst (ns.map .int))] [] = .ok (.d (.bl true)) h' := by
  rw [callN_run A.law rfl, xlw_body]
  obtain ⟨j, hj, q⟩ : ∃ j : Int, (if 4 < (ns.length : Int) then (4 : Int) else ns.length) = j ∧ rngD 0 (5 + j) = some (cnt (5 + j).toNat) := by
    refine ⟨_, rfl, rng_small ?_ ?_⟩ <;> split <;> omega
  obtain ⟨env', h', L, F, e2, e3, e4, e5, e6, rfl⟩ := forGo_inv (f := fun x env h => opt (setTg env [1] x) fun env' => evalSs (gAt p (n + 53) (fun _ => .bad) 0) t.lwBody env' h)
    (fun _ env h => Fine h ∧ ∃ e1 e2 e3 e4 e5, env = [some (.v (.d (.lst (ns.map .int)))), e1, e2, e3, e4, e5]) (cnt (5 + j).toNat) 0 [some (.v (.d (.lst (ns.map .int)))), none, none, none, none, none] [] ⟨fine_nil, _, _, _, _, _, rfl⟩ (by
      intro i x env h hx ⟨hf, e1, e2, e3, e4, e5, he⟩
      subst he
      have : ∃ k : Int, x = .int k := by
        unfold cnt at hx
        rw [List.getElem?_map] at hx
        cases hr : (List.range (5 + j).toNat)[i]? with
        | none => rw [hr] at hx; cases hx
        | some k => rw [hr] at hx; exact ⟨_, (Option.some.inj hx).symm⟩
      obtain ⟨k, rfl⟩ := this
      obtain ⟨a, b, c, h', e, hf'⟩ := xlaw_step (n := n) A hf hp 0 ns hn k e2 e3 e4 e5
      exact ⟨_, h', e, hf', _, _, _, _, _, rfl⟩)
  have w : callN p (n + 53) t.f_law_wide_right [] h' = _ := xwide_run (n := n + 45) A F
  have b := hand_run (n := n) A F hp
  have fin0 : ∀ v, leave 0 (.ok (.d v) h') = .ok (.d v) [] := fun v => rfl
  refine ⟨[], ?_⟩
  simp only [startEnv, show t.d_law.ns = 6 from rfl, show t.d_law.ps = 1 from rfl, List.map_cons, List.map_nil, List.cons_append, List.nil_append, List.replicate, Nat.sub, Ss_cons, S_for, List.length_nil]
  have R : evalEs (gAt p (n + 53) (fun _ => .bad) 0) [(.bin .add (.lit (.int 5)) (.bi .min2 [(.bi .len [(.slot 0)]), (.lit (.int 4))]))] [some (.v (.d (.lst (ns.map .int)))), none, none, none, none, none] [] = .ok [.d (.int (5 + j))] [] := by
    simp [slotOf, hj]
  rw [R]
  simp only [Res.bind_ok, w_rng, q, opt_some]
  rw [L]
  by_cases z : (ns.length : Int) % 8 = 0 <;> simp [slotOf, z, eqD_int, w, b, fin0]
end
end Ev
end
section
/-! printed by gen2.py -/
set_option autoImplicit false
set_option linter.all false
set_option maxRecDepth 100000
set_option Elab.async false
namespace K85
open Ev
def top (i : Nat) : PySem.Stmt := PySem.Challenge.pw_worksward_k85_any_text_as_a_thing.main.body.getD i (.Pass ⟨0, 0, 0, 0⟩)
/-- is_word: 0 thing 1 sign -/
def d_is_word : Def := ⟨1, 2, [.ite (.or (.not (.isi (.slot 0) .str)) (.not (.chain .le .le (.lit (.int 1)) (.bi .len [(.slot 0)]) (.glob 6)))) [.ret (.lit (.bl false))] [], .ret (.bi .all [(.comp false (.cmp .isin (.slot 1) (.glob 4)) [1] [1] .val [(.slot 0)] [])])]⟩
/-- is_plain: 0 thing -/
def d_is_plain : Def := ⟨1, 1, [.ite (.or (.cmp .is (.slot 0) (.lit .non)) (.or (.isi (.slot 0) .bool) (.call 0 [(.slot 0)]))) [.ret (.lit (.bl true))] [], .ret (.and (.isi (.slot 0) .int) (.cmp .lt (.bi .abs [(.slot 0)]) (.bin .pow (.lit (.int 10)) (.lit (.int 31)))))]⟩
/-- is_thing: 0 value 1 layer 2 many 3 deep 4 one 5 inner -/
def d_is_thing : Def := ⟨1, 6, [.par 1 2 (.lst false [(.slot 0)]) (.lit (.int 0)), .for [3] .rng [(.bin .add (.glob 8) (.lit (.int 1)))] [.asg 2 (.bin .add (.slot 2) (.bi .len [(.slot 1)])), .ite (.or (.cmp .gt (.slot 2) (.glob 9)) (.not (.bi .all [(.comp false (.or (.isi (.slot 4) .tuple) (.call 1 [(.slot 4)])) [4] [4] .val [(.slot 1)] [])]))) [.ret (.lit (.bl false))] [], .asg 1 (.comp2 false (.slot 5) [4, 5] [4] .val [(.slot 1)] [(.isi (.slot 4) .tuple)] [5] .val [(.slot 4)] []), .ite (.cmp .eq (.slot 1) (.lst false [])) [.ret (.lit (.bl true))] []], .ret (.lit (.bl false))]⟩
/-- plain_text: 0 thing -/
def d_plain_text : Def := ⟨1, 1, [.ite (.or (.cmp .is (.slot 0) (.lit .non)) (.isi (.slot 0) .bool)) [.ret (.idx (.glob 3) (.slot 0))] [], .ret (.ite (.isi (.slot 0) .str) (.slot 0) (.bi .str [(.slot 0)]))]⟩
/-- text_of: 0 thing 1 found 2 left 3 one 4 number 5 inner -/
def d_text_of : Def := ⟨1, 6, [.par 1 2 (.lst true []) (.lst true [(.slot 0)]), .while (.cmp .ne (.slot 2) (.lst false [])) [.asg 3 (.mt .pop (.slot 2) []), .ite (.isi (.slot 3) .tuple) [.expr (.mt .append (.slot 2) [(.glob 2)]), .for [4, 5] .enum [(.rev (.slot 3))] [.expr (.mt .extend (.slot 2) [(.ite (.cmp .lt (.bin .add (.slot 4) (.lit (.int 1))) (.bi .len [(.slot 3)])) (.lst false [(.slot 5), (.glob 0)]) (.lst false [(.slot 5)]))])], .expr (.mt .append (.slot 1) [(.glob 1)])] [.expr (.mt .append (.slot 1) [(.ite (.cmp .isin (.slot 3) (.tup [(.glob 0), (.glob 2)])) (.slot 3) (.call 3 [(.slot 3)]))])]], .ret (.mt .join (.lit (.str [])) [(.frz (.slot 1))])]⟩
/-- thing_text: 0 thing -/
def d_thing_text : Def := ⟨1, 1, [.ite (.not (.call 2 [(.slot 0)])) [.raise 1 [(.lit (.str [110, 111, 32, 116, 104, 105, 110, 103]))]] [], .ret (.call 4 [(.slot 0)])]⟩
/-- parts_of: 0 string 1 found 2 piece 3 sign -/
def d_parts_of : Def := ⟨1, 4, [.par 1 2 (.lst true []) (.lit (.str [])), .for [3] .val [(.slot 0)] [.ite (.cmp .isin (.slot 3) (.tup [(.glob 0), (.glob 1), (.glob 2)])) [.expr (.mt .extend (.slot 1) [(.ite (.cmp .ne (.slot 2) (.lit (.str []))) (.lst false [(.slot 2), (.slot 3)]) (.lst false [(.slot 3)]))]), .asg 2 (.lit (.str []))] [.asg 2 (.bin .add (.slot 2) (.slot 3))]], .ret (.ite (.cmp .ne (.slot 2) (.lit (.str []))) (.bin .add (.slot 1) (.lst false [(.slot 2)])) (.frz (.slot 1)))]⟩
/-- plain_of: 0 piece 1 thing 2 figures 3 sign -/
def d_plain_of : Def := ⟨1, 4, [.for [1] .val [(.tup [(.lit .non), (.lit (.bl true)), (.lit (.bl false))])] [.ite (.cmp .eq (.slot 0) (.idx (.glob 3) (.slot 1))) [.ret (.tup [(.lit (.bl true)), (.slot 1)])] []], .ite (.call 0 [(.slot 0)]) [.ret (.tup [(.lit (.bl true)), (.slot 0)])] [], .asg 2 (.ite (.cmp .eq (.sliH (.slot 0) (.lit (.int 1))) (.lit (.str [45]))) (.sliL (.slot 0) (.lit (.int 1))) (.slot 0)), .ite (.or (.not (.chain .le .le (.lit (.int 1)) (.bi .len [(.slot 2)]) (.glob 7))) (.not (.bi .all [(.comp false (.cmp .isin (.slot 3) (.glob 5)) [3] [3] .val [(.slot 2)] [])]))) [.ret (.tup [(.lit (.bl false)), (.lit .non)])] [], .ret (.tup [(.cmp .eq (.bi .str [(.bi .int [(.slot 0)])]) (.slot 0)), (.bi .int [(.slot 0)])])]⟩
/-- written: 0 parts 1 rows 2 is_due 3 piece 4 row 5 is_right 6 thing -/
def d_written : Def := ⟨1, 7, [.par 1 2 (.rws (.lst true [])) (.lit (.bl true)), .for [3] .val [(.slot 0)] [.ite (.cmp .eq (.slot 3) (.glob 0)) [.ite (.or (.slot 2) (.cmp .eq (.bi .len [(.slot 1)]) (.lit (.int 1)))) [.ret (.lst false [])] [], .asg 2 (.lit (.bl true))] [.ite (.cmp .eq (.slot 3) (.glob 2)) [.ite (.or (.cmp .eq (.bi .len [(.slot 1)]) (.lit (.int 1))) (.and (.slot 2) (.cmp .ne (.idx (.slot 1) (.neg (.lit (.int 1)))) (.lst false [])))) [.ret (.lst false [])] [], .asg 4 (.bi .tuple [(.mt .pop (.slot 1) [])]), .expr (.mt .append (.idx (.slot 1) (.neg (.lit (.int 1)))) [(.slot 4)]), .asg 2 (.lit (.bl false))] [.ite (.not (.slot 2)) [.ret (.lst false [])] [.ite (.cmp .eq (.slot 3) (.glob 1)) [.expr (.mt .append (.slot 1) [(.lst true [])])] [.asgT [5, 6] (.call 7 [(.slot 3)]), .ite (.not (.slot 5)) [.ret (.lst false [])] [], .expr (.mt .append (.idx (.slot 1) (.neg (.lit (.int 1)))) [(.slot 6)]), .asg 2 (.lit (.bl false))]]]]], .ret (.ite (.cmp .eq (.bi .len [(.slot 1)]) (.lit (.int 1))) (.frz (.idx (.slot 1) (.lit (.int 0)))) (.lst false []))]⟩
/-- read_thing: 0 string 1 found -/
def d_read_thing : Def := ⟨1, 2, [.ite (.not (.isi (.slot 0) .str)) [.raise 0 [(.lit (.int 0))]] [], .asg 1 (.call 8 [(.call 6 [(.slot 0)])]), .ite (.or (.cmp .ne (.bi .len [(.slot 1)]) (.lit (.int 1))) (.not (.call 2 [(.idx (.slot 1) (.lit (.int 0)))]))) [.raise 0 [(.lit (.int 1))]] [], .ret (.idx (.slot 1) (.lit (.int 0)))]⟩
/-- _law_begun: 0 _law_script 1 _law_k 2 _law_cells 3 _law_great 4 _law_seed 5 _law_cell -/
def d_law_begun : Def := ⟨2, 6, [.asg 2 (.bin .add (.sliL (.slot 0) (.slot 1)) (.sliH (.slot 0) (.slot 1))), .asg 3 (.comp false (.slot 5) [5] [5] .val [(.slot 2)] [(.cmp .ge (.slot 5) (.bin .pow (.lit (.int 10)) (.lit (.int 18))))]), .asg 4 (.bin .add (.lit (.int 97)) (.slot 1)), .for [5] .val [(.slot 2)] [.asg 4 (.bin .mod (.bi .int [(.bin .add (.bin .mul (.slot 4) (.lit (.int 48271))) (.slot 5))]) (.lit (.int 2147483647)))], .ret (.dct true [(.lit (.str [108, 101, 102, 116])), (.ite (.cmp .ne (.slot 3) (.lst false [])) (.idx (.slot 3) (.lit (.int 0))) (.lit (.int 0))), (.lit (.str [115, 101, 101, 100])), (.slot 4), (.lit (.str [99, 101, 108, 108, 115])), (.bin .add (.slot 2) (.lst false [(.bin .add (.bin .mul (.lit (.int 31)) (.slot 1)) (.lit (.int 5)))])), (.lit (.str [115, 112, 111, 116])), (.lit (.int 0))])]⟩
/-- _law_draw: 0 _law_m 1 _law_many 2 _law_found 3 _law_spot 4 _law_cells 5 _law_added 6 _law_cell 7 _law_blend -/
def d_law_draw : Def := ⟨2, 8, [.ite (.cmp .gt (.idx (.slot 0) (.lit (.str [108, 101, 102, 116]))) (.lit (.int 0))) [.asg 2 (.bin .mod (.bi .int [(.idx (.slot 0) (.lit (.str [108, 101, 102, 116])))]) (.slot 1)), .sets (.slot 0) (.lit (.str [108, 101, 102, 116])) (.bin .fdiv (.idx (.slot 0) (.lit (.str [108, 101, 102, 116]))) (.slot 1)), .ret (.slot 2)] [], .asg 3 (.idx (.slot 0) (.lit (.str [115, 112, 111, 116]))), .sets (.slot 0) (.lit (.str [115, 112, 111, 116])) (.bin .add (.slot 3) (.lit (.int 1))), .par 4 5 (.idx (.slot 0) (.lit (.str [99, 101, 108, 108, 115]))) (.bin .add (.idx (.slot 0) (.lit (.str [115, 101, 101, 100]))) (.bin .mul (.bin .mul (.lit (.int 40503)) (.slot 3)) (.slot 3))), .asg 6 (.idx (.slot 4) (.bin .mod (.bi .int [(.slot 3)]) (.bi .len [(.slot 4)]))), .asg 7 (.bin .mod (.bi .int [(.bin .add (.bin .mul (.slot 6) (.bin .add (.bin .mul (.lit (.int 2)) (.slot 3)) (.lit (.int 3)))) (.slot 5))]) (.lit (.int 2147483647))), .asg 7 (.bin .mod (.bi .int [(.bin .add (.bin .add (.bin .mul (.slot 7) (.slot 7)) (.bin .mul (.lit (.int 69621)) (.slot 3))) (.idx (.slot 0) (.lit (.str [115, 101, 101, 100]))))]) (.lit (.int 2147483629))), .ret (.bin .mod (.bin .fdiv (.bin .mod (.bi .int [(.bin .add (.bin .mul (.slot 7) (.lit (.int 48271))) (.slot 3))]) (.lit (.int 2147483647))) (.lit (.int 11))) (.slot 1))]⟩
/-- _law_of: 0 _law_m 1 _law_some -/
def d_law_of : Def := ⟨2, 2, [.ret (.idx (.slot 1) (.call 11 [(.slot 0), (.bi .len [(.slot 1)])]))]⟩
/-- _law_thing: 0 _law_m 1 _law_deep 2 _law_some 3 _law_k -/
def d_law_thing : Def := ⟨2, 4, [.ite (.or (.cmp .eq (.slot 1) (.lit (.int 0))) (.cmp .eq (.call 11 [(.slot 0), (.lit (.int 4))]) (.lit (.int 0)))) [.asg 2 (.lst false [(.lit (.int 0)), (.lit (.int 1)), (.neg (.lit (.int 1))), (.lit (.int 10)), (.neg (.lit (.int 30))), (.bin .sub (.call 11 [(.slot 0), (.lit (.int 1000))]) (.lit (.int 500))), (.bin .pow (.lit (.int 10)) (.lit (.int 30))), (.lit .non), (.lit (.bl true)), (.lit (.bl false)), (.lit (.str [97])), (.lit (.str [122])), (.lit (.str [107, 101, 112, 116]))]), .ret (.call 12 [(.slot 0), (.bin .add (.slot 2) (.lst false [(.lit (.str [97, 98, 99, 100, 101, 102, 103, 104, 105, 106, 107, 108]))]))])] [], .ret (.bi .tuple [(.comp false (.call 13 [(.slot 0), (.bin .sub (.slot 1) (.lit (.int 1)))]) [3] [3] .rng [(.call 11 [(.slot 0), (.lit (.int 4))])] [])])]⟩
/-- _law_text: 0 _law_thing_here 1 _law_one -/
def d_law_text : Def := ⟨1, 2, [.ite (.isi (.slot 0) .tuple) [.ret (.bin .add (.bin .add (.lit (.str [40])) (.mt .join (.lit (.str [32])) [(.comp false (.call 14 [(.slot 1)]) [1] [1] .val [(.slot 0)] [])])) (.lit (.str [41])))] [], .ite (.cmp .is (.slot 0) (.lit .non)) [.ret (.lit (.str [46]))] [], .ite (.isi (.slot 0) .bool) [.ret (.ite (.slot 0) (.lit (.str [43])) (.lit (.str [45])))] [], .ret (.bi .str [(.slot 0)])]⟩
/-- _law_piece: 0 _law_piece_here 1 _law_letters 2 _law_figures 3 _law_sign -/
def d_law_piece : Def := ⟨1, 4, [.ite (.cmp .isin (.slot 0) (.tup [(.lit (.str [46])), (.lit (.str [43])), (.lit (.str [45]))])) [.ret (.lst false [(.idx (.dct false [(.lit (.str [46])), (.lit .non), (.lit (.str [43])), (.lit (.bl true)), (.lit (.str [45])), (.lit (.bl false))]) (.slot 0))])] [], .asg 1 (.comp false (.slot 3) [3] [3] .val [(.slot 0)] [(.cmp .isin (.slot 3) (.lit (.str [97, 98, 99, 100, 101, 102, 103, 104, 105, 106, 107, 108, 109, 110, 111, 112, 113, 114, 115, 116, 117, 118, 119, 120, 121, 122])))]), .ite (.cmp .eq (.bi .len [(.slot 1)]) (.bi .len [(.slot 0)])) [.ret (.ite (.chain .le .le (.lit (.int 1)) (.bi .len [(.slot 0)]) (.lit (.int 12))) (.lst false [(.slot 0)]) (.lst false []))] [], .asg 2 (.ite (.cmp .eq (.sliH (.slot 0) (.lit (.int 1))) (.lit (.str [45]))) (.sliL (.slot 0) (.lit (.int 1))) (.slot 0)), .ite (.or (.cmp .ne (.comp false (.slot 3) [3] [3] .val [(.slot 2)] [(.cmp .notin (.slot 3) (.lit (.str [48, 49, 50, 51, 52, 53, 54, 55, 56, 57])))]) (.lst false [])) (.not (.chain .le .le (.lit (.int 1)) (.bi .len [(.slot 2)]) (.lit (.int 31))))) [.ret (.lst false [])] [], .ite (.and (.cmp .eq (.idx (.slot 2) (.lit (.int 0))) (.lit (.str [48]))) (.or (.cmp .gt (.bi .len [(.slot 2)]) (.lit (.int 1))) (.cmp .eq (.sliH (.slot 0) (.lit (.int 1))) (.lit (.str [45]))))) [.ret (.lst false [])] [], .ret (.lst false [(.bi .int [(.slot 0)])])]⟩
/-- _law_read: 0 _law_text_here 1 _law_at 2 _law_end 3 _law_found 4 _law_here 5 _law_one -/
def d_law_read : Def := ⟨2, 6, [.ite (.cmp .ne (.sliB (.slot 0) (.slot 1) (.bin .add (.slot 1) (.lit (.int 1)))) (.lit (.str [40]))) [.asg 2 (.slot 1), .while (.and (.cmp .lt (.slot 2) (.bi .len [(.slot 0)])) (.cmp .notin (.idx (.slot 0) (.slot 2)) (.lit (.str [32, 40, 41])))) [.asg 2 (.bin .add (.slot 2) (.lit (.int 1)))], .ret (.tup [(.call 15 [(.sliB (.slot 0) (.slot 1) (.slot 2))]), (.slot 2)])] [], .par 3 4 (.lst true []) (.bin .add (.slot 1) (.lit (.int 1))), .ite (.cmp .eq (.sliB (.slot 0) (.slot 4) (.bin .add (.slot 4) (.lit (.int 1)))) (.lit (.str [41]))) [.ret (.tup [(.lst false [(.tup [])]), (.bin .add (.slot 4) (.lit (.int 1)))])] [], .while (.lit (.bl true)) [.asgT [5, 4] (.call 16 [(.slot 0), (.slot 4)]), .ite (.or (.cmp .eq (.slot 5) (.lst false [])) (.cmp .notin (.sliB (.slot 0) (.slot 4) (.bin .add (.slot 4) (.lit (.int 1)))) (.tup [(.lit (.str [32])), (.lit (.str [41]))]))) [.ret (.tup [(.lst false []), (.slot 4)])] [], .expr (.mt .append (.slot 3) [(.idx (.slot 5) (.lit (.int 0)))]), .ite (.cmp .eq (.idx (.slot 0) (.slot 4)) (.lit (.str [41]))) [.ret (.tup [(.lst false [(.bi .tuple [(.slot 3)])]), (.bin .add (.slot 4) (.lit (.int 1)))])] [], .asg 4 (.bin .add (.slot 4) (.lit (.int 1)))]]⟩
/-- _law_depth: 0 _law_thing_here 1 _law_one -/
def d_law_depth : Def := ⟨1, 2, [.ite (.or (.not (.isi (.slot 0) .tuple)) (.cmp .eq (.slot 0) (.tup []))) [.ret (.lit (.int 0))] [], .ret (.bin .add (.lit (.int 1)) (.bi .maxL [(.comp false (.call 17 [(.slot 1)]) [1] [1] .val [(.slot 0)] [])]))]⟩
/-- _law_due: 0 _law_text_here 1 _law_found 2 _law_here -/
def d_law_due : Def := ⟨1, 3, [.ite (.not (.isi (.slot 0) .str)) [.ret (.tup [(.lit (.str [116, 101, 120, 116])), (.lit (.int 0))])] [], .asgT [1, 2] (.call 16 [(.slot 0), (.lit (.int 0))]), .ite (.or (.cmp .eq (.slot 1) (.lst false [])) (.or (.cmp .ne (.slot 2) (.bi .len [(.slot 0)])) (.cmp .gt (.call 17 [(.idx (.slot 1) (.lit (.int 0)))]) (.lit (.int 20))))) [.ret (.tup [(.lit (.str [116, 101, 120, 116])), (.lit (.int 1))])] [], .ret (.slot 1)]⟩
/-- _law_told: 0 _law_call 1 _law_found 2 e -/
def d_law_told : Def := ⟨1, 3, [.asg 1 (.tup [(.lit (.str [111, 100, 100])), (.lit .non)]), .tri (.asg 1 (.lst false [(.act 0)])) [(0, some 2)] [[.asg 1 (.tup [(.lit (.str [116, 101, 120, 116])), (.exf 2)])]], .ret (.slot 1)]⟩
/-- _law_bent: 0 _law_m 1 _law_text_here 2 _law_turn 3 _law_at 4 _law_way 5 _law_sign -/
def d_law_bent : Def := ⟨2, 6, [.for [2] .rng [(.bin .add (.lit (.int 1)) (.call 11 [(.slot 0), (.lit (.int 2))]))] [.par3 3 4 5 (.call 11 [(.slot 0), (.bin .add (.bi .len [(.slot 1)]) (.lit (.int 1)))]) (.call 11 [(.slot 0), (.lit (.int 4))]) (.call 12 [(.slot 0), (.bi .list [(.lit (.str [32, 40, 41, 43, 45, 46, 48, 49, 57, 97, 122, 65, 44]))])]), .ite (.cmp .eq (.slot 4) (.lit (.int 0))) [.asg 1 (.bin .add (.sliH (.slot 1) (.slot 3)) (.sliL (.slot 1) (.bin .add (.slot 3) (.lit (.int 1)))))] [.ite (.cmp .eq (.slot 4) (.lit (.int 1))) [.asg 1 (.bin .add (.bin .add (.sliH (.slot 1) (.slot 3)) (.slot 5)) (.sliL (.slot 1) (.slot 3)))] [.ite (.cmp .eq (.slot 4) (.lit (.int 2))) [.asg 1 (.bin .add (.bin .add (.sliH (.slot 1) (.slot 3)) (.slot 5)) (.sliL (.slot 1) (.bin .add (.slot 3) (.lit (.int 1)))))] [.asg 1 (.bin .add (.bin .add (.sliH (.slot 1) (.slot 3)) (.sliB (.slot 1) (.slot 3) (.bin .add (.slot 3) (.lit (.int 1))))) (.sliL (.slot 1) (.slot 3)))]]]], .ret (.slot 1)]⟩
/-- _law_is_right: 0 _law_text_here 1 _law_due_here -/
def d_law_is_right : Def := ⟨1, 2, [.asg 1 (.call 18 [(.slot 0)]), .ite (.cmp .ne (.bi .repr [(.lst false [(.lam 19 (.call 9 [(.slot 0)])), (.lam 19 (.call 9 [(.slot 0)]))])]) (.bi .repr [(.lst false [(.slot 1), (.slot 1)])])) [.ret (.lit (.bl false))] [], .ret (.or (.not (.isi (.slot 1) .list)) (.cmp .eq (.call 5 [(.idx (.slot 1) (.lit (.int 0)))]) (.slot 0)))]⟩
/-- _law_hand_right: 0 _law_rows 1 _law_wrong 2 _law_text_here 3 _law_due_here -/
def d_law_hand_right : Def := ⟨0, 4, [.asg 0 (.lst true [(.tup [(.lit (.str [48])), (.lst false [(.lit (.int 0))])]), (.tup [(.lit (.str [45, 49])), (.lst false [(.neg (.lit (.int 1)))])]), (.tup [(.lit (.str [45])), (.lst false [(.lit (.bl false))])]), (.tup [(.lit (.str [43])), (.lst false [(.lit (.bl true))])]), (.tup [(.lit (.str [46])), (.lst false [(.lit .non)])]), (.tup [(.lit (.str [97])), (.lst false [(.lit (.str [97]))])]), (.tup [(.lit (.str [40, 41])), (.lst false [(.tup [])])])]), .asg 0 (.catM (.slot 0) (.lst false [(.tup [(.lit (.str [40, 48, 41])), (.lst false [(.tup [(.lit (.int 0))])])]), (.tup [(.lit (.str [40, 48, 32, 49, 41])), (.lst false [(.tup [(.lit (.int 0)), (.lit (.int 1))])])]), (.tup [(.lit (.str [40, 40, 41, 32, 45, 41])), (.lst false [(.tup [(.tup []), (.lit (.bl false))])])])])), .expr (.mt .append (.slot 0) [(.tup [(.lit (.str [40, 40, 97, 41, 32, 40, 98, 32, 46, 41, 41])), (.lst false [(.tup [(.tup [(.lit (.str [97]))]), (.tup [(.lit (.str [98])), (.lit .non)])])])])]), .asg 1 (.lst false [(.lit (.str [])), (.lit (.str [32])), (.lit (.str [40])), (.lit (.str [41])), (.lit (.str [40, 48])), (.lit (.str [48, 41])), (.lit (.str [48, 48])), (.lit (.str [45, 48])), (.lit (.str [48, 49])), (.lit (.str [43, 49])), (.lit (.str [45, 45])), (.lit (.str [46, 46])), (.lit (.str [48, 32, 49])), (.lit (.str [40, 48, 32, 32, 49, 41])), (.lit (.str [40, 32, 48, 41])), (.lit (.str [40, 48, 32, 41])), (.lit (.str [65]))]), .asg 1 (.bin .add (.slot 1) (.lst false [(.lit (.str [97, 49])), (.lit (.str [49, 97])), (.lit (.str [97, 45])), (.lit (.str [40, 48, 44, 49, 41])), (.lit (.str [40, 41, 40, 41])), (.lit (.str [40, 41, 32])), (.lit (.str [32, 40, 41])), (.lit (.str [40, 40, 41])), (.lit (.str [40, 41, 41])), (.lit (.str [48, 10])), (.lit (.str [97, 98, 99, 100, 101, 102, 103, 104, 105, 106, 107, 108, 109])), (.lit (.str [40, 45, 32, 45, 48, 41]))])), .asg 0 (.catM (.slot 0) (.comp false (.tup [(.slot 2), (.tup [(.lit (.str [116, 101, 120, 116])), (.lit (.int 1))])]) [2] [2] .val [(.bin .add (.slot 1) (.lst false [(.bin .mul (.lit (.str [57])) (.lit (.int 32)))]))] [])), .asg 0 (.catM (.slot 0) (.lst false [(.tup [(.bin .mul (.lit (.str [57])) (.lit (.int 31))), (.lst false [(.bin .sub (.bin .pow (.lit (.int 10)) (.lit (.int 31))) (.lit (.int 1)))])]), (.tup [(.bin .add (.lit (.str [45])) (.bin .mul (.lit (.str [57])) (.lit (.int 31)))), (.lst false [(.bin .sub (.lit (.int 1)) (.bin .pow (.lit (.int 10)) (.lit (.int 31))))])]), (.tup [(.bin .add (.bin .mul (.lit (.str [40])) (.lit (.int 19))) (.bin .mul (.lit (.str [41])) (.lit (.int 19)))), (.lit .non)])])), .asg 0 (.catM (.slot 0) (.lst false [(.tup [(.bin .add (.bin .mul (.lit (.str [40])) (.lit (.int 26))) (.bin .mul (.lit (.str [41])) (.lit (.int 26)))), (.tup [(.lit (.str [116, 101, 120, 116])), (.lit (.int 1))])]), (.tup [(.lit .non), (.tup [(.lit (.str [116, 101, 120, 116])), (.lit (.int 0))])]), (.tup [(.lit (.int 7)), (.tup [(.lit (.str [116, 101, 120, 116])), (.lit (.int 0))])]), (.tup [(.lst false [(.lit (.str [48]))]), (.tup [(.lit (.str [116, 101, 120, 116])), (.lit (.int 0))])])])), .for [2, 3] .val [(.bin .add (.slot 0) (.lst false [(.tup [(.tup []), (.tup [(.lit (.str [116, 101, 120, 116])), (.lit (.int 0))])])]))] [.ite (.or (.and (.cmp .isNot (.slot 3) (.lit .non)) (.cmp .ne (.bi .repr [(.call 18 [(.slot 2)])]) (.bi .repr [(.slot 3)]))) (.not (.call 21 [(.slot 2)]))) [.ret (.lit (.bl false))] []], .ret (.lit (.bl true))]⟩
/-- _law_wide_right: 0 _law_text_here 1 _law_told_here -/
def d_law_wide_right : Def := ⟨0, 2, [.asg 0 (.bin .add (.lit (.str [40])) (.bin .mul (.lit (.str [48, 32])) (.lit (.int 3998)))), .asg 1 (.lst false [(.lam 19 (.call 9 [(.bin .add (.slot 0) (.lit (.str [48, 41])))])), (.lam 19 (.call 9 [(.bin .add (.slot 0) (.lit (.str [48, 32, 48, 41])))]))]), .ret (.cmp .eq (.slot 1) (.lst false [(.lst false [(.bin .mul (.tup [(.lit (.int 0))]) (.lit (.int 3999)))]), (.tup [(.lit (.str [116, 101, 120, 116])), (.lit (.int 1))])]))]⟩
/-- law: 0 _law_script 1 _law_k 2 _law_m 3 _law_text_here 4 _law_far 5 _law_turn -/
def d_law : Def := ⟨1, 6, [.for [1] .rng [(.bin .add (.lit (.int 5)) (.bi .min2 [(.bi .len [(.slot 0)]), (.lit (.int 4))]))] [.asg 2 (.call 10 [(.slot 0), (.slot 1)]), .asg 3 (.call 14 [(.call 13 [(.slot 2), (.lit (.int 4))])]), .for [4] .val [(.bin .add (.lst false [(.slot 3)]) (.comp false (.call 20 [(.slot 2), (.slot 3)]) [5] [5] .rng [(.lit (.int 10))] []))] [.ite (.not (.call 21 [(.slot 4)])) [.ret (.lit (.bl false))] []]], .ite (.and (.cmp .eq (.bin .mod (.bi .int [(.bi .len [(.slot 0)])]) (.lit (.int 8))) (.lit (.int 0))) (.not (.call 23 []))) [.ret (.lit (.bl false))] [], .ret (.call 22 [])]⟩
def dis : List DI := [
  ⟨"is_word", ["thing", "sign"], 1, top 14, d_is_word, false, false⟩,
  ⟨"is_plain", ["thing"], 1, top 15, d_is_plain, false, false⟩,
  ⟨"is_thing", ["value", "layer", "many", "deep", "one", "inner"], 1, top 16, d_is_thing, false, false⟩,
  ⟨"plain_text", ["thing"], 1, top 17, d_plain_text, false, false⟩,
  ⟨"text_of", ["thing", "found", "left", "one", "number", "inner"], 1, top 18, d_text_of, false, false⟩,
  ⟨"thing_text", ["thing"], 1, top 19, d_thing_text, false, false⟩,
  ⟨"parts_of", ["string", "found", "piece", "sign"], 1, top 20, d_parts_of, false, false⟩,
  ⟨"plain_of", ["piece", "thing", "figures", "sign"], 1, top 21, d_plain_of, false, false⟩,
  ⟨"written", ["parts", "rows", "is_due", "piece", "row", "is_right", "thing"], 1, top 22, d_written, false, false⟩,
  ⟨"read_thing", ["string", "found"], 1, top 23, d_read_thing, false, false⟩,
  ⟨"_law_begun", ["_law_script", "_law_k", "_law_cells", "_law_great", "_law_seed", "_law_cell"], 2, top 25, d_law_begun, false, false⟩,
  ⟨"_law_draw", ["_law_m", "_law_many", "_law_found", "_law_spot", "_law_cells", "_law_added", "_law_cell", "_law_blend"], 2, top 26, d_law_draw, false, false⟩,
  ⟨"_law_of", ["_law_m", "_law_some"], 2, top 27, d_law_of, false, false⟩,
  ⟨"_law_thing", ["_law_m", "_law_deep", "_law_some", "_law_k"], 2, top 28, d_law_thing, false, false⟩,
  ⟨"_law_text", ["_law_thing_here", "_law_one"], 1, top 29, d_law_text, false, false⟩,
  ⟨"_law_piece", ["_law_piece_here", "_law_letters", "_law_figures", "_law_sign"], 1, top 30, d_law_piece, false, false⟩,
  ⟨"_law_read", ["_law_text_here", "_law_at", "_law_end", "_law_found", "_law_here", "_law_one"], 2, top 31, d_law_read, false, false⟩,
  ⟨"_law_depth", ["_law_thing_here", "_law_one"], 1, top 32, d_law_depth, false, false⟩,
  ⟨"_law_due", ["_law_text_here", "_law_found", "_law_here"], 1, top 33, d_law_due, false, false⟩,
  ⟨"_law_told", ["_law_call", "_law_found", "e"], 1, top 34, d_law_told, true, false⟩,
  ⟨"_law_bent", ["_law_m", "_law_text_here", "_law_turn", "_law_at", "_law_way", "_law_sign"], 2, top 35, d_law_bent, false, false⟩,
  ⟨"_law_is_right", ["_law_text_here", "_law_due_here"], 1, top 36, d_law_is_right, false, true⟩,
  ⟨"_law_hand_right", ["_law_rows", "_law_wrong", "_law_text_here", "_law_due_here"], 0, top 37, d_law_hand_right, false, false⟩,
  ⟨"_law_wide_right", ["_law_text_here", "_law_told_here"], 0, top 38, d_law_wide_right, false, true⟩,
  ⟨"law", ["_law_script", "_law_k", "_law_m", "_law_text_here", "_law_far", "_law_turn"], 1, top 39, d_law, false, false⟩]
def xs : List XI := [⟨"BadText", (some "line"), .value⟩, ⟨"OutOfPlace", none, .value⟩]
def gl : List (PySem.Str × D) := [("BLANK", (.str [32])), ("OPEN", (.str [40])), ("CLOSE", (.str [41])), ("SIGNS", (.dct [.non, (.bl true), (.bl false)] [(.str [46]), (.str [43]), (.str [45])])), ("LETTERS", (.str [97, 98, 99, 100, 101, 102, 103, 104, 105, 106, 107, 108, 109, 110, 111, 112, 113, 114, 115, 116, 117, 118, 119, 120, 121, 122])), ("DIGITS", (.str [48, 49, 50, 51, 52, 53, 54, 55, 56, 57])), ("MOST_LETTERS", (.int 12)), ("MOST_FIGURES", (.int 31)), ("MOST_DEEP", (.int 20)), ("MOST_THINGS", (.int 4000))]
def bl : List PySem.Str := ["len", "all", "abs", "str", "int", "repr", "tuple", "list", "min", "max", "isinstance", "range", "enumerate", "bool", "super"]
def L : LD := ⟨dis, xs, gl, bl, 100000⟩
theorem okL : L.dis.all L.okD = true := by decide +kernel
end K85
end
section
set_option autoImplicit false
set_option linter.all false
set_option maxRecDepth 100000
namespace K85
open Ev
def t : LxI := ⟨⟨1, 2, 0, 6, 7, 3, 9, 4, 5, 8, 0, 2, 5, 4, 8, 7, 6, 9, 1, 3, 0, 1⟩, ⟨10, 11, 12⟩, ⟨14⟩, 24, 20, 17, 18, 22, 21, 15, 16, 13, 19, 23⟩
theorem tAt : t.At L.prog := ⟨⟨rfl, rfl, rfl, rfl, rfl, rfl, rfl, rfl, rfl, rfl, rfl, rfl, rfl, rfl, rfl, rfl, rfl, rfl, rfl, rfl⟩, ⟨rfl, rfl, rfl⟩, ⟨rfl⟩, rfl, rfl, rfl, rfl, rfl, rfl, rfl, rfl, rfl, rfl, rfl⟩
theorem plain (ns : List Int) (h1 : ns.length ≤ 63) (h2 : ∀ z ∈ ns, PySem.Builtin.Int.intBits z ≤ 1048576) : ∃ h', callN L.prog 60 24 [.d (.lst (ns.map .int))] [] = .ok (.d (.bl true)) h' :=
  xlaw_run (n := 6) tAt (by decide) ns (by omega)
end K85
end
section
set_option autoImplicit false
set_option linter.all false
set_option maxRecDepth 100000
set_option maxHeartbeats 0
set_option Elab.async false
namespace K85
open PySem PySem.Spec PyProof.Rows L2 Ev He
abbrev R : PySem.W.OpenRow := PySem.W.OpenLaw.row PySem.Challenge.rw_worksward_k85_any_text_as_a_thing
abbrev qv : Program := PySem.W.view R.prog [39]
abbrev hk : PySem.W.Hook := L.hook R.prog 6
def ob (s : PySem.W.SharedT) : AlX := obsE 6 L.fa L.fn L.tf (L.ex R.prog) (HandSHeadRun.getT s)
theorem ob_eq (s : PySem.W.SharedT) : ob s = hk.obs s.abs := obsE_eq (HandSHeadRun.getT_eq s)
def names0 : List PySem.Str := ["BadText", "OutOfPlace", "BLANK", "OPEN", "CLOSE", "SIGNS", "LETTERS", "DIGITS", "MOST_LETTERS", "MOST_FIGURES", "MOST_DEEP", "MOST_THINGS", "is_word", "is_plain", "is_thing", "plain_text", "text_of", "thing_text", "parts_of", "plain_of", "written", "read_thing", "_law_begun", "_law_draw", "_law_of", "_law_thing", "_law_text", "_law_piece", "_law_read", "_law_depth"]
def names1 : List PySem.Str := ["_law_due", "_law_told", "_law_bent", "_law_is_right", "_law_hand_right", "_law_wide_right"]
def names : List PySem.Str := names0 ++ names1
theorem runF (w : World) : HandSHeadRun.RunEq R qv hk ob 3000 names (w.withFollow "special-get-raises" false) := by
  intro os
  kernel_rfl
theorem runT (w : World) : HandSHeadRun.RunEq R qv hk ob 3000 names (w.withFollow "special-get-raises" true) := by
  intro os
  kernel_rfl
theorem run (w : World) : HandSHeadRun.RunEq R qv hk ob 3000 names w := PySem.W.byRow2 "special-get-raises" runF runT w
end K85
end
set_option autoImplicit false
set_option linter.all false
set_option maxRecDepth 100000
set_option maxHeartbeats 0
set_option Elab.async false
open PySem PySem.W PySem.Calls PyProof.Rows
theorem PySem.Challenge.cw_worksward_k85_any_text_as_a_thing_holds : PySem.Challenge.rw_worksward_k85_any_text_as_a_thing.Holds := by
  w_on; o_law
  refine HandSHeadRun.head_any (r := OpenLaw.row PySem.Challenge.rw_worksward_k85_any_text_as_a_thing) (q := K85.qv) (H := K85.hk) (ob := K85.ob) (M := 3000) (loose := K85.names) (d := HandSHeadRun.topDef (OpenLaw.row PySem.Challenge.rw_worksward_k85_any_text_as_a_thing).prog 39) (kwd := []) K85.ob_eq
    (by kernel_rfl) (fun s => by kernel_rfl) K85.run (by kernel_rfl) (by kernel_rfl) (by kernel_rfl) (by rfl) (by first | assumption | decide +kernel) (by decide +kernel) ⟨rfl, rfl, rfl, rfl, rfl, by decide +kernel⟩ ?hw ?hc
  case hw => w_witness2
  case hc =>
    refine Ev.walk_lawE (l := PySem.Challenge.rw_worksward_k85_any_text_as_a_thing) (n := 63) (k := Ev.kLev 60) (x := "_law_script") rfl (by decide) (by kernel_rfl) ⟨rfl, by decide, by decide⟩ ?F
    intro w mg fa h Y G hmg0
    obtain ⟨K, KX, c⟩ := Y
    have hmg : mg ("law" : PySem.Str) = some (.ref fa) := by
      have e : (HandSHeadRun.topDef (OpenLaw.row PySem.Challenge.rw_worksward_k85_any_text_as_a_thing).prog 39).name = ("law" : PySem.Str) := by kernel_rfl
      rw [← e]
      exact hmg0
    exact ⟨K, KX, Ev.law_at (L := K85.L) (i := 24) KX G c (by decide +kernel) K85.okL rfl rfl rfl hmg (by decide) K85.plain⟩
