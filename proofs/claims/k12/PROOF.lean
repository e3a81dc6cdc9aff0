import PyProof.Rows.All
import Wide.All
import OpenK.AllK
import Wide.FinOn
import HandS.ForMost
import HandS.ForExc
import HandS.More
import HandS.Walk
import HandS.Zip
import HandS.IsInst
import HandS.ExcIs
import HandS.Lambda
import HandS.Codes
import HandS.Deep
import HandS.SortOrd
import HandS.SortRule
import HandS.TupSets
import HandS.SetKeys
import HandS.TupMul
import HandS.TupAny
import HandS.Conv
import HandS.Replace
import HandS.ReplaceList
import HandS.Defaults
import HandS.Head2
import HandS.HeadHook4
import HandS.HeadWalk
import HandS.HeadEnd
import HandS.EndTab
import HandS.NoneIn
import HandS.Style
import HandS.CallSlots
import HandS.ExcCtx
import HandS.HotCalls
import HandS.AnyAll
import KE.GoesNew
import KE.GoesEnum
import KE.GoesZip
import PySem.Challenge.RW_heapintake_k12_whole_fields_by_themselve
set_option Elab.async false
set_option linter.all false
set_option maxRecDepth 100000
set_option maxHeartbeats 4000000
/-! Dn0: plain data, what an expression and a statement mean (no program in sight). -/
namespace Dn

/-- data: what the program and the laws handle -/
inductive D where
  | non
  | bool (b : Bool)
  | int (i : Int)
  | str (s : List Nat)
  | list (xs : List D)
  | tup (xs : List D)
  | ro (xs : List D)
  | dict (kvs : List (List Nat × D))
  | obj (k : Nat)
  deriving Inhabited

/-- an intake: its plan, its texts, what waits -/
structure Ik where
  plan : D
  texts : List (List Nat)
  rest : List Nat
abbrev Sto := List Ik

/-- the end of an expression -/
inductive R (α : Type) where
  | ok (a : α) (st : Sto)
  | exc (c : Nat) (st : Sto)
  | bad

def R.bind {α β : Type} : R α → (α → Sto → R β) → R β
  | .ok a st, f => f a st
  | .exc c st, _ => .exc c st
  | .bad, _ => .bad
@[simp] theorem R.bind_ok {α β : Type} (a : α) (st : Sto) (f : α → Sto → R β) : (R.ok a st).bind f = f a st := rfl
@[simp] theorem R.bind_exc {α β : Type} (c : Nat) (st : Sto) (f : α → Sto → R β) : (R.exc c st : R α).bind f = .exc c st := rfl
@[simp] theorem R.bind_bad {α β : Type} (f : α → Sto → R β) : (R.bad : R α).bind f = .bad := rfl

abbrev SZ : Nat := 16777216

abbrev Env := List (Option D)
abbrev ME := Env → Sto → R D
abbrev MA := Env → Sto → R (List D)

/-- the end of a statement -/
inductive RS where
  | nx (env : Env) (st : Sto)
  | rt (d : D) (st : Sto)
  | exc (c : Nat) (st : Sto)
  | bad
abbrev MS := Env → Sto → RS

def ofOpt {α : Type} (o : Option α) (st : Sto) : R α := match o with
  | some d => .ok d st
  | none => .bad
@[simp] theorem ofOpt_some {α : Type} (d : α) (st : Sto) : ofOpt (some d) st = .ok d st := rfl
@[simp] theorem ofOpt_none {α : Type} (st : Sto) : ofOpt (none : Option α) st = .bad := rfl

/-! ### expressions -/
def eVar (i : Nat) : ME := fun env st => match env[i]? with
  | some (some d) => .ok d st
  | _ => .bad
def eC (d : D) : ME := fun _ st => .ok d st
def e1 (g : D → Option D) (m : ME) : ME := fun env st => (m env st).bind fun x st => ofOpt (g x) st
def e2 (g : D → D → Option D) (m n : ME) : ME := fun env st => (m env st).bind fun x st => (n env st).bind fun y st => ofOpt (g x y) st
/-- a < b < c, by two looks that give bools -/
def eChain (g h : D → D → Option D) (a b c : ME) : ME := fun env st => (a env st).bind fun x st => (b env st).bind fun y st =>
  match g x y with
  | some (.bool true) => (c env st).bind fun z st => ofOpt (h y z) st
  | some (.bool false) => .ok (.bool false) st
  | _ => .bad
def eAnd (a b : ME) : ME := fun env st => (a env st).bind fun x st => match x with
  | .bool true => b env st
  | .bool false => .ok (.bool false) st
  | _ => .bad
def eOr (a b : ME) : ME := fun env st => (a env st).bind fun x st => match x with
  | .bool true => .ok (.bool true) st
  | .bool false => b env st
  | _ => .bad
def eNot (a : ME) : ME := fun env st => (a env st).bind fun x st => match x with
  | .bool b => .ok (.bool (!b)) st
  | _ => .bad
def eIf (c a b : ME) : ME := fun env st => (c env st).bind fun x st => match x with
  | .bool true => a env st
  | .bool false => b env st
  | _ => .bad
def aNil : MA := fun _ st => .ok [] st
def aCons (m : ME) (ms : MA) : MA := fun env st => (m env st).bind fun x st => (ms env st).bind fun xs st => .ok (x :: xs) st
/-- a built-in over several values -/
def eA (g : List D → Option D) (ms : MA) : ME := fun env st => (ms env st).bind fun xs st => ofOpt (g xs) st
/-- a def of the program -/
def eCall (f : List D → Sto → R D) (ms : MA) : ME := fun env st => (ms env st).bind fun xs st => f xs st
def noexc {α : Type} : R α → R α
  | .ok a st => .ok a st
  | _ => .bad
@[simp] theorem noexc_ok {α : Type} (a : α) (st : Sto) : noexc (R.ok a st) = .ok a st := rfl

/-! ### targets -/
abbrev TGt := D → Env → Option Env
def gN (i : Nat) : TGt := fun d env => if i < env.length then some (env.set i (some d)) else none
/-- (a, b, ..) = a tuple -/
def gSetAll : List Nat → List D → Env → Option Env
  | [], [], env => some env
  | i :: is, d :: ds, env => if i < env.length then gSetAll is ds (env.set i (some d)) else none
  | _, _, _ => none
def gT (is : List Nat) : TGt := fun d env => match d with
  | .tup ds => gSetAll is ds env
  | _ => none

/-! ### walks -/
abbrev MI := Env → Sto → R (List D)
def itemsOf : D → Option (List D)
  | .list xs => some xs
  | .tup xs => some xs
  | .ro xs => some xs
  | .str s => some (s.map fun c => .str [c])
  | _ => none
def iSeq (m : ME) : MI := fun env st => (m env st).bind fun x st => ofOpt (itemsOf x) st
def rangeD : D → Option (List D)
  | .int n => if n.natAbs ≤ SZ then some ((List.range n.toNat).map fun (k : Nat) => D.int (k : Int)) else none
  | _ => none
def iRange (m : ME) : MI := fun env st => (m env st).bind fun x st => ofOpt (rangeD x) st
def enumL : Nat → List D → List D
  | _, [] => []
  | k, d :: ds => .tup [.int k, d] :: enumL (k + 1) ds
def enumD : D → Option (List D)
  | .list xs => some (enumL 0 xs)
  | .tup xs => some (enumL 0 xs)
  | _ => none
def iEnum (m : ME) : MI := fun env st => (m env st).bind fun x st => ofOpt (enumD x) st
def zipL : List D → List D → List D
  | x :: xs, y :: ys => .tup [x, y] :: zipL xs ys
  | _, _ => []
def seqOf : D → Option (List D)
  | .list xs => some xs
  | .tup xs => some xs
  | _ => none
def zipD (x y : D) : Option (List D) := match seqOf x, seqOf y with
  | some xs, some ys => some (zipL xs ys)
  | _, _ => none
def iZip (m n : ME) : MI := fun env st => (m env st).bind fun x st => (n env st).bind fun y st => ofOpt (zipD x y) st

/-! ### comprehensions -/
def wipeE (env : Env) : List Nat → Env
  | [] => env
  | v :: vs => (wipeE env vs).set v none
def compL (tg : TGt) (t e : ME) (env : Env) : List D → Sto → R (List D)
  | [], st => .ok [] st
  | d :: ds, st => match tg d env with
    | none => .bad
    | some env1 => match t env1 st with
      | .ok (.bool true) st1 => match e env1 st1 with
        | .ok y st2 => (compL tg t e env ds st2).bind fun ys st3 => .ok (y :: ys) st3
        | _ => .bad
      | .ok (.bool false) st1 => compL tg t e env ds st1
      | _ => .bad
def eComp (it : MI) (own : List Nat) (tg : TGt) (t e : ME) : ME := fun env st =>
  (it env st).bind fun ds st => (noexc (compL tg t e (wipeE env own) ds st)).bind fun ys st => .ok (.list ys) st

/-! ### statements -/
def sSkip : MS := fun env st => .nx env st
def sSeq (a b : MS) : MS := fun env st => match a env st with
  | .nx env1 st1 => b env1 st1
  | r => r
def sAsg (tg : TGt) (m : ME) : MS := fun env st => match m env st with
  | .ok d st1 => (match tg d env with
    | some env1 => .nx env1 st1
    | none => .bad)
  | .exc c st1 => .exc c st1
  | .bad => .bad
def sIf (c : ME) (a b : MS) : MS := fun env st => match c env st with
  | .ok (.bool true) st1 => a env st1
  | .ok (.bool false) st1 => b env st1
  | .exc x st1 => .exc x st1
  | _ => .bad
def sRet (m : ME) : MS := fun env st => match m env st with
  | .ok d st1 => .rt d st1
  | .exc c st1 => .exc c st1
  | .bad => .bad
def sExpr (m : ME) : MS := fun env st => match m env st with
  | .ok _ st1 => .nx env st1
  | .exc c st1 => .exc c st1
  | .bad => .bad
def sRaise (c : Nat) : MS := fun _ st => .exc c st
def forL (tg : TGt) (body : MS) : List D → MS
  | [], env, st => .nx env st
  | d :: ds, env, st => match tg d env with
    | none => .bad
    | some env1 => match body env1 st with
      | .nx env2 st2 => forL tg body ds env2 st2
      | r => r
def sFor (it : MI) (tg : TGt) (body : MS) : MS := fun env st => match it env st with
  | .ok ds st1 => forL tg body ds env st1
  | .exc c st1 => .exc c st1
  | .bad => .bad
def whileN (c : ME) (body : MS) : Nat → MS
  | 0, _, _ => .bad
  | n + 1, env, st => match c env st with
    | .ok (.bool true) st1 => (match body env st1 with
      | .nx env2 st2 => whileN c body n env2 st2
      | r => r)
    | .ok (.bool false) st1 => .nx env st1
    | .exc x st1 => .exc x st1
    | _ => .bad
def sWhile (c : ME) (body : MS) : MS := whileN c body 100000
/-- a change of the object that a name of its own holds: g old arguments = new -/
def sUpd (i : Nat) (ty : D → Bool) (g : D → List D → Option D) (ms : MA) : MS := fun env st => match env[i]? with
  | some (some d) => if ty d then (match ms env st with
    | .ok ds st1 => (match g d ds with
      | some d' => .nx (env.set i (some d')) st1
      | none => .bad)
    | .exc c st1 => .exc c st1
    | .bad => .bad) else .bad
  | _ => .bad

/-! ### defs -/
def env0 (n : Nat) (ds : List D) : Env := ds.map some ++ List.replicate (n - ds.length) none
/-- ps parameters, n slots -/
def runDef (ps n : Nat) (m : MS) (ds : List D) (st : Sto) : R D :=
  if ds.length = ps then match m (env0 n ds) st with
    | .nx _ st1 => .ok .non st1
    | .rt d st1 => .ok d st1
    | .exc c st1 => .exc c st1
    | .bad => .bad
  else .bad

end Dn

/-! DnB: the built-ins over plain data. -/
namespace Dn

/-! ### equality -/
mutual
def eqB : D → D → Bool
  | .non, .non => true
  | .bool a, .bool b => a == b
  | .bool a, .int j => (if a then 1 else 0) == j
  | .int i, .bool b => i == (if b then 1 else 0)
  | .int i, .int j => i == j
  | .str x, .str y => x == y
  | .list xs, .list ys => eqBs xs ys
  | .tup xs, .tup ys => eqBs xs ys
  | _, _ => false
def eqBs : List D → List D → Bool
  | [], [] => true
  | x :: xs, y :: ys => eqB x y && eqBs xs ys
  | _, _ => false
end
/-! plain data of a depth of at most n -/
mutual
def okD : Nat → D → Bool
  | _, .non => true
  | _, .bool _ => true
  | _, .int _ => true
  | _, .str _ => true
  | 0, .list _ => false
  | 0, .tup _ => false
  | n + 1, .list xs => okDs n xs
  | n + 1, .tup xs => okDs n xs
  | _, _ => false
def okDs : Nat → List D → Bool
  | _, [] => true
  | n, x :: xs => okD n x && okDs n xs
end
abbrev DP : Nat := 40
def eqD (x y : D) : Option D := if okD DP x && okD DP y then some (.bool (eqB x y)) else none
def neD (x y : D) : Option D := if okD DP x && okD DP y then some (.bool (!eqB x y)) else none
def isNonD : D → Option D
  | .non => some (.bool true)
  | _ => some (.bool false)
def notNonD : D → Option D
  | .non => some (.bool false)
  | _ => some (.bool true)

/-! ### numbers, texts -/
def addD : D → D → Option D
  | .int i, .int j => some (.int (i + j))
  | .str x, .str y => if x.length + y.length ≤ SZ then some (.str (x ++ y)) else none
  | .tup x, .tup y => if x.length + y.length ≤ SZ then some (.tup (x ++ y)) else none
  | .list x, .list y => if x.length + y.length ≤ SZ then some (.list (x ++ y)) else none
  | _, _ => none
def subD : D → D → Option D
  | .int i, .int j => some (.int (i - j))
  | _, _ => none
abbrev W64 : Int := 18446744073709551616
def mulD : D → D → Option D
  | .int i, .int j => if (-W64 < i ∧ i < W64) ∨ (-W64 < j ∧ j < W64) then some (.int (i * j)) else none
  | _, _ => none
def fdivD : D → D → Option D
  | .int i, .int j => if 0 < j ∧ j < 1073741824 then some (.int (i / j)) else none
  | _, _ => none
def modD : D → D → Option D
  | .int i, .int j => if 0 < j then some (.int (i % j)) else none
  | _, _ => none
def negD : D → Option D
  | .int i => some (.int (-i))
  | _ => none
/-- the order of texts -/
def ltS : List Nat → List Nat → Bool
  | [], [] => false
  | [], _ :: _ => true
  | _ :: _, [] => false
  | x :: xs, y :: ys => if x = y then ltS xs ys else decide (x < y)
def ltD : D → D → Option D
  | .int i, .int j => some (.bool (decide (i < j)))
  | .str x, .str y => some (.bool (ltS x y))
  | _, _ => none
def leD : D → D → Option D
  | .int i, .int j => some (.bool (decide (i ≤ j)))
  | .str x, .str y => some (.bool (!ltS y x))
  | _, _ => none
def gtD : D → D → Option D
  | .int i, .int j => some (.bool (decide (j < i)))
  | .str x, .str y => some (.bool (ltS y x))
  | _, _ => none
def geD : D → D → Option D
  | .int i, .int j => some (.bool (decide (j ≤ i)))
  | .str x, .str y => some (.bool (!ltS x y))
  | _, _ => none
/-- the place i of n (from behind if below nought) -/
def ixD (n : Nat) (i : Int) : Option Nat := if 0 ≤ i then (if i < n then some i.toNat else none) else if -(n : Int) ≤ i then some (i + n).toNat else none
def lookD : List (List Nat × D) → List Nat → Option D
  | [], _ => none
  | (k, d) :: r, x => if k = x then some d else lookD r x
def idxD : D → D → Option D
  | .list xs, .int i => (ixD xs.length i).bind fun k => xs[k]?
  | .tup xs, .int i => (ixD xs.length i).bind fun k => xs[k]?
  | .ro xs, .int i => (ixD xs.length i).bind fun k => xs[k]?
  | .str s, .int i => ((ixD s.length i).bind fun k => s[k]?).map fun c => .str [c]
  | .dict kvs, .str k => lookD kvs k
  | _, _ => none
def sIxD (n d : Nat) : Option Int → Nat
  | none => d
  | some v => if v < 0 then (v + (n : Int)).toNat else min v.toNat n
def cutD {α : Type} (xs : List α) (lo hi : Option Int) : List α := (xs.drop (sIxD xs.length 0 lo)).take (sIxD xs.length xs.length hi - sIxD xs.length 0 lo)
def sliceD (x : D) (lo hi : Option Int) : Option D := match x with
  | .list xs => some (.list (cutD xs lo hi))
  | .tup xs => some (.tup (cutD xs lo hi))
  | .str s => some (.str (cutD s lo hi))
  | _ => none
abbrev MO := Env → Sto → R (Option Int)
def oNone : MO := fun _ st => .ok none st
def oSome (m : ME) : MO := fun env st => (m env st).bind fun x st => match x with
  | .int i => .ok (some i) st
  | _ => .bad
def eSlice (m : ME) (lo hi : MO) : ME := fun env st => (m env st).bind fun x st => (lo env st).bind fun l st => (hi env st).bind fun h st => ofOpt (sliceD x l h) st
def revD : D → Option D
  | .list xs => some (.list xs.reverse)
  | .tup xs => some (.tup xs.reverse)
  | _ => none
/-- in: a sign in a text, an item in a list or tuple, a key in a dict -/
def memB (x : D) (xs : List D) : Bool := xs.any fun y => eqB y x
def inD : D → D → Option D
  | .str x, .dict kvs => some (.bool (lookD kvs x).isSome)
  | .str x, .str l => match x with
    | [c] => some (.bool (decide (c ∈ l)))
    | _ => none
  | x, .list xs => if okD DP x && okD DP (.list xs) then some (.bool (memB x xs)) else none
  | x, .tup xs => if okD DP x && okD DP (.tup xs) then some (.bool (memB x xs)) else none
  | _, _ => none
def ninD (x y : D) : Option D := match inD x y with
  | some (.bool b) => some (.bool (!b))
  | _ => none

/-! ### built-in functions -/
def lenD : List D → Option D
  | [.list xs] => some (.int xs.length)
  | [.tup xs] => some (.int xs.length)
  | [.ro xs] => some (.int xs.length)
  | [.str s] => some (.int s.length)
  | [.dict kvs] => some (.int kvs.length)
  | _ => none
def boolsD : List D → Option (List Bool)
  | [] => some []
  | .bool b :: r => (boolsD r).map fun bs => b :: bs
  | _ => none
def intsD : List D → Option (List Int)
  | [] => some []
  | .int b :: r => (intsD r).map fun bs => b :: bs
  | _ => none
def strsD : List D → Option (List (List Nat))
  | [] => some []
  | .str b :: r => (strsD r).map fun bs => b :: bs
  | _ => none
def allD : List D → Option D
  | [.list xs] => (boolsD xs).map fun bs => .bool (bs.all id)
  | _ => none
def sumD : List D → Option D
  | [.list xs] => (intsD xs).map fun bs => .int bs.sum
  | _ => none
def tupleD : List D → Option D
  | [.list xs] => some (.tup xs)
  | [.tup xs] => some (.tup xs)
  | _ => none
def listD : List D → Option D
  | [.list xs] => some (.list xs)
  | [.tup xs] => some (.list xs)
  | _ => none
def numC (n : Nat) : List Nat := (Nat.toDigits 10 n).map Char.toNat
def strD : List D → Option D
  | [.int n] => if 0 ≤ n ∧ n < 1000000000000 then some (.str (numC n.toNat)) else none
  | _ => none
def digB (l : List Nat) : Bool := l.all fun c => decide (48 ≤ c) && decide (c ≤ 57)
def digVal (l : List Nat) : Nat := l.foldl (fun acc c => acc * 10 + (c - 48)) 0
def intD : List D → Option D
  | [.int n] => some (.int n)
  | [.bool b] => some (.int (if b then 1 else 0))
  | [.str l] => if digB l && decide (l ≠ []) && decide (l.length ≤ 600) then some (.int (digVal l)) else none
  | _ => none
def maxD2 : List D → Option D
  | [.int i, .int j] => some (.int (if j > i then j else i))
  | _ => none
def minD2 : List D → Option D
  | [.int i, .int j] => some (.int (if j < i then j else i))
  | _ => none
/-- isinstance with str, int, bool, tuple -/
def isStrD : D → Bool
  | .str _ => true
  | _ => false
def isIntD : D → Bool
  | .int _ => true
  | .bool _ => true
  | _ => false
def isBoolD : D → Bool
  | .bool _ => true
  | _ => false
def isTupD : D → Bool
  | .tup _ => true
  | _ => false
def instD (p : D → Bool) : D → Option D
  | .dict _ => none
  | .obj _ => none
  | .ro _ => none
  | d => some (.bool (p d))

/-! ### texts -/
/-- cut at each c -/
def splitC (c : Nat) : List Nat → List (List Nat)
  | [] => [[]]
  | x :: r => if x = c then [] :: splitC c r else match splitC c r with
    | w :: ws => (x :: w) :: ws
    | [] => [[x]]
def joinC (sep : List Nat) : List (List Nat) → List Nat
  | [] => []
  | [p] => p
  | p :: q :: r => p ++ (sep ++ joinC sep (q :: r))
/-- a method: the receiver's kind is looked at first -/
def eM (ty : D → Bool) (g : D → List D → Option D) (m : ME) (ms : MA) : ME := fun env st => (m env st).bind fun x st => if ty x then (ms env st).bind fun xs st => ofOpt (g x xs) st else .bad
def isListD : D → Bool
  | .list _ => true
  | _ => false
def isDictD : D → Bool
  | .dict _ => true
  | _ => false
def splitD : D → List D → Option D
  | .str l, [.str [c]] => if c < 256 ∧ l.length + 2 ≤ SZ then some (.list ((splitC c l).map D.str)) else none
  | _, _ => none
def joinD : D → List D → Option D
  | .str s, [.list xs] => (strsD xs).bind fun ls => if (ls.map List.length).sum + ls.length * s.length ≤ SZ then some (.str (joinC s ls)) else none
  | .str s, [.tup xs] => (strsD xs).bind fun ls => if (ls.map List.length).sum + ls.length * s.length ≤ SZ then some (.str (joinC s ls)) else none
  | _, _ => none
def countD : D → List D → Option D
  | .list xs, [y] => if okD DP y && okD DP (.list xs) then some (.int ((xs.countP fun z => eqB z y : Nat) : Int)) else none
  | _, _ => none
def findIx (y : D) : List D → Nat → Option Nat
  | [], _ => none
  | x :: xs, k => if eqB x y then some k else findIx y xs (k + 1)
def indexD : D → List D → Option D
  | .list xs, [y] => if okD DP y && okD DP (.list xs) then (findIx y xs 0).map fun k => .int (k : Int) else none
  | _, _ => none
def getD3 : D → List D → Option D
  | .dict kvs, [.str k, d] => some ((lookD kvs k).getD d)
  | _, _ => none

/-! ### changes of an object of a name's own -/
def appendD : D → List D → Option D
  | .list xs, [d] => if xs.length < SZ then some (.list (xs ++ [d])) else none
  | _, _ => none
def putKD (kvs : List (List Nat × D)) (k : List Nat) (d : D) : List (List Nat × D) :=
  if (lookD kvs k).isSome then kvs.map (fun p => if p.1 = k then (p.1, d) else p) else kvs ++ [(k, d)]
/-- x[i] = d: the arguments are d, i -/
def putD : D → List D → Option D
  | .list xs, [d, .int i] => (ixD xs.length i).map fun k => .list (xs.set k d)
  | .dict kvs, [d, .str k] => if kvs.length < SZ then some (.dict (putKD kvs k d)) else none
  | _, _ => none
def dropKD (kvs : List (List Nat × D)) (k : List Nat) : List (List Nat × D) := kvs.filter fun p => decide (p.1 ≠ k)
def popKD : D → List D → Option D
  | .dict kvs, [.str k] => if (lookD kvs k).isSome then some (.dict (dropKD kvs k)) else none
  | _, _ => none
def mergeD (kvs : List (List Nat × D)) : List (List Nat × D) → List (List Nat × D)
  | [] => kvs
  | (k, d) :: r => mergeD (putKD kvs k d) r
def pairsD : List D → Option (List (List Nat × D))
  | [] => some []
  | .tup [.str k, d] :: r => (pairsD r).map fun ps => (k, d) :: ps
  | _ => none
/-- dict(list of pairs) -/
def dictD : List D → Option D
  | [.list xs] => (pairsD xs).map fun ps => .dict (mergeD [] ps)
  | _ => none
/-- displays -/
def dispL (xs : List D) : Option D := if xs.length ≤ SZ then some (.list xs) else none
def dispT (xs : List D) : Option D := if xs.length ≤ SZ then some (.tup xs) else none

/-! ### order -/
def insS {α : Type} (lt : α → α → Bool) (x : α) : List α → List α
  | [] => [x]
  | y :: r => if lt x y then x :: y :: r else y :: insS lt x r
def sortB {α : Type} (lt : α → α → Bool) (xs : List α) : List α := xs.foldl (fun acc x => insS lt x acc) []
/-- each once, rising -/
def nubS (xs : List (List Nat)) : List (List Nat) := xs.foldl (fun acc x => if x ∈ acc then acc else insS ltS x acc) []
def isN2 (x y : D) : Option D := match y with | .non => isNonD x | _ => none
def notN2 (x y : D) : Option D := match y with | .non => notNonD x | _ => none
def gL (is : List Nat) : TGt := fun d env => match d with
  | .list ds => gSetAll is ds env
  | _ => none
def runDefO (ps n : Nat) (m : MS) (ds : List D) (st : Sto) : R D :=
  if ds.length = ps then match m (env0 n ds) st with
    | .rt d st1 => .ok d st1
    | .exc c st1 => .exc c st1
    | _ => .bad
  else .bad
end Dn

/-! Dn1: how data lies in the heap of the layer; what stays. -/
namespace Dn
open PySem PySem.Spec PyProof.Rows L2

/-- what is fixed through the law: the written part, the tables of code objects, the error classes, the class of intakes -/
structure Gc where
  K : PySem.W.Frag
  T : List (Addr × Str)
  ex : Nat → Value
  CI : Addr

theorem szl : sizeLine = SZ := sizeLine_eq
/-- a text's signs: not too many, all below 128 -/
def StrOk (l : List Nat) : Prop := l.length ≤ SZ ∧ ∀ c ∈ l, c < 128
instance (l : List Nat) : Decidable (StrOk l) := inferInstanceAs (Decidable (_ ∧ _))

mutual
inductive Rp (K : PySem.W.Frag) (F : Hp) (os : List Addr) : V → D → Prop
  | non : Rp K F os .non .non
  | bl (b : Bool) : Rp K F os (.bl b) (.bool b)
  | int (i : Int) : Rp K F os (.int i) (.int i)
  | str {x : Str} {l : List Nat} : x.cps.toList = l → StrOk l → Rp K F os (.str x) (.str l)
  | lst {a : Addr} {vs : List V} {ds : List D} : F a = some (.lst vs) → RpAll K F os vs ds → ds.length ≤ SZ → Rp K F os (.ref a) (.list ds)
  | ro {a : Addr} {vs : List V} {ds : List D} : SqL K F a vs → RpAll K F os vs ds → ds.length ≤ SZ → Rp K F os (.ref a) (.ro ds)
  | tup {a : Addr} {vs : List V} {ds : List D} : SqT K F a vs → RpAll K F os vs ds → ds.length ≤ SZ → Rp K F os (.ref a) (.tup ds)
  | dct {a : Addr} {kvs : List (Key × V)} {ds : List (List Nat × D)} : F a = some (.dK kvs) → RpKv K F os kvs ds → ds.length ≤ SZ → Rp K F os (.ref a) (.dict ds)
  | obj {x : Addr} {k : Nat} : os[k]? = some x → Rp K F os (.ref x) (.obj k)
inductive RpAll (K : PySem.W.Frag) (F : Hp) (os : List Addr) : List V → List D → Prop
  | nil : RpAll K F os [] []
  | cons {v : V} {vs : List V} {d : D} {ds : List D} : Rp K F os v d → RpAll K F os vs ds → RpAll K F os (v :: vs) (d :: ds)
inductive RpKv (K : PySem.W.Frag) (F : Hp) (os : List Addr) : List (Key × V) → List (List Nat × D) → Prop
  | nil : RpKv K F os [] []
  | cons {x : Str} {l : List Nat} {v : V} {kvs : List (Key × V)} {d : D} {ds : List (List Nat × D)} : x.cps.toList = l → StrOk l → Rp K F os v d → RpKv K F os kvs ds → RpKv K F os ((.inr x, v) :: kvs) ((l, d) :: ds)
end

theorem same_seqT {K : PySem.W.Frag} {H H' : Hp} {a : Addr} {xs : List V} (e : Same H H') (h : SqT K H a xs) : SqT K H' a xs := by
  rcases h with (h | ⟨o, h⟩) | h
  · exact .inl (.inl (e _ _ h))
  · exact .inl (.inr ⟨o, e _ _ h⟩)
  · exact .inr h

section
variable {K : PySem.W.Frag} {F F' : Hp} {os os' : List Addr}
mutual
theorem Rp.mono (e : Same F F') (p : os <+: os') : ∀ {v : V} {d : D}, Rp K F os v d → Rp K F' os' v d
  | _, _, .non => .non
  | _, _, .bl b => .bl b
  | _, _, .int i => .int i
  | _, _, .str h1 h2 => .str h1 h2
  | _, _, .lst h1 h2 h3 => .lst (e _ _ h1) (RpAll.mono e p h2) h3
  | _, _, .ro h1 h2 h3 => .ro (e.seq h1) (RpAll.mono e p h2) h3
  | _, _, .tup h1 h2 h3 => .tup (same_seqT e h1) (RpAll.mono e p h2) h3
  | _, _, .dct h1 h2 h3 => .dct (e _ _ h1) (RpKv.mono e p h2) h3
  | _, _, .obj h => .obj (by
      obtain ⟨t, rfl⟩ := p
      have hk := (List.getElem?_eq_some_iff.mp h).1
      rw [List.getElem?_append_left hk]; exact h)
theorem RpAll.mono (e : Same F F') (p : os <+: os') : ∀ {vs : List V} {ds : List D}, RpAll K F os vs ds → RpAll K F' os' vs ds
  | _, _, .nil => .nil
  | _, _, .cons h t => .cons (Rp.mono e p h) (RpAll.mono e p t)
theorem RpKv.mono (e : Same F F') (p : os <+: os') : ∀ {kvs : List (Key × V)} {ds : List (List Nat × D)}, RpKv K F os kvs ds → RpKv K F' os' kvs ds
  | _, _, .nil => .nil
  | _, _, .cons h1 h2 h t => .cons h1 h2 (Rp.mono e p h) (RpKv.mono e p t)
end
theorem RpAll.length : ∀ {vs : List V} {ds : List D}, RpAll K F os vs ds → vs.length = ds.length
  | _, _, .nil => rfl
  | _, _, .cons _ t => congrArg Nat.succ t.length
theorem RpKv.length : ∀ {kvs : List (Key × V)} {ds : List (List Nat × D)}, RpKv K F os kvs ds → kvs.length = ds.length
  | _, _, .nil => rfl
  | _, _, .cons _ _ _ t => congrArg Nat.succ t.length
theorem RpAll.get : ∀ {vs : List V} {ds : List D} {i : Nat} {d : D}, RpAll K F os vs ds → ds[i]? = some d → ∃ v, vs[i]? = some v ∧ Rp K F os v d
  | _, _, _, _, .nil, e => by simp at e
  | _, _, 0, _, .cons h _, e => by simp at e; subst e; exact ⟨_, rfl, h⟩
  | _, _, i + 1, d, .cons _ t, e => by
    obtain ⟨v, h1, h2⟩ := RpAll.get (i := i) (d := d) t (by simpa using e)
    exact ⟨v, by simpa using h1, h2⟩
theorem RpAll.append : ∀ {vs ws : List V} {ds es : List D}, RpAll K F os vs ds → RpAll K F os ws es → RpAll K F os (vs ++ ws) (ds ++ es)
  | _, _, _, _, .nil, s => s
  | _, _, _, _, .cons h t, s => .cons h (t.append s)
theorem RpAll.take (n : Nat) : ∀ {vs : List V} {ds : List D}, RpAll K F os vs ds → RpAll K F os (vs.take n) (ds.take n) := by
  intro vs ds h
  induction n generalizing vs ds with
  | zero => simpa using RpAll.nil
  | succ n ih =>
    cases h with
    | nil => simpa using RpAll.nil
    | cons h t => exact .cons h (ih t)
theorem RpAll.drop (n : Nat) : ∀ {vs : List V} {ds : List D}, RpAll K F os vs ds → RpAll K F os (vs.drop n) (ds.drop n) := by
  intro vs ds h
  induction n generalizing vs ds with
  | zero => simpa using h
  | succ n ih =>
    cases h with
    | nil => simpa using RpAll.nil
    | cons h t => exact ih t
theorem RpAll.reverse : ∀ {vs : List V} {ds : List D}, RpAll K F os vs ds → RpAll K F os vs.reverse ds.reverse
  | _, _, .nil => .nil
  | _, _, .cons h t => by
    rw [List.reverse_cons, List.reverse_cons]
    exact (RpAll.reverse t).append (.cons h .nil)
theorem RpAll.set {i : Nat} {v : V} {d : D} (h : Rp K F os v d) : ∀ {vs : List V} {ds : List D}, RpAll K F os vs ds → RpAll K F os (vs.set i v) (ds.set i d) := by
  intro vs ds t
  induction i generalizing vs ds with
  | zero => cases t with
    | nil => exact .nil
    | cons _ t => exact .cons h t
  | succ i ih => cases t with
    | nil => exact .nil
    | cons h' t => exact .cons h' (ih t)
theorem RpAll.strs {ys : List Str} (hl : ∀ y ∈ ys, StrOk y.cps.toList) : RpAll K F os (ys.map V.str) (ys.map fun y => D.str y.cps.toList) := by
  induction ys with
  | nil => exact .nil
  | cons y r ih => exact .cons (.str rfl (hl y (List.mem_cons_self ..))) (ih fun z hz => hl z (List.mem_cons_of_mem _ hz))
/-- of texts alone -/
theorem RpAll.ofStrs : ∀ {vs : List V} {ls : List (List Nat)}, RpAll K F os vs (ls.map D.str) → ∃ ys : List Str, vs = ys.map V.str ∧ ys.map (fun y => y.cps.toList) = ls := by
  intro vs ls h
  induction ls generalizing vs with
  | nil => cases h; exact ⟨[], rfl, rfl⟩
  | cons l r ih =>
    cases h with
    | cons h t =>
      obtain ⟨ys, e1, e2⟩ := ih t
      cases h with
      | str e _ => exact ⟨_ :: ys, by rw [List.map_cons, e1], by rw [List.map_cons, e, e2]⟩
theorem RpAll.ofInts : ∀ {vs : List V} {ns : List Int}, RpAll K F os vs (ns.map D.int) → vs = ns.map V.int := by
  intro vs ns h
  induction ns generalizing vs with
  | nil => cases h; rfl
  | cons n r ih =>
    cases h with
    | cons h t => cases h; rw [List.map_cons, ih t]
theorem RpAll.ofBools : ∀ {vs : List V} {ns : List Bool}, RpAll K F os vs (ns.map D.bool) → vs = ns.map V.bl := by
  intro vs ns h
  induction ns generalizing vs with
  | nil => cases h; rfl
  | cons n r ih =>
    cases h with
    | cons h t => cases h; rw [List.map_cons, ih t]
end

/-! ### intakes -/
def zAd (zs : List (Addr × Addr)) : List Addr := zs.flatMap fun p => [p.1, p.2]
abbrev osOf (zs : List (Addr × Addr)) : List Addr := zs.map (·.1)
def NT (o : HO) : Prop := ∀ ps, o ≠ .tbl ps

def IkAt (G : Gc) (F H : Hp) (os : List Addr) (p : Addr × Addr) (i : Ik) : Prop :=
  ∃ (dx : Addr) (v : V) (r : Str) (ts : List Str), H p.1 = some (.ins G.CI dx [("plan", v), ("texts", .ref p.2), ("rest", .str r)]) ∧ Rp G.K F os v i.plan ∧ r.cps.toList = i.rest ∧ StrOk i.rest ∧
    H p.2 = some (.lst (ts.map V.str)) ∧ ts.map (fun t => t.cps.toList) = i.texts ∧ ∀ t ∈ i.texts, StrOk t

structure StoRel (G : Gc) (F H : Hp) (zs : List (Addr × Addr)) (st : Sto) : Prop where
  len : zs.length = st.length
  at_ : ∀ (k : Nat) p i, zs[k]? = some p → st[k]? = some i → IkAt G F H (osOf zs) p i
  nd : (zAd zs).Nodup
  fr : ∀ a ∈ zAd zs, F a = none
  tab : LamX.Tabs G.T H
  nt : ∀ a ps, F a ≠ some (.tbl ps)

/-! ### what grows, what is kept -/
/-- free, or a table -/
def Fr (H : Hp) (a : Addr) : Prop := ∀ o, H a = some o → ¬ NT o
theorem Fr.of {H : Hp} {a : Addr} (h : H a = none) : Fr H a := fun o e => by rw [h] at e; cases e
theorem Fr.ne {H : Hp} {a b : Addr} {o : HO} (h : Fr H a) (e : H b = some o) (n : NT o) : b ≠ a := fun z => h o (z ▸ e) n
/-- a step that only adds objects -/
structure Grw (F H F' H' : Hp) : Prop where
  f : Same F F'
  sub : Same F' H'
  h : Same H H'
  new : ∀ a o, F' a = some o → F a = some o ∨ Fr H a
  nt : ∀ a o, F' a = some o → F a = some o ∨ NT o
/-- any step of a callee: the intakes may change -/
structure Ext (F H : Hp) (zs : List (Addr × Addr)) (F' H' : Hp) (zs' : List (Addr × Addr)) : Prop where
  f : Same F F'
  sub : Same F' H'
  z : zs <+: zs'
  h : ∀ a o, H a = some o → a ∉ zAd zs → NT o → H' a = some o
  new : ∀ a o, F' a = some o → F a = some o ∨ Fr H a
  znew : ∀ a, a ∈ zAd zs' → a ∈ zAd zs ∨ Fr H a
  there : ∀ a o, H a = some o → NT o → ∃ o', H' a = some o' ∧ NT o'

theorem zAd_pre {zs zs' : List (Addr × Addr)} (h : zs <+: zs') : ∀ a, a ∈ zAd zs → a ∈ zAd zs' := by
  obtain ⟨t, rfl⟩ := h
  intro a ha
  unfold zAd at *
  rw [List.flatMap_append]
  exact List.mem_append_left _ ha
theorem os_pre {zs zs' : List (Addr × Addr)} (h : zs <+: zs') : osOf zs <+: osOf zs' := by
  obtain ⟨t, rfl⟩ := h
  exact ⟨osOf t, by simp [osOf]⟩

section
variable {G : Gc} {F H F' H' F2 H2 : Hp} {zs zs' zs2 : List (Addr × Addr)} {st st' : Sto}
theorem Grw.refl (s : Same F H) : Grw F H F H := ⟨Same.refl _, s, Same.refl _, fun _ _ h => .inl h, fun _ _ h => .inl h⟩
theorem Grw.trans (a : Grw F H F' H') (b : Grw F' H' F2 H2) : Grw F H F2 H2 := ⟨a.f.trans b.f, b.sub, a.h.trans b.h, fun x o e => by
  rcases b.new x o e with q | q
  · exact a.new x o q
  · exact .inr fun u z n => q u (a.h x u z) n, fun x o e => (b.nt x o e).elim (a.nt x o) .inr⟩
theorem Ext.refl (s : Same F H) : Ext F H zs F H zs := ⟨Same.refl _, s, List.prefix_refl _, fun _ _ h _ _ => h, fun _ _ h => .inl h, fun _ h => .inl h, fun _ o h n => ⟨o, h, n⟩⟩
theorem Ext.trans (a : Ext F H zs F' H' zs') (b : Ext F' H' zs' F2 H2 zs2) : Ext F H zs F2 H2 zs2 where
  f := a.f.trans b.f
  sub := b.sub
  z := a.z.trans b.z
  h := fun x o e n t => b.h x o (a.h x o e n t) (fun q => by
    rcases a.znew x q with z | z
    · exact n z
    · exact z o e t) t
  new := fun x o e => by
    rcases b.new x o e with q | q
    · exact a.new x o q
    · exact .inr fun u z nu => by
        obtain ⟨u', hu, nu'⟩ := a.there x u z nu
        exact q u' hu nu'
  znew := fun x hx => by
    rcases b.znew x hx with q | q
    · exact a.znew x q
    · exact .inr fun u z nu => by
        obtain ⟨u', hu, nu'⟩ := a.there x u z nu
        exact q u' hu nu'
  there := fun x o e n => by
    obtain ⟨o', h', n'⟩ := a.there x o e n
    exact b.there x o' h' n'
theorem Grw.ext (g : Grw F H F' H') : Ext F H zs F' H' zs := ⟨g.f, g.sub, List.prefix_refl _, fun a o e _ _ => g.h a o e, g.new, fun _ h => .inl h, fun a o e n => ⟨o, g.h a o e, n⟩⟩
theorem Grw.one (s : Same F H) {p : Addr} {o : HO} (hp : H p = none) (ho : NT o := by intro _ z; cases z) : Grw F H (upd F p o) (upd H p o) := by
  have hf : F p = none := s.free hp
  refine ⟨fun b u e => ?_, fun b u e => ?_, fun b u e => ?_, fun b u e => ?_, fun b u e => ?_⟩
  · rw [upd_ne (ne_of_none e hf)]; exact e
  · by_cases hb : b = p
    · subst hb; rw [upd_same] at e ⊢; exact e
    · rw [upd_ne hb] at e ⊢; exact s b u e
  · rw [upd_ne (ne_of_none e hp)]; exact e
  · by_cases hb : b = p
    · subst hb; exact .inr (.of hp)
    · rw [upd_ne hb] at e; exact .inl e
  · by_cases hb : b = p
    · subst hb; rw [upd_same] at e; cases e; exact .inr ho
    · rw [upd_ne hb] at e; exact .inl e
/-- a new object that is not frozen -/
theorem Grw.oneH (s : Same F H) {p : Addr} {o : HO} (hp : H p = none) : Grw F H F (upd H p o) := by
  refine ⟨Same.refl _, fun b u e => ?_, fun b u e => ?_, fun b u e => .inl e, fun b u e => .inl e⟩
  · rw [upd_ne (ne_of_none (s b u e) hp)]; exact s b u e
  · rw [upd_ne (ne_of_none e hp)]; exact e
theorem mem_zAd {zs : List (Addr × Addr)} {a : Addr} (h : a ∈ zAd zs) : ∃ (k : Nat) (p : Addr × Addr), zs[k]? = some p ∧ (a = p.1 ∨ a = p.2) := by
  unfold zAd at h
  obtain ⟨p, hp, hx⟩ := List.mem_flatMap.mp h
  obtain ⟨k, hk⟩ := List.getElem?_of_mem hp
  exact ⟨k, p, hk, by simpa using hx⟩
theorem StoRel.thereN (S : StoRel G F H zs st) {a : Addr} (ha : a ∈ zAd zs) : ∃ o, H a = some o ∧ NT o := by
  obtain ⟨k, p, hk, e⟩ := mem_zAd ha
  have hl : k < st.length := by rw [← S.len]; exact (List.getElem?_eq_some_iff.mp hk).1
  obtain ⟨dx, v, r, ts, h1, _, _, _, h2, _⟩ := S.at_ k p st[k] hk (by simp [hl])
  rcases e with rfl | rfl
  · exact ⟨_, h1, fun _ z => by cases z⟩
  · exact ⟨_, h2, fun _ z => by cases z⟩
theorem StoRel.there (S : StoRel G F H zs st) {a : Addr} (ha : a ∈ zAd zs) : ∃ o, H a = some o := (S.thereN ha).imp fun _ h => h.1
theorem StoRel.grow (S : StoRel G F H zs st) (g : Grw F H F' H') : StoRel G F' H' zs st where
  len := S.len
  at_ := fun k p i h1 h2 => by
    obtain ⟨dx, v, r, ts, a1, a2, a3, a4, a5, a6⟩ := S.at_ k p i h1 h2
    exact ⟨dx, v, r, ts, g.h _ _ a1, a2.mono g.f (List.prefix_refl _), a3, a4, g.h _ _ a5, a6⟩
  nd := S.nd
  fr := fun a ha => by
    cases q : F' a with
    | none => rfl
    | some o =>
      rcases g.new a o q with z | z
      · rw [S.fr a ha] at z; cases z
      · obtain ⟨o', h, n⟩ := S.thereN ha
        exact (z o' h n).elim
  tab := S.tab.ext g.h
  nt := fun a ps e => (g.nt a _ e).elim (S.nt a ps) fun z => z ps rfl
theorem StoRel.notz (S : StoRel G F H zs st) {a : Addr} (ha : H a = none) : a ∉ zAd zs := fun h => by
  obtain ⟨o, e⟩ := S.there h
  rw [ha] at e; cases e
/-- an object that is no table and no code object is written: the tables stand -/
theorem tabs_upd {T : List (Addr × Str)} (t : LamX.Tabs T H) {a : Addr} {o u : HO} (ha : H a = some u) (h1 : NT u) (h2 : ∀ φ, u ≠ .ext φ) : LamX.Tabs T (upd H a o) := fun p hp => by
  obtain ⟨ps, e1, e2, e3⟩ := t p hp
  have ne : p.1 ≠ a := ne_of e1 ha fun z => h1 ps z.symm
  refine ⟨ps, by rw [upd_ne ne]; exact e1, e2, fun pos cv hc => ?_⟩
  obtain ⟨c, x1, x2⟩ := e3 pos cv hc
  refine ⟨c, x1, ?_⟩
  have ne2 : c ≠ a := ne_of x2 ha fun z => h2 _ z.symm
  rw [upd_ne ne2]; exact x2
end

/-! ### an object that a name owns; what is lent -/
def OwnAt (K : PySem.W.Frag) (F : Hp) (os : List Addr) (H : Hp) (a : Addr) (d : D) : Prop :=
  (∃ vs ds, d = .list ds ∧ H a = some (.lst vs) ∧ RpAll K F os vs ds ∧ ds.length ≤ SZ) ∨
  (∃ kvs ds, d = .dict ds ∧ H a = some (.dK kvs) ∧ RpKv K F os kvs ds ∧ ds.length ≤ SZ)
/-- lent: frozen, or an object of a name's own that stands at the top -/
def Sh (K : PySem.W.Frag) (F H : Hp) (zs : List (Addr × Addr)) (v : V) (d : D) : Prop :=
  Rp K F (osOf zs) v d ∨ ∃ a, v = .ref a ∧ a ∉ zAd zs ∧ OwnAt K F (osOf zs) H a d
section
variable {K : PySem.W.Frag} {G : Gc} {F H F' H' : Hp} {zs zs' : List (Addr × Addr)} {v : V} {d : D} {a : Addr} {os os' : List Addr}
theorem OwnAt.there (h : OwnAt K F os H a d) : ∃ o, H a = some o ∧ NT o ∧ ∀ φ, o ≠ .ext φ := by
  rcases h with ⟨vs, ds, _, h, _⟩ | ⟨vs, ds, _, h, _⟩
  · exact ⟨_, h, (fun _ z => by cases z), fun _ z => by cases z⟩
  · exact ⟨_, h, (fun _ z => by cases z), fun _ z => by cases z⟩
theorem OwnAt.keep (h : OwnAt K F os H a d) (f : Same F F') (p : os <+: os') (e : ∀ o, H a = some o → NT o → H' a = some o) : OwnAt K F' os' H' a d := by
  rcases h with ⟨vs, ds, e1, h1, h2, h3⟩ | ⟨vs, ds, e1, h1, h2, h3⟩
  · exact .inl ⟨vs, ds, e1, e _ h1 (fun _ z => by cases z), h2.mono f p, h3⟩
  · exact .inr ⟨vs, ds, e1, e _ h1 (fun _ z => by cases z), h2.mono f p, h3⟩
theorem Sh.ext (h : Sh K F H zs v d) (x : Ext F H zs F' H' zs') : Sh K F' H' zs' v d := by
  rcases h with h | ⟨a, e, n, o⟩
  · exact .inl (h.mono x.f (os_pre x.z))
  · refine .inr ⟨a, e, fun q => ?_, o.keep x.f (os_pre x.z) fun u hu nt => x.h a u hu n nt⟩
    rcases x.znew a q with z | z
    · exact n z
    · obtain ⟨u, hu, nu, _⟩ := o.there
      exact z u hu nu
theorem Sh.int {i : Int} (h : Sh K F H zs v (.int i)) : v = .int i := by
  rcases h with h | ⟨a, _, _, ⟨_, _, e, _⟩ | ⟨_, _, e, _⟩⟩
  · cases h; rfl
  · cases e
  · cases e
theorem Sh.bool {b : Bool} (h : Sh K F H zs v (.bool b)) : v = .bl b := by
  rcases h with h | ⟨a, _, _, ⟨_, _, e, _⟩ | ⟨_, _, e, _⟩⟩
  · cases h; rfl
  · cases e
  · cases e
theorem Sh.non (h : Sh K F H zs v .non) : v = .non := by
  rcases h with h | ⟨a, _, _, ⟨_, _, e, _⟩ | ⟨_, _, e, _⟩⟩
  · cases h; rfl
  · cases e
  · cases e
theorem Sh.str {l : List Nat} (h : Sh K F H zs v (.str l)) : ∃ x : Str, v = .str x ∧ x.cps.toList = l ∧ StrOk l := by
  rcases h with h | ⟨a, _, _, ⟨_, _, e, _⟩ | ⟨_, _, e, _⟩⟩
  · cases h with
    | str h1 h2 => exact ⟨_, rfl, h1, h2⟩
  · cases e
  · cases e
theorem Sh.tup {ds : List D} (h : Sh K F H zs v (.tup ds)) : ∃ a vs, v = .ref a ∧ SqT K F a vs ∧ RpAll K F (osOf zs) vs ds ∧ ds.length ≤ SZ := by
  rcases h with h | ⟨a, _, _, ⟨_, _, e, _⟩ | ⟨_, _, e, _⟩⟩
  · cases h with
    | tup h1 h2 h3 => exact ⟨_, _, rfl, h1, h2, h3⟩
  · cases e
  · cases e
theorem Sh.list {ds : List D} (s : Same F H) (h : Sh K F H zs v (.list ds)) : ∃ a vs, v = .ref a ∧ H a = some (.lst vs) ∧ RpAll K F (osOf zs) vs ds ∧ ds.length ≤ SZ := by
  rcases h with h | ⟨a, rfl, _, ⟨vs, ds', e, h1, h2, h3⟩ | ⟨_, _, e, _⟩⟩
  · cases h with
    | lst h1 h2 h3 => exact ⟨_, _, rfl, s _ _ h1, h2, h3⟩
  · cases e; exact ⟨a, vs, rfl, h1, h2, h3⟩
  · cases e
theorem Sh.ro {ds : List D} (h : Sh K F H zs v (.ro ds)) : ∃ a vs, v = .ref a ∧ SqL K F a vs ∧ RpAll K F (osOf zs) vs ds ∧ ds.length ≤ SZ := by
  rcases h with h | ⟨a, _, _, ⟨_, _, e, _⟩ | ⟨_, _, e, _⟩⟩
  · cases h with
    | ro h1 h2 h3 => exact ⟨_, _, rfl, h1, h2, h3⟩
  · cases e
  · cases e
theorem Sh.dict {ds : List (List Nat × D)} (s : Same F H) (h : Sh K F H zs v (.dict ds)) : ∃ a kvs, v = .ref a ∧ H a = some (.dK kvs) ∧ RpKv K F (osOf zs) kvs ds ∧ ds.length ≤ SZ := by
  rcases h with h | ⟨a, rfl, _, ⟨_, _, e, _⟩ | ⟨kvs, ds', e, h1, h2, h3⟩⟩
  · cases h with
    | dct h1 h2 h3 => exact ⟨_, _, rfl, s _ _ h1, h2, h3⟩
  · cases e
  · cases e; exact ⟨a, kvs, rfl, h1, h2, h3⟩
/-- not an object of a name's own: frozen -/
theorem Sh.rp (h : Sh K F H zs v d) (hl : ∀ ds, d ≠ .list ds) (hd : ∀ ds, d ≠ .dict ds) : Rp K F (osOf zs) v d := by
  rcases h with h | ⟨a, rfl, _, ⟨_, ds, e, _⟩ | ⟨_, ds, e, _⟩⟩
  · exact h
  · exact absurd e (hl ds)
  · exact absurd e (hd ds)
end

/-! ### what a result is: lent, frozen, or one's own -/
inductive Kd where
  | b | v | o
def Res (K : PySem.W.Frag) (kd : Kd) (H : Hp) (F' H' : Hp) (zs' : List (Addr × Addr)) (v : V) (d : D) : Prop := match kd with
  | .b => Sh K F' H' zs' v d
  | .v => Rp K F' (osOf zs') v d
  | .o => ∃ a, v = .ref a ∧ Fr H a ∧ F' a = none ∧ a ∉ zAd zs' ∧ OwnAt K F' (osOf zs') H' a d

/-- what follows an expression: by its meaning -/
def Post (G : Gc) (E : XK) (kd : Kd) (F H : Hp) (zs : List (Addr × Addr)) (r : R D) (Q : VK) : Prop := match r with
  | .ok d st' => ∀ v H' F' zs', Ext F H zs F' H' zs' → StoRel G F' H' zs' st' → Res G.K kd H F' H' zs' v d → Q v H'
  | .exc c st' => ∀ H' F' zs', Ext F H zs F' H' zs' → StoRel G F' H' zs' st' → E (G.ex c) none H'
  | .bad => False

structure En where
  F : Hp
  H : Hp
  zs : List (Addr × Addr)

/-- the slots and the heap hold what env and st say; O: the slots whose objects are the names' own -/
structure Rel (G : Gc) (N : En) (O : List Nat) (σ : L2.St) (H : Hp) (env : Env) (st : Sto) (F : Hp) (zs : List (Addr × Addr)) : Prop where
  ext : Ext N.F N.H N.zs F H zs
  len : σ.length = env.length
  val : ∀ i d, i ∉ O → env[i]? = some (some d) → ∃ v, σ[i]? = some (some v) ∧ Rp G.K F (osOf zs) v d
  own : ∀ i, i ∈ O → ∃ d a, env[i]? = some (some d) ∧ σ[i]? = some (some (.ref a)) ∧ Fr N.H a ∧ F a = none ∧ a ∉ zAd zs ∧ OwnAt G.K F (osOf zs) H a d
  dis : ∀ i j, i ∈ O → j ∈ O → i ≠ j → σ[i]? ≠ σ[j]?
  sto : StoRel G F H zs st
section
variable {G : Gc} {N : En} {O : List Nat} {σ : L2.St} {F H F' H' : Hp} {env : Env} {st st' : Sto} {zs zs' : List (Addr × Addr)}
theorem Rel.sub (r : Rel G N O σ H env st F zs) : Same F H := r.ext.sub
theorem Rel.step (r : Rel G N O σ H env st F zs) (x : Ext F H zs F' H' zs') (S : StoRel G F' H' zs' st') : Rel G N O σ H' env st' F' zs' where
  ext := r.ext.trans x
  len := r.len
  val := fun i d hi e => by
    obtain ⟨v, h1, h2⟩ := r.val i d hi e
    exact ⟨v, h1, h2.mono x.f (os_pre x.z)⟩
  own := fun i hi => by
    obtain ⟨d, a, h1, h2, h3, h4, h5, h6⟩ := r.own i hi
    obtain ⟨u, hu, nu, _⟩ := h6.there
    refine ⟨d, a, h1, h2, h3, ?_, fun q => ?_, h6.keep x.f (os_pre x.z) fun u hu nt => x.h a u hu h5 nt⟩
    · cases q : F' a with
      | none => rfl
      | some o =>
        rcases x.new a o q with z | z
        · rw [h4] at z; cases z
        · exact (z u hu nu).elim
    · rcases x.znew a q with z | z
      · exact h5 z
      · exact z u hu nu
  dis := r.dis
  sto := S
/-- a name's own objects may be frozen at any time -/
theorem Rel.freeze (r : Rel G N O σ H env st F zs) (i : Nat) : ∃ F', Rel G N (O.filter fun j => decide (j ≠ i)) σ H env st F' zs ∧ Same F F' := by
  by_cases hi : i ∈ O
  · obtain ⟨d, a, h1, h2, h3, h4, h5, h6⟩ := r.own i hi
    obtain ⟨u, hu, hnt, _⟩ := id h6.there
    have sF : Same F (upd F a u) := fun b o e => by rw [upd_ne (ne_of_none e h4)]; exact e
    have sH : Same (upd F a u) H := fun b o e => by
      by_cases hb : b = a
      · subst hb; rw [upd_same] at e; cases e; exact hu
      · rw [upd_ne hb] at e; exact r.sub b o e
    refine ⟨upd F a u, ⟨⟨r.ext.f.trans sF, sH, r.ext.z, r.ext.h, fun b o e => ?_, r.ext.znew, r.ext.there⟩, r.len, fun j d' hj e => ?_, fun j hj => ?_, fun j k hj hk => r.dis j k (List.mem_filter.mp hj).1 (List.mem_filter.mp hk).1, ?_⟩, sF⟩
    · by_cases hb : b = a
      · subst hb; exact .inr h3
      · rw [upd_ne hb] at e; exact r.ext.new b o e
    · by_cases hji : j = i
      · subst hji
        rw [h1] at e; cases e
        refine ⟨_, h2, ?_⟩
        rcases h6 with ⟨vs, ds, rfl, x1, x2, x3⟩ | ⟨vs, ds, rfl, x1, x2, x3⟩
        · rw [x1] at hu; cases hu
          exact .lst upd_same (x2.mono sF (List.prefix_refl _)) x3
        · rw [x1] at hu; cases hu
          exact .dct upd_same (x2.mono sF (List.prefix_refl _)) x3
      · have hjO : j ∉ O := fun z => hj (List.mem_filter.mpr ⟨z, by simpa using hji⟩)
        obtain ⟨v, e1, e2⟩ := r.val j d' hjO e
        exact ⟨v, e1, e2.mono sF (List.prefix_refl _)⟩
    · obtain ⟨hjO, hji⟩ := List.mem_filter.mp hj
      have hji : j ≠ i := by simpa using hji
      obtain ⟨d', a', k1, k2, k3, k4, k5, k6⟩ := r.own j hjO
      have ne : a' ≠ a := fun z => r.dis j i hjO hi hji (by rw [k2, h2, z])
      exact ⟨d', a', k1, k2, k3, by rw [upd_ne ne]; exact k4, k5, k6.keep sF (List.prefix_refl _) fun o e _ => e⟩
    · refine ⟨r.sto.len, fun k p i' q1 q2 => ?_, r.sto.nd, fun b hb => ?_, r.sto.tab, fun b ps e => ?_⟩
      · obtain ⟨dx, v, rr, ts, a1, a2, a3⟩ := r.sto.at_ k p i' q1 q2
        exact ⟨dx, v, rr, ts, a1, a2.mono sF (List.prefix_refl _), a3⟩
      · have ne : b ≠ a := fun z => h5 (by rw [← z]; exact hb)
        rw [upd_ne ne]; exact r.sto.fr b hb
      · by_cases hb : b = a
        · rw [hb, upd_same] at e
          obtain ⟨u2, hu2, n2, _⟩ := h6.there
          rw [hu2] at hu; cases hu; cases e; exact n2 ps rfl
        · rw [upd_ne hb] at e; exact r.sto.nt b ps e
  · have e : (O.filter fun j => decide (j ≠ i)) = O := List.filter_eq_self.mpr fun j hj => by
      have : j ≠ i := fun z => hi (by rw [← z]; exact hj)
      simpa using this
    rw [e]
    exact ⟨F, r, Same.refl _⟩
end
end Dn

/-! Dn2: readings by meanings; expressions. -/
namespace Dn
open PySem PySem.Spec PyProof.Rows L2

theorem PE.imp {X : Cx} {e : Expr} {t t' : TE} (h : PE X e t) (w : ∀ σ H Q, t' σ H Q → t σ H Q) : PE X e t' := ⟨fun pins s σ H Q I q => h.run pins s σ H Q I (w σ H Q q)⟩
theorem PT.imp {X : Cx} {e : Expr} {t t' : TT} (h : PT X e t) (w : ∀ σ H Q, t' σ H Q → t σ H Q) : PT X e t' := ⟨fun pins s σ H Q I q => h.run pins s σ H Q I (w σ H Q q)⟩
theorem PW.imp {X : Cx} {e : Expr} {t t' : TT} (h : PW X e t) (w : ∀ σ H Q, t' σ H Q → t σ H Q) : PW X e t' := ⟨fun wh pins s σ H Q I q => h.run wh pins s σ H Q I (w σ H Q q)⟩
theorem PA.imp {X : Cx} {e : List Expr} {t t' : TA} (h : PA X e t) (w : ∀ σ H Q, t' σ H Q → t σ H Q) : PA X e t' := ⟨fun pos pins s σ H Q I q => h.run pos pins s σ H Q I (w σ H Q q)⟩
theorem PS.imp {X : Cx} {e : Stmt} {t t' : TS} (h : PS X e t) (w : ∀ D σ H, t' D σ H → t D σ H) : PS X e t' := ⟨fun pins s σ H D I q => h.run pins s σ H D I (w D σ H q)⟩
theorem PSs.imp {X : Cx} {e : List Stmt} {t t' : TS} (h : PSs X e t) (w : ∀ D σ H, t' D σ H → t D σ H) : PSs X e t' := ⟨fun pins s σ H D I q => h.run pins s σ H D I (w D σ H q)⟩
theorem PI.imp {X : Cx} {tg e : Expr} {t t' : TI} (h : PI X tg e t) (w : ∀ σ H R, t' σ H R → t σ H R) : PI X tg e t' := ⟨fun pins s σ H R I q => h.run pins s σ H R I (w σ H R q)⟩
theorem PI.or {X : Cx} {tg e : Expr} {t t' : TI} (h : PI X tg e t) (h' : PI X tg e t') : PI X tg e (fun σ H R => t σ H R ∨ t' σ H R) := ⟨fun pins s σ H R I q => q.elim (h.run pins s σ H R I) (h'.run pins s σ H R I)⟩

/-- an expression's reading by its meaning -/
def TEk (G : Gc) (E : XK) (N : En) (O : List Nat) (kd : Kd) (m : ME) : TE := fun σ H Q => ∃ env st F zs, Rel G N O σ H env st F zs ∧ Post G E kd F H zs (m env st) Q
def PostT (G : Gc) (E : XK) (F H : Hp) (zs : List (Addr × Addr)) (r : R D) (Q : Bool → Hp → Prop) : Prop := match r with
  | .ok (.bool b) st' => ∀ H' F' zs', Ext F H zs F' H' zs' → StoRel G F' H' zs' st' → Q b H'
  | .exc c st' => ∀ H' F' zs', Ext F H zs F' H' zs' → StoRel G F' H' zs' st' → E (G.ex c) none H'
  | _ => False
def TTk (G : Gc) (E : XK) (N : En) (O : List Nat) (m : ME) : TT := fun σ H Q => ∃ env st F zs, Rel G N O σ H env st F zs ∧ PostT G E F H zs (m env st) Q
def ResA (K : PySem.W.Frag) (kd : Kd) (F' H' : Hp) (zs' : List (Addr × Addr)) (vs : List V) (ds : List D) : Prop := match kd with
  | .b => Paired (Sh K F' H' zs') vs ds
  | _ => RpAll K F' (osOf zs') vs ds
def PostA (G : Gc) (E : XK) (kd : Kd) (F H : Hp) (zs : List (Addr × Addr)) (r : R (List D)) (Q : List V → Hp → Prop) : Prop := match r with
  | .ok ds st' => ∀ vs H' F' zs', Ext F H zs F' H' zs' → StoRel G F' H' zs' st' → ResA G.K kd F' H' zs' vs ds → Q vs H'
  | .exc c st' => ∀ H' F' zs', Ext F H zs F' H' zs' → StoRel G F' H' zs' st' → E (G.ex c) none H'
  | .bad => False
def TAk (G : Gc) (E : XK) (N : En) (O : List Nat) (kd : Kd) (m : MA) : TA := fun σ H Q => ∃ env st F zs, Rel G N O σ H env st F zs ∧ PostA G E kd F H zs (m env st) Q

theorem StoRel.fz {G : Gc} {F H : Hp} {zs : List (Addr × Addr)} {st : Sto} (S : StoRel G F H zs st) {a : Addr} {u : HO} (h4 : F a = none) (h5 : a ∉ zAd zs) (hu : NT u) : StoRel G (upd F a u) H zs st := by
  have sF : Same F (upd F a u) := fun b o e => by rw [upd_ne (ne_of_none e h4)]; exact e
  refine ⟨S.len, fun k p i' q1 q2 => ?_, S.nd, fun b hb => ?_, S.tab, fun b ps e => ?_⟩
  · obtain ⟨dx, v, rr, ts, a1, a2, a3⟩ := S.at_ k p i' q1 q2
    exact ⟨dx, v, rr, ts, a1, a2.mono sF (List.prefix_refl _), a3⟩
  · have ne : b ≠ a := fun z => h5 (by rw [← z]; exact hb)
    rw [upd_ne ne]; exact S.fr b hb
  · by_cases hb : b = a
    · rw [hb, upd_same] at e; cases e; exact hu ps rfl
    · rw [upd_ne hb] at e; exact S.nt b ps e
theorem OwnAt.frozen {K : PySem.W.Frag} {F H : Hp} {os : List Addr} {a : Addr} {d : D} (h : OwnAt K F os H a d) (h4 : F a = none) : ∃ u, H a = some u ∧ Rp K (upd F a u) os (.ref a) d ∧ NT u := by
  rcases h with ⟨vs, ds, rfl, x1, x2, x3⟩ | ⟨vs, ds, rfl, x1, x2, x3⟩
  · refine ⟨_, x1, .lst upd_same (x2.mono (fun b o e => ?_) (List.prefix_refl _)) x3, fun _ z => by cases z⟩
    rw [upd_ne (ne_of_none e h4)]; exact e
  · refine ⟨_, x1, .dct upd_same (x2.mono (fun b o e => ?_) (List.prefix_refl _)) x3, fun _ z => by cases z⟩
    rw [upd_ne (ne_of_none e h4)]; exact e
section
variable {G : Gc} {E : XK} {N : En} {O : List Nat} {F H F' H' F2 H2 : Hp} {zs zs' zs2 : List (Addr × Addr)} {X : Cx} {e a b c : Expr} {m ma mb mc : ME} {kd : Kd}

theorem Res.vb {v : V} {d : D} {K : PySem.W.Frag} (h : Res K .v H F' H' zs' v d) : Res K .b H F' H' zs' v d := .inl h
/-- one's own, frozen at once -/
theorem Post.ov {r : R D} {Q : VK} (h : Post G E .v F H zs r Q) : Post G E .o F H zs r Q := by
  cases r with
  | ok d st =>
    rintro v H' F' zs' x S ⟨a, rfl, h1, h2, h3, h4⟩
    obtain ⟨u, hu, rp, hnt⟩ := h4.frozen h2
    refine h _ H' (upd F' a u) zs' ⟨x.f.trans fun b o e => by rw [upd_ne (ne_of_none e h2)]; exact e, fun b o e => ?_, x.z, x.h, fun b o e => ?_, x.znew, x.there⟩ (S.fz h2 h3 hnt) rp
    · by_cases hb : b = a
      · subst hb; rw [upd_same] at e; cases e; exact hu
      · rw [upd_ne hb] at e; exact x.sub b o e
    · by_cases hb : b = a
      · subst hb; exact .inr h1
      · rw [upd_ne hb] at e; exact x.new b o e
  | exc c st => exact h
  | bad => exact h
theorem Post.vb {r : R D} {Q : VK} (h : Post G E .b F H zs r Q) : Post G E .v F H zs r Q := by
  cases r with
  | ok d st => exact fun v H' F' zs' x S q => h v H' F' zs' x S (.inl q)
  | exc c st => exact h
  | bad => exact h
theorem c_ov (h : PE X e (TEk G E N O .o m)) : PE X e (TEk G E N O .v m) := PE.imp h fun _ _ _ ⟨env, st, F, zs, r, p⟩ => ⟨env, st, F, zs, r, p.ov⟩
theorem c_vb (h : PE X e (TEk G E N O .v m)) : PE X e (TEk G E N O .b m) := PE.imp h fun _ _ _ ⟨env, st, F, zs, r, p⟩ => ⟨env, st, F, zs, r, p.vb⟩
theorem c_ob (h : PE X e (TEk G E N O .o m)) : PE X e (TEk G E N O .b m) := c_vb (c_ov h)

theorem Res.back {v : V} {d : D} {K : PySem.W.Frag} (x : Ext F H zs F2 H2 zs2) (h : Res K kd H2 F' H' zs' v d) : Res K kd H F' H' zs' v d := by
  cases kd with
  | b => exact h
  | v => exact h
  | o =>
    obtain ⟨a, e, h1, h2⟩ := h
    refine ⟨a, e, fun u q n => ?_, h2⟩
    obtain ⟨u', hu, n'⟩ := x.there a u q n
    exact h1 u' hu n'
/-- what follows, seen from an earlier state -/
theorem Post.back {r : R D} {Q : VK} (x : Ext F H zs F2 H2 zs2) (h : Post G E kd F H zs r Q) : Post G E kd F2 H2 zs2 r Q := by
  cases r with
  | ok d st => exact fun v H' F' zs' y S q => h v H' F' zs' (x.trans y) S (q.back x)
  | exc c st => exact fun H' F' zs' y S => h H' F' zs' (x.trans y) S
  | bad => exact h
theorem PostT.back {r : R D} {Q : Bool → Hp → Prop} (x : Ext F H zs F2 H2 zs2) (h : PostT G E F H zs r Q) : PostT G E F2 H2 zs2 r Q := by
  cases r with
  | ok d st => cases d with
    | bool b => exact fun H' F' zs' y S => h H' F' zs' (x.trans y) S
    | _ => exact h
  | exc c st => exact fun H' F' zs' y S => h H' F' zs' (x.trans y) S
  | bad => exact h
theorem PostA.back {r : R (List D)} {Q : List V → Hp → Prop} (x : Ext F H zs F2 H2 zs2) (h : PostA G E kd F H zs r Q) : PostA G E kd F2 H2 zs2 r Q := by
  cases r with
  | ok d st => exact fun v H' F' zs' y S q => h v H' F' zs' (x.trans y) S q
  | exc c st => exact fun H' F' zs' y S => h H' F' zs' (x.trans y) S
  | bad => exact h

/-- a first part, then the rest -/
theorem TEk.bind {σ : L2.St} {Q : VK} {α : Type} {f : D → Sto → R α} {PX : Hp → Hp → List (Addr × Addr) → R α → Prop} {r : R D} {env : Env} {st : Sto}
    (rel : Rel G N O σ H env st F zs) (hm : ma env st = r) (back : ∀ {F2 H2 zs2 r}, Ext F H zs F2 H2 zs2 → PX F H zs r → PX F2 H2 zs2 r)
    (hexc : ∀ c st', PX F H zs (.exc c st') → ∀ H' F' zs', Ext F H zs F' H' zs' → StoRel G F' H' zs' st' → E (G.ex c) none H') (hbad : PX F H zs .bad → False)
    (h : PX F H zs (r.bind f))
    (k : ∀ d st1 v H1 F1 zs1, ma env st = .ok d st1 → Ext F H zs F1 H1 zs1 → Rel G N O σ H1 env st1 F1 zs1 → Res G.K kd H F1 H1 zs1 v d → PX F1 H1 zs1 (f d st1) → Q v H1) : TEk G E N O kd ma σ H Q := by
  refine ⟨env, st, F, zs, rel, ?_⟩
  rw [hm]
  cases r with
  | ok d st1 => exact fun v H1 F1 zs1 x S q => k d st1 v H1 F1 zs1 hm x (rel.step x S) q (back x h)
  | exc c st1 => exact hexc c st1 h
  | bad => exact hbad h
theorem post_exc {kd : Kd} {Q : VK} : ∀ c st', Post G E kd F H zs (.exc c st') Q → ∀ H' F' zs', Ext F H zs F' H' zs' → StoRel G F' H' zs' st' → E (G.ex c) none H' := fun _ _ h => h
theorem postT_exc {Q : Bool → Hp → Prop} : ∀ c st', PostT G E F H zs (.exc c st') Q → ∀ H' F' zs', Ext F H zs F' H' zs' → StoRel G F' H' zs' st' → E (G.ex c) none H' := fun _ _ h => h
theorem postA_exc {kd : Kd} {Q : List V → Hp → Prop} : ∀ c st', PostA G E kd F H zs (.exc c st') Q → ∀ H' F' zs', Ext F H zs F' H' zs' → StoRel G F' H' zs' st' → E (G.ex c) none H' := fun _ _ h => h
end

/-! ### rules by values -/
/-- two values -/
def V2 (G : Gc) (kd : Kd) (r : R2) (g : D → D → Option D) : Prop :=
  ∀ (F H : Hp) (zs : List (Addr × Addr)) (st : Sto) (x y : V) (dx dy d : D) (Q : VK), Same F H → StoRel G F H zs st → Sh G.K F H zs x dx → Sh G.K F H zs y dy → g dx dy = some d →
    (∀ v H' F', Grw F H F' H' → Res G.K kd H F' H' zs v d → Q v H') → r x y H Q
/-- several values -/
def VA (G : Gc) (kd : Kd) (r : List V → Hp → VK → Prop) (g : List D → Option D) : Prop :=
  ∀ (F H : Hp) (zs : List (Addr × Addr)) (st : Sto) (xs : List V) (ds : List D) (d : D) (Q : VK), Same F H → StoRel G F H zs st → Paired (Sh G.K F H zs) xs ds → g ds = some d →
    (∀ v H' F', Grw F H F' H' → Res G.K kd H F' H' zs v d → Q v H') → r xs H Q
def V1 (G : Gc) (kd : Kd) (r : V → Hp → VK → Prop) (g : D → Option D) : Prop :=
  ∀ (F H : Hp) (zs : List (Addr × Addr)) (st : Sto) (x : V) (dx d : D) (Q : VK), Same F H → StoRel G F H zs st → Sh G.K F H zs x dx → g dx = some d →
    (∀ v H' F', Grw F H F' H' → Res G.K kd H F' H' zs v d → Q v H') → r x H Q

section
variable {G : Gc} {E : XK} {N : En} {O : List Nat} {X : Cx} {e a b c : Expr} {es : List Expr} {m ma mb mc : ME} {kd : Kd} {pos : Pos} {i : Nat} {x : Str}

theorem post_ofOpt {F H : Hp} {zs : List (Addr × Addr)} {st : Sto} {o : Option D} {Q : VK} (S : StoRel G F H zs st) (h : Post G E kd F H zs (ofOpt o st) Q) :
    ∃ d, o = some d ∧ ∀ v H' F', Grw F H F' H' → Res G.K kd H F' H' zs v d → Q v H' := by
  cases o with
  | none => exact h.elim
  | some d => exact ⟨d, rfl, fun v H' F' g q => h v H' F' zs g.ext (S.grow g) q⟩

theorem c_var (hN : X.N[i]? = some x := by rfl) (hO : i ∉ O := by decide) (hv : Vis X.env.scope x := by first | exact Or.inl rfl | exact Or.inr (Or.inl rfl) | exact Or.inr (Or.inr rfl)) (hd : (x == ("__debug__" : Str)) = false := by decide)
    (hcd : (x == ("__classdict__" : Str)) = false := by decide) : PE X (.Name x pos) (TEk G E N O .v (eVar i)) := by
  refine PE.imp (pe_var hN hv hd hcd) fun σ H Q ⟨env, st, F, zs, r, p⟩ => ?_
  unfold eVar at p
  split at p
  · rename_i d e
    obtain ⟨v, h1, h2⟩ := r.val i d hO e
    exact ⟨v, h1, p v H F zs (Ext.refl r.sub) r.sto h2⟩
  · exact p.elim
theorem c_bor (hN : X.N[i]? = some x := by rfl) (hO : i ∈ O := by decide) (hv : Vis X.env.scope x := by first | exact Or.inl rfl | exact Or.inr (Or.inl rfl) | exact Or.inr (Or.inr rfl)) (hd : (x == ("__debug__" : Str)) = false := by decide)
    (hcd : (x == ("__classdict__" : Str)) = false := by decide) : PE X (.Name x pos) (TEk G E N O .b (eVar i)) := by
  refine PE.imp (pe_var hN hv hd hcd) fun σ H Q ⟨env, st, F, zs, r, p⟩ => ?_
  obtain ⟨d, a, h1, h2, h3, h4, h5, h6⟩ := r.own i hO
  have e : eVar i env st = .ok d st := by simp [eVar, h1]
  rw [e] at p
  exact ⟨_, h2, p _ H F zs (Ext.refl r.sub) r.sto (.inr ⟨a, rfl, h5, h6⟩)⟩
theorem c_const {v : V} {d : D} (h : PE X e (tC v)) (hr : ∀ K F os, Rp K F os v d) : PE X e (TEk G E N O .v (eC d)) :=
  PE.imp h fun σ H Q ⟨env, st, F, zs, r, p⟩ => p v H F zs (Ext.refl r.sub) r.sto (hr _ _ _)
theorem c_int {n : Int} {j : Nat} : PE X (.Constant (.int n) j pos) (TEk G E N O .v (eC (.int n))) := c_const pe_int fun _ _ _ => .int n
theorem c_bl {n : Bool} {j : Nat} : PE X (.Constant (.bool n) j pos) (TEk G E N O .v (eC (.bool n))) := c_const pe_bl fun _ _ _ => .bl n
theorem c_non {j : Nat} : PE X (.Constant .none j pos) (TEk G E N O .v (eC .non)) := c_const pe_non fun _ _ _ => .non
theorem c_str {z : Str} {l : List Nat} {j : Nat} (hz : z.cps.toList = l := by rfl) (hl : StrOk l := by decide) : PE X (.Constant (.str z) j pos) (TEk G E N O .v (eC (.str l))) := c_const pe_str fun _ _ _ => .str hz hl
/-- a module's constant -/
theorem c_glob {v : V} {u : Value} {d : D} (hg : Gl X x) (hm : X.mg x = some u) (r : RelV v u) (hr : ∀ F os, Rp G.K F os v d) (hd : (x == ("__debug__" : Str)) = false := by decide) : PE X (.Name x pos) (TEk G E N O .v (eC d)) :=
  PE.imp (pe_glob hg hm r hd) fun σ H Q ⟨env, st, F, zs, r, p⟩ => p v H F zs (Ext.refl r.sub) r.sto (hr _ _)

theorem te_e2 {r : R2} {g : D → D → Option D} (hv : V2 G kd r g) {σ : L2.St} {H : Hp} {Q : VK} (h : TEk G E N O kd (e2 g ma mb) σ H Q) : tOp r (TEk G E N O .b ma) (TEk G E N O .b mb) σ H Q := by
  obtain ⟨env, st, F, zs, rel, p⟩ := h
  refine TEk.bind (PX := fun F H zs r => Post G E kd F H zs r Q) rel rfl (fun x h => h.back x) post_exc (fun h => h) p fun d st1 v H1 F1 zs1 _ _ rel1 q1 p1 => ?_
  refine TEk.bind (PX := fun F H zs r => Post G E kd F H zs r Q) rel1 rfl (fun x h => h.back x) post_exc (fun h => h) p1 fun d2 st2 v2 H2 F2 zs2 _ x2 rel2 q2 p2 => ?_
  obtain ⟨d3, e3, k⟩ := post_ofOpt rel2.sto p2
  exact hv F2 H2 zs2 st2 v v2 d d2 d3 Q rel2.sub rel2.sto (Sh.ext q1 x2) q2 e3 k
theorem te_e1 {r : V → Hp → VK → Prop} {g : D → Option D} (hv : V1 G kd r g) {σ : L2.St} {H : Hp} {Q : VK} (h : TEk G E N O kd (e1 g ma) σ H Q) : tUn r (TEk G E N O .b ma) σ H Q := by
  obtain ⟨env, st, F, zs, rel, p⟩ := h
  refine TEk.bind (PX := fun F H zs r => Post G E kd F H zs r Q) rel rfl (fun x h => h.back x) post_exc (fun h => h) p fun d st1 v H1 F1 zs1 _ _ rel1 q1 p1 => ?_
  obtain ⟨d3, e3, k⟩ := post_ofOpt rel1.sto p1
  exact hv F1 H1 zs1 st1 v d d3 Q rel1.sub rel1.sto q1 e3 k
theorem c_op {op : Operator} {r : R2} {g : D → D → Option D} (ho : OpR X (binaryOp op) r) (hv : V2 G kd r g) (ha : PE X a (TEk G E N O .b ma)) (hb : PE X b (TEk G E N O .b mb)) : PE X (.BinOp a op b pos) (TEk G E N O kd (e2 g ma mb)) :=
  PE.imp (pe_op ho ha hb) fun _ _ _ h => te_e2 hv h
theorem c_un {op : UnaryOp} {r : V → Hp → VK → Prop} {g : D → Option D} (ho : UnR X (unaryOp op) r) (hv : V1 G kd r g) (ha : PE X a (TEk G E N O .b ma)) : PE X (.UnaryOp op a pos) (TEk G E N O kd (e1 g ma)) :=
  PE.imp (pe_un ho ha) fun _ _ _ h => te_e1 hv h
theorem c_cmp {op : CmpOp} {r : R2} {g : D → D → Option D} (ho : OpR X (compareOp op) r) (hv : V2 G kd r g) (ha : PE X a (TEk G E N O .b ma)) (hb : PE X b (TEk G E N O .b mb)) (hm : behindInMarks op b = false) : PE X (.Compare a [op] [b] pos) (TEk G E N O kd (e2 g ma mb)) :=
  PE.imp (pe_cmpR ho ha hb hm) fun _ _ _ h => te_e2 hv h
/-- a test by the value's reading -/
theorem tt_test {t : TE} {σ : L2.St} {H : Hp} {Q : Bool → Hp → Prop} (w : ∀ Q', TEk G E N O .v m σ H Q' → t σ H Q') (h : TTk G E N O m σ H Q) : tTest t σ H Q := by
  obtain ⟨env, st, F, zs, rel, p⟩ := h
  refine w _ ⟨env, st, F, zs, rel, ?_⟩
  cases e : m env st with
  | ok d st1 =>
    rw [e] at p
    intro v H' F' zs' x S q
    cases d with
    | bool b => cases q; exact ⟨b, rfl, p H' F' zs' x S⟩
    | _ => exact p.elim
  | exc c st1 => rw [e] at p; exact p
  | bad => rw [e] at p; exact p
theorem c_tval (h : PE X e (TEk G E N O .v m)) (he : ∀ whole, isTrue e X.env whole = (do let v ← whole; standAt e.pos; holding [v] (truthy v)) := by intro _; rfl) : PT X e (TTk G E N O m) :=
  PT.imp (pt_val h he) fun _ _ _ h => tt_test (fun _ q => q) h
theorem c_tcmp {op : CmpOp} {r : R2} {g : D → D → Option D} (ho : OpR X (compareOp op) r) (hv : V2 G .v r g) (ha : PE X a (TEk G E N O .b ma)) (hb : PE X b (TEk G E N O .b mb)) (hm : behindInMarks op b = false) : PT X (.Compare a [op] [b] pos) (TTk G E N O (e2 g ma mb)) :=
  PT.imp (pt_cmpR ho ha hb hm) fun _ _ _ h => tt_test (fun _ q => te_e2 hv q) h

/-! ### a < b < c -/
theorem te_chain {r r' : R2} {g g' : D → D → Option D} (hv : V2 G .v r g) (hv' : V2 G .v r' g') {σ : L2.St} {H : Hp} {Q : VK} (h : TEk G E N O .v (eChain g g' ma mb mc) σ H Q) :
    tChain r r' (TEk G E N O .b ma) (TEk G E N O .b mb) (TEk G E N O .b mc) σ H Q := by
  obtain ⟨env, st, F, zs, rel, p⟩ := h
  refine TEk.bind (PX := fun F H zs r => Post G E .v F H zs r Q) rel rfl (fun x h => h.back x) post_exc (fun h => h) p fun d st1 v H1 F1 zs1 _ _ rel1 q1 p1 => ?_
  refine TEk.bind (PX := fun F H zs r => Post G E .v F H zs r Q) rel1 rfl (fun x h => h.back x) post_exc (fun h => h) p1 fun d2 st2 v2 H2 F2 zs2 _ x2 rel2 q2 p2 => ?_
  cases e : g d d2 with
  | none => simp only [e] at p2; exact p2.elim
  | some d3 =>
    refine hv F2 H2 zs2 st2 v v2 d d2 d3 _ rel2.sub rel2.sto (Sh.ext q1 x2) q2 e fun v3 H3 F3 gw rs => ?_
    have x3 : Ext F2 H2 zs2 F3 H3 zs2 := gw.ext
    have S3 := rel2.sto.grow gw
    cases d3 with
    | bool b =>
      cases rs
      refine ⟨b, rfl, ?_⟩
      cases b with
      | true =>
        rw [if_pos rfl]
        simp only [e] at p2
        refine TEk.bind (PX := fun F H zs r => Post G E .v F H zs r Q) (rel2.step x3 S3) rfl (fun x h => h.back x) post_exc (fun h => h) (p2.back x3) fun d4 st4 v4 H4 F4 zs4 _ x4 rel4 q4 p4 => ?_
        obtain ⟨d5, e5, k⟩ := post_ofOpt rel4.sto p4
        exact hv' F4 H4 zs4 st4 v2 v4 d2 d4 d5 Q rel4.sub rel4.sto (Sh.ext (Sh.ext q2 x3) x4) q4 e5 k
      | false =>
        rw [if_neg Bool.false_ne_true]
        simp only [e] at p2
        exact p2 _ H3 F3 zs2 x3 S3 (.bl false)
    | _ => simp only [e] at p2; exact p2.elim
theorem c_chain {op op' : CmpOp} {r r' : R2} {g g' : D → D → Option D} (ho : OpR X (compareOp op) r) (hv : V2 G .v r g) (ho' : OpR X (compareOp op') r') (hv' : V2 G .v r' g')
    (ha : PE X a (TEk G E N O .b ma)) (hb : PE X b (TEk G E N O .b mb)) (hc : PE X c (TEk G E N O .b mc)) (hm : lastMarks [op, op'] [b, c] = false := by with_unfolding_all rfl) :
    PE X (.Compare a [op, op'] [b, c] pos) (TEk G E N O .v (eChain g g' ma mb mc)) := PE.imp (pe_chain ho ho' ha hb hc hm) fun _ _ _ h => te_chain hv hv' h
theorem c_tchain {op op' : CmpOp} {r r' : R2} {g g' : D → D → Option D} (ho : OpR X (compareOp op) r) (hv : V2 G .v r g) (ho' : OpR X (compareOp op') r') (hv' : V2 G .v r' g')
    (ha : PE X a (TEk G E N O .b ma)) (hb : PE X b (TEk G E N O .b mb)) (hc : PE X c (TEk G E N O .b mc)) (hm : lastMarks [op, op'] [b, c] = false := by with_unfolding_all rfl) :
    PT X (.Compare a [op, op'] [b, c] pos) (TTk G E N O (eChain g g' ma mb mc)) := PT.imp (pt_chain ho ho' ha hb hc hm) fun _ _ _ h => tt_test (fun _ q => te_chain hv hv' q) h

/-! ### and, or, not -/
theorem TTk.bind {σ : L2.St} {Q : Bool → Hp → Prop} {H F : Hp} {zs : List (Addr × Addr)} {f : D → Sto → R D} {PX : Hp → Hp → List (Addr × Addr) → R D → Prop} {env : Env} {st : Sto}
    (rel : Rel G N O σ H env st F zs) (back : ∀ {F2 H2 zs2 r}, Ext F H zs F2 H2 zs2 → PX F H zs r → PX F2 H2 zs2 r)
    (hexc : ∀ c st', PX F H zs (.exc c st') → ∀ H' F' zs', Ext F H zs F' H' zs' → StoRel G F' H' zs' st' → E (G.ex c) none H') (hbad : PX F H zs .bad → False)
    (h : PX F H zs ((ma env st).bind f)) (hf : ∀ d st', (∀ b, d ≠ .bool b) → f d st' = .bad)
    (k : ∀ b st1 H1 F1 zs1, Ext F H zs F1 H1 zs1 → Rel G N O σ H1 env st1 F1 zs1 → PX F1 H1 zs1 (f (.bool b) st1) → Q b H1) : TTk G E N O ma σ H Q := by
  refine ⟨env, st, F, zs, rel, ?_⟩
  cases e : ma env st with
  | ok d st1 =>
    rw [e] at h
    cases d with
    | bool b => exact fun H1 F1 zs1 x S => k b st1 H1 F1 zs1 x (rel.step x S) (back x h)
    | _ => exact hbad (by rw [R.bind_ok, hf _ _ (fun b z => by cases z)] at h; exact h)
  | exc c st1 => rw [e] at h; exact hexc c st1 h
  | bad => rw [e] at h; exact hbad h
theorem tt_and {σ : L2.St} {H : Hp} {Q : Bool → Hp → Prop} (h : TTk G E N O (eAnd ma mb) σ H Q) : tAnd (TTk G E N O ma) (TTk G E N O mb) σ H Q := by
  obtain ⟨env, st, F, zs, rel, p⟩ := h
  refine TTk.bind (PX := fun F H zs r => PostT G E F H zs r Q) rel (fun x h => h.back x) postT_exc (fun h => h) p (fun d st' hd => by cases d <;> first | rfl | exact absurd rfl (hd _)) fun b st1 H1 F1 zs1 x rel1 p1 => ?_
  cases b with
  | true => rw [if_pos rfl]; exact ⟨env, st1, F1, zs1, rel1, p1⟩
  | false => rw [if_neg Bool.false_ne_true]; exact p1 H1 F1 zs1 (Ext.refl rel1.sub) rel1.sto
theorem tt_or {σ : L2.St} {H : Hp} {Q : Bool → Hp → Prop} (h : TTk G E N O (eOr ma mb) σ H Q) : tOr (TTk G E N O ma) (TTk G E N O mb) σ H Q := by
  obtain ⟨env, st, F, zs, rel, p⟩ := h
  refine TTk.bind (PX := fun F H zs r => PostT G E F H zs r Q) rel (fun x h => h.back x) postT_exc (fun h => h) p (fun d st' hd => by cases d <;> first | rfl | exact absurd rfl (hd _)) fun b st1 H1 F1 zs1 x rel1 p1 => ?_
  cases b with
  | true => rw [if_pos rfl]; exact p1 H1 F1 zs1 (Ext.refl rel1.sub) rel1.sto
  | false => rw [if_neg Bool.false_ne_true]; exact ⟨env, st1, F1, zs1, rel1, p1⟩
theorem tt_not {σ : L2.St} {H : Hp} {Q : Bool → Hp → Prop} (h : TTk G E N O (eNot ma) σ H Q) : tNot (TTk G E N O ma) σ H Q := by
  obtain ⟨env, st, F, zs, rel, p⟩ := h
  exact TTk.bind (PX := fun F H zs r => PostT G E F H zs r Q) rel (fun x h => h.back x) postT_exc (fun h => h) p (fun d st' hd => by cases d <;> first | rfl | exact absurd rfl (hd _)) fun b st1 H1 F1 zs1 x rel1 p1 => p1 H1 F1 zs1 (Ext.refl rel1.sub) rel1.sto
theorem c_wand1 (ha : PT X a (TTk G E N O ma)) : PW X (.BoolOp .And [a] pos) (TTk G E N O ma) := pw_and1 ha
theorem c_wor1 (ha : PT X a (TTk G E N O ma)) : PW X (.BoolOp .Or [a] pos) (TTk G E N O ma) := pw_or1 ha
theorem c_wand (ha : PT X a (TTk G E N O ma)) (hb : PW X (.BoolOp .And (b :: es) pos) (TTk G E N O mb)) : PW X (.BoolOp .And (a :: b :: es) pos) (TTk G E N O (eAnd ma mb)) := PW.imp (pw_and ha hb) fun _ _ _ h => tt_and h
theorem c_wor (ha : PT X a (TTk G E N O ma)) (hb : PW X (.BoolOp .Or (b :: es) pos) (TTk G E N O mb)) : PW X (.BoolOp .Or (a :: b :: es) pos) (TTk G E N O (eOr ma mb)) := PW.imp (pw_or ha hb) fun _ _ _ h => tt_or h
theorem c_tnot (ha : PT X a (TTk G E N O ma)) : PT X (.UnaryOp .Not a pos) (TTk G E N O (eNot ma)) := PT.imp (pt_not ha) fun _ _ _ h => tt_not h
/-- .. as values -/
theorem te_andV {σ : L2.St} {H : Hp} {Q : VK} (h : TEk G E N O .v (eAnd ma mb) σ H Q) : tAndV (TEk G E N O .v ma) (TEk G E N O .v mb) σ H Q := by
  obtain ⟨env, st, F, zs, rel, p⟩ := h
  refine TEk.bind (PX := fun F H zs r => Post G E .v F H zs r Q) rel rfl (fun x h => h.back x) post_exc (fun h => h) p fun d st1 v H1 F1 zs1 _ _ rel1 q1 p1 => ?_
  cases d with
  | bool b =>
    cases q1
    refine ⟨b, rfl, ?_⟩
    cases b with
    | true => rw [if_pos rfl]; exact ⟨env, st1, F1, zs1, rel1, p1⟩
    | false => rw [if_neg Bool.false_ne_true]; exact p1 _ H1 F1 zs1 (Ext.refl rel1.sub) rel1.sto (.bl false)
  | _ => exact p1.elim
theorem te_orV {σ : L2.St} {H : Hp} {Q : VK} (h : TEk G E N O .v (eOr ma mb) σ H Q) : tOrV (TEk G E N O .v ma) (TEk G E N O .v mb) σ H Q := by
  obtain ⟨env, st, F, zs, rel, p⟩ := h
  refine TEk.bind (PX := fun F H zs r => Post G E .v F H zs r Q) rel rfl (fun x h => h.back x) post_exc (fun h => h) p fun d st1 v H1 F1 zs1 _ _ rel1 q1 p1 => ?_
  cases d with
  | bool b =>
    cases q1
    refine ⟨b, rfl, ?_⟩
    cases b with
    | true => rw [if_pos rfl]; exact p1 _ H1 F1 zs1 (Ext.refl rel1.sub) rel1.sto (.bl true)
    | false => rw [if_neg Bool.false_ne_true]; exact ⟨env, st1, F1, zs1, rel1, p1⟩
  | _ => exact p1.elim
theorem c_one {op : BoolOp} (h : PE X a (TEk G E N O kd ma)) : PE X (.BoolOp op [a] pos) (TEk G E N O kd ma) := pe_one h
theorem c_and (ha : PE X a (TEk G E N O .v ma)) (hb : PE X (.BoolOp .And (b :: es) pos) (TEk G E N O .v mb)) : PE X (.BoolOp .And (a :: b :: es) pos) (TEk G E N O .v (eAnd ma mb)) := PE.imp (pe_and ha hb) fun _ _ _ h => te_andV h
theorem c_or (ha : PE X a (TEk G E N O .v ma)) (hb : PE X (.BoolOp .Or (b :: es) pos) (TEk G E N O .v mb)) : PE X (.BoolOp .Or (a :: b :: es) pos) (TEk G E N O .v (eOr ma mb)) := PE.imp (pe_or ha hb) fun _ _ _ h => te_orV h
theorem c_not (ha : PE X a (TEk G E N O .v ma)) : PE X (.UnaryOp .Not a pos) (TEk G E N O .v (eNot ma)) := by
  refine PE.imp (pe_not ha) fun σ H Q ⟨env, st, F, zs, rel, p⟩ => ?_
  refine TEk.bind (PX := fun F H zs r => Post G E .v F H zs r Q) rel rfl (fun x h => h.back x) post_exc (fun h => h) p fun d st1 v H1 F1 zs1 _ _ rel1 q1 p1 => ?_
  cases d with
  | bool b => cases q1; exact ⟨b, rfl, p1 _ H1 F1 zs1 (Ext.refl rel1.sub) rel1.sto (.bl _)⟩
  | _ => exact p1.elim
theorem c_ifExp (hc : PT X c (TTk G E N O mc)) (ha : PE X a (TEk G E N O kd ma)) (hb : PE X b (TEk G E N O kd mb)) : PE X (.IfExp c a b pos) (TEk G E N O kd (eIf mc ma mb)) := by
  refine PE.imp (pe_ifExp hc ha hb) fun σ H Q ⟨env, st, F, zs, rel, p⟩ => ?_
  refine TTk.bind (PX := fun F H zs r => Post G E kd F H zs r Q) rel (fun x h => h.back x) post_exc (fun h => h) p (fun d st' hd => by cases d <;> first | rfl | exact absurd rfl (hd _)) fun b st1 H1 F1 zs1 x rel1 p1 => ?_
  cases b with
  | true => rw [if_pos rfl]; exact ⟨env, st1, F1, zs1, rel1, p1⟩
  | false => rw [if_neg Bool.false_ne_true]; exact ⟨env, st1, F1, zs1, rel1, p1⟩

/-! ### arguments, built-ins -/
theorem c_anil {kd : Kd} : PA X [] (TAk G E N O kd aNil) := by
  refine PA.imp pa_nil fun σ H Q ⟨env, st, F, zs, rel, p⟩ => ?_
  refine p [] H F zs (Ext.refl rel.sub) rel.sto ?_
  cases kd with
  | b => exact .nil
  | v => exact .nil
  | o => exact .nil
theorem shAll_ext {K : PySem.W.Frag} {F H F' H' : Hp} {zs zs' : List (Addr × Addr)} (x : Ext F H zs F' H' zs') : ∀ {vs : List V} {ds : List D}, Paired (Sh K F H zs) vs ds → Paired (Sh K F' H' zs') vs ds
  | _, _, .nil => .nil
  | _, _, .cons h t => .cons (h.ext x) (shAll_ext x t)
theorem ta_cons {kd : Kd} (hk : kd ≠ .o) {ms : MA} {σ : L2.St} {H : Hp} {Q : List V → Hp → Prop} (h : TAk G E N O kd (aCons ma ms) σ H Q) : tCons (TEk G E N O kd ma) (TAk G E N O kd ms) σ H Q := by
  obtain ⟨env, st, F, zs, rel, p⟩ := h
  refine TEk.bind (PX := fun F H zs r => PostA G E kd F H zs r Q) rel rfl (fun x h => h.back x) postA_exc (fun h => h) p fun d st1 v H1 F1 zs1 _ _ rel1 q1 p1 => ?_
  refine ⟨env, st1, F1, zs1, rel1, ?_⟩
  have p1 : PostA G E kd F1 H1 zs1 ((ms env st1).bind fun xs st => .ok (d :: xs) st) Q := p1
  cases e : ms env st1 with
  | ok ds st2 =>
    rw [e] at p1
    refine fun vs H2 F2 zs2 x2 S2 q2 => p1 (v :: vs) H2 F2 zs2 x2 S2 ?_
    cases kd with
    | b => exact .cons (Sh.ext q1 x2) q2
    | v => exact .cons (Rp.mono x2.f (os_pre x2.z) q1) q2
    | o => exact absurd rfl hk
  | exc c st2 => rw [e] at p1; exact p1
  | bad => rw [e] at p1; exact p1
theorem c_acons {kd : Kd} {ms : MA} (ha : PE X e (TEk G E N O kd ma)) (ht : PA X es (TAk G E N O kd ms)) (hk : kd ≠ .o := by intro z; cases z) (hs : starEach (e :: es) X.env = (false, eval e X.env) :: starEach es X.env := by rfl) : PA X (e :: es) (TAk G E N O kd (aCons ma ms)) :=
  PA.imp (pa_cons ha ht hs) fun _ _ _ h => ta_cons hk h
theorem ta_eA {r : List V → Hp → VK → Prop} {g : List D → Option D} (hv : VA G kd r g) {ms : MA} {σ : L2.St} {H : Hp} {Q : VK} (h : TEk G E N O kd (eA g ms) σ H Q) : tCB r (TAk G E N O .b ms) σ H Q := by
  obtain ⟨env, st, F, zs, rel, p⟩ := h
  refine ⟨env, st, F, zs, rel, ?_⟩
  have p : Post G E kd F H zs ((ms env st).bind fun xs st => ofOpt (g xs) st) Q := p
  cases e : ms env st with
  | ok ds st1 =>
    rw [e] at p
    refine fun vs H1 F1 zs1 x1 S1 q1 => ?_
    obtain ⟨d, e1, k⟩ := post_ofOpt S1 (p.back x1)
    exact hv F1 H1 zs1 st1 vs ds d Q x1.sub S1 q1 e1 k
  | exc c st1 => rw [e] at p; exact p
  | bad => rw [e] at p; exact p
variable {p : Pos} {id T : String}
/-- a built-in function; a built-in type -/
theorem c_blt {r : List V → Hp → VK → Prop} {g : List D → Option D} {ms : MA} (hc : CallR X (.builtin id) r) (hv : VA G kd r g) (hg : Gl X x) (hm : X.mg x = none) (hb : bootBuiltins x = some (.builtin id)) (ha : PA X (e :: es) (TAk G E N O .b ms)) (hn : x ≠ "__name__" := by decide) (hdb : (x == ("__debug__" : Str)) = false := by decide)
    (he : starEach (e :: es) X.env = (false, eval e X.env) :: starEach es X.env := by rfl) (hpl : (backTo pos (starEach es X.env)).any (·.1) = false := by rfl) : PE X (.Call (.Name x p) (e :: es) [] pos) (TEk G E N O kd (eA g ms)) :=
  PE.imp (pe_callB hc hg hm hb ha hn hdb he hpl) fun _ _ _ h => ta_eA hv h
theorem c_typ {r : List V → Hp → VK → Prop} {g : List D → Option D} {ms : MA} (hc : CallR X (.type T) r) (hv : VA G kd r g) (hg : Gl X x) (hm : X.mg x = none) (hb : bootBuiltins x = some (.type T)) (ha : PA X (e :: es) (TAk G E N O .b ms)) (hn : x ≠ "__name__" := by decide) (hdb : (x == ("__debug__" : Str)) = false := by decide)
    (he : starEach (e :: es) X.env = (false, eval e X.env) :: starEach es X.env := by rfl) (hpl : (backTo pos (starEach es X.env)).any (·.1) = false := by rfl) : PE X (.Call (.Name x p) (e :: es) [] pos) (TEk G E N O kd (eA g ms)) :=
  PE.imp (pe_callTy hc hg hm hb ha hn hdb he hpl) fun _ _ _ h => ta_eA hv h

/-! ### defs -/
def spOf (G : Gc) (kd : Kd) (n : Nat) (f : List D → Sto → R D) : Sp := fun vs H Q E => ∃ F zs ds st, Same F H ∧ StoRel G F H zs st ∧ RpAll G.K F (osOf zs) vs ds ∧ ds.length = n ∧ Post G E kd F H zs (f ds st) Q
theorem te_call {f : List D → Sto → R D} {n : Nat} {ms : MA} (hf : ∀ ds st, ds.length ≠ n → f ds st = .bad) {σ : L2.St} {H : Hp} {Q : VK} (h : TEk G E N O kd (eCall f ms) σ H Q) : tCall (spOf G kd n f) [] E (TAk G E N O .v ms) σ H Q := by
  obtain ⟨env, st, F, zs, rel, p⟩ := h
  refine ⟨env, st, F, zs, rel, ?_⟩
  have p : Post G E kd F H zs ((ms env st).bind fun xs st => f xs st) Q := p
  cases e : ms env st with
  | ok ds st1 =>
    rw [e] at p
    refine fun vs H1 F1 zs1 x1 S1 q1 => ?_
    refine ⟨F1, zs1, ds, st1, x1.sub, S1, by rw [List.append_nil]; exact q1, ?_, p.back x1⟩
    by_cases hl : ds.length = n
    · exact hl
    · rw [R.bind_ok, hf ds st1 hl] at p; exact p.elim
  | exc c st1 => rw [e] at p; exact p
  | bad => rw [e] at p; exact p
theorem runDef_len {ps n : Nat} {m : MS} : ∀ ds st, ds.length ≠ ps → runDef ps n m ds st = .bad := fun ds st h => by unfold runDef; rw [if_neg h]
theorem c_call {CX : CXT} {k n : Nat} {f : Addr} {fd : FuncData} {ps : List Str} {g : List D → Sto → R D} {ms : MA} (Fn : FnOk X.prog X.w X.K X.mg X.base CX k f fd ps (spOf G kd n g)) (hr : Room k X.A) (hg : Gl X x) (hm : X.mg x = some (.ref f)) (hk : PySem.W.keepIn X.K (.ref f) = true) (hb : L2.Binds X.K fd ps []) (hx : Passes CX X E)
    (hf : ∀ ds st, ds.length ≠ n → g ds st = .bad) (ha : PA X (e :: es) (TAk G E N O .v ms)) (hdb : (x == ("__debug__" : Str)) = false := by decide) (he : starEach (e :: es) X.env = (false, eval e X.env) :: starEach es X.env := by rfl) (hpl : (backTo pos (starEach es X.env)).any (·.1) = false := by rfl) :
    PE X (.Call (.Name x p) (e :: es) [] pos) (TEk G E N O kd (eCall g ms)) :=
  PE.imp (pe_call Fn hr hg hm hk hb .nil hx ha hdb he hpl) fun _ _ _ h => te_call hf h
end
end Dn

/-! Dn3: targets, walks, comprehensions, statements, defs. -/
namespace Dn
open PySem PySem.Spec PyProof.Rows L2

def SameBut (is : List Nat) (σ σ' : L2.St) : Prop := σ'.length = σ.length ∧ ∀ j, j ∉ is → σ'[j]? = σ[j]?
theorem SameBut.refl (is : List Nat) (σ : L2.St) : SameBut is σ σ := ⟨rfl, fun _ _ => rfl⟩
theorem SameBut.trans {is : List Nat} {a b c : L2.St} (h : SameBut is a b) (k : SameBut is b c) : SameBut is a c := ⟨k.1.trans h.1, fun j hj => (k.2 j hj).trans (h.2 j hj)⟩
theorem SameBut.mono {is js : List Nat} {a b : L2.St} (h : SameBut is a b) (s : ∀ i ∈ is, i ∈ js) : SameBut js a b := ⟨h.1, fun j hj => h.2 j fun z => hj (s j z)⟩
theorem SameBut.set {i : Nat} {σ : L2.St} {v : Option V} : SameBut [i] σ (σ.set i v) := ⟨by simp, fun j hj => by
  rw [List.getElem?_set_ne]; intro z; exact hj (by simp [z])⟩

section
variable {G : Gc} {N : En} {O : List Nat} {σ : L2.St} {F H F' H' : Hp} {env : Env} {st st' : Sto} {zs zs' : List (Addr × Addr)}
/-- a slot of no object's own is stored -/
theorem Rel.set (r : Rel G N O σ H env st F zs) {i : Nat} (hi : i ∉ O) {v : V} {d : D} (h : Rp G.K F (osOf zs) v d) : Rel G N O (σ.set i (some v)) H (env.set i (some d)) st F zs where
  ext := r.ext
  len := by simp [r.len]
  val := fun j d' hj e => by
    by_cases hji : j = i
    · subst hji
      have hl : j < env.length := by
        by_cases q : j < env.length
        · exact q
        · rw [List.getElem?_eq_none (by simp; omega)] at e; cases e
      rw [List.getElem?_set_self hl] at e
      cases e
      exact ⟨v, by rw [List.getElem?_set_self (by rw [r.len]; exact hl)], h⟩
    · rw [List.getElem?_set_ne (Ne.symm hji)] at e
      obtain ⟨v', h1, h2⟩ := r.val j d' hj e
      exact ⟨v', by rw [List.getElem?_set_ne (Ne.symm hji)]; exact h1, h2⟩
  own := fun j hj => by
    have hji : j ≠ i := fun z => hi (by rw [← z]; exact hj)
    obtain ⟨d', a, h1, h2, h3⟩ := r.own j hj
    exact ⟨d', a, by rw [List.getElem?_set_ne (Ne.symm hji)]; exact h1, by rw [List.getElem?_set_ne (Ne.symm hji)]; exact h2, h3⟩
  dis := fun j k hj hk hjk => by
    have hji : j ≠ i := fun z => hi (by rw [← z]; exact hj)
    have hki : k ≠ i := fun z => hi (by rw [← z]; exact hk)
    rw [List.getElem?_set_ne (Ne.symm hji), List.getElem?_set_ne (Ne.symm hki)]
    exact r.dis j k hj hk hjk
  sto := r.sto
theorem Rel.forget (r : Rel G N O σ H env st F zs) {i : Nat} (hi : i ∉ O) : Rel G N O (σ.set i none) H (env.set i none) st F zs where
  ext := r.ext
  len := by simp [r.len]
  val := fun j d' hj e => by
    by_cases hji : j = i
    · subst hji
      by_cases q : j < env.length
      · rw [List.getElem?_set_self q] at e; cases e
      · rw [List.getElem?_eq_none (by simp; omega)] at e; cases e
    · rw [List.getElem?_set_ne (Ne.symm hji)] at e
      obtain ⟨v', h1, h2⟩ := r.val j d' hj e
      exact ⟨v', by rw [List.getElem?_set_ne (Ne.symm hji)]; exact h1, h2⟩
  own := fun j hj => by
    have hji : j ≠ i := fun z => hi (by rw [← z]; exact hj)
    obtain ⟨d', a, h1, h2, h3⟩ := r.own j hj
    exact ⟨d', a, by rw [List.getElem?_set_ne (Ne.symm hji)]; exact h1, by rw [List.getElem?_set_ne (Ne.symm hji)]; exact h2, h3⟩
  dis := fun j k hj hk hjk => by
    have hji : j ≠ i := fun z => hi (by rw [← z]; exact hj)
    have hki : k ≠ i := fun z => hi (by rw [← z]; exact hk)
    rw [List.getElem?_set_ne (Ne.symm hji), List.getElem?_set_ne (Ne.symm hki)]
    exact r.dis j k hj hk hjk
  sto := r.sto
theorem Rel.wipe (r : Rel G N O σ H env st F zs) : ∀ {vs : List Nat}, (∀ i ∈ vs, i ∉ O) → Rel G N O (L2.wipe σ vs) H (wipeE env vs) st F zs
  | [], _ => r
  | v :: vs, h => (Rel.wipe r fun i hi => h i (List.mem_cons_of_mem _ hi)).forget (h v (List.mem_cons_self ..))
theorem wipe_in {σ : L2.St} {j : Nat} : ∀ {vs : List Nat}, j ∈ vs → j < σ.length → (L2.wipe σ vs)[j]? = some none
  | v :: vs, h, hl => by
    unfold L2.wipe
    by_cases e : v = j
    · subst e; rw [List.getElem?_set_self (by rw [wipe_length]; exact hl)]
    · rw [List.getElem?_set_ne e]
      rcases List.mem_cons.mp h with z | z
      · exact absurd z.symm e
      · exact wipe_in z hl
theorem wipe_sameBut {σ σ2 : L2.St} {vs is : List Nat} (h : SameBut is (L2.wipe σ vs) σ2) (hs : ∀ i ∈ is, i ∈ vs) : L2.wipe σ2 vs = L2.wipe σ vs := by
  have hl : σ2.length = σ.length := by rw [h.1, wipe_length]
  apply List.ext_getElem?
  intro j
  by_cases hj : j < σ.length
  · by_cases hv : j ∈ vs
    · rw [wipe_in hv (by omega), wipe_in hv hj]
    · rw [wipe_out hv, h.2 j (fun z => hv (hs j z))]
  · rw [List.getElem?_eq_none (by rw [wipe_length]; omega), List.getElem?_eq_none (by rw [wipe_length]; omega)]
end

/-! ### targets -/
def TGk (G : Gc) (N : En) (O is : List Nat) (tg : TGt) : TG := fun v σ H Q => ∃ env st F zs d, Rel G N O σ H env st F zs ∧ Rp G.K F (osOf zs) v d ∧
  (match tg d env with
  | some env' => ∀ σ', Rel G N O σ' H env' st F zs → SameBut is σ σ' → Q σ' H
  | none => False)
theorem PG.imp {X : Cx} {tg : Expr} {t t' : TG} (h : PG X tg t) (w : ∀ v σ H Q, t' v σ H Q → t v σ H Q) : PG X tg t' := ⟨fun pins s σ H v u Q I r q => h.run pins s σ H v u Q I r (w v σ H Q q)⟩
theorem PGs.imp {X : Cx} {tg : List Expr} {t t' : TGs} (h : PGs X tg t) (w : ∀ v σ H Q, t' v σ H Q → t v σ H Q) : PGs X tg t' := ⟨fun pins s σ H v u Q I r q => h.run pins s σ H v u Q I r (w v σ H Q q)⟩
def TGsk (G : Gc) (N : En) (O is js : List Nat) : TGs := fun vs σ H Q => ∃ env st F zs ds, Rel G N O σ H env st F zs ∧ RpAll G.K F (osOf zs) vs ds ∧
  (match gSetAll is ds env with
  | some env' => ∀ σ', Rel G N O σ' H env' st F zs → SameBut js σ σ' → Q σ' H
  | none => False)
section
variable {G : Gc} {N : En} {O : List Nat} {X : Cx} {i : Nat} {x : Str} {pos : Pos}
theorem g_name (hN : X.N.Nodup) (hi : X.N[i]? = some x := by rfl) (hO : i ∉ O := by decide) (hx : Loc X.env.scope x := by first | exact Or.inl rfl | exact Or.inr rfl) (hf : X.fn x = true ∨ X.env.scope.names.lookup x = some .local := by first | exact .inl rfl | exact .inr rfl) : PG X (.Name x pos) (TGk G N O [i] (gN i)) := by
  refine PG.imp (pg_name hN hi hx hf) fun v σ H Q ⟨env, st, F, zs, d, r, h, k⟩ => ?_
  unfold gN at k
  by_cases hl : i < env.length
  · simp only [hl, if_true] at k
    exact k _ (r.set hO h) SameBut.set
  · simp only [hl, if_false] at k
theorem gs_nil {js : List Nat} : PGs X [] (TGsk G N O [] js) := by
  refine PGs.imp pgs_nil fun vs σ H Q ⟨env, st, F, zs, ds, r, h, k⟩ => ?_
  cases h with
  | nil => exact ⟨rfl, k σ r (SameBut.refl _ _)⟩
  | cons _ _ => exact k.elim
theorem gs_cons {es : List Expr} {is js : List Nat} (h2 : PGs X es (TGsk G N O is js)) (hN : X.N.Nodup) (hi : X.N[i]? = some x := by rfl) (hO : i ∉ O := by decide) (hj : i ∈ js := by decide) (hx : Loc X.env.scope x := by first | exact Or.inl rfl | exact Or.inr rfl) (hf : X.fn x = true ∨ X.env.scope.names.lookup x = some .local := by first | exact .inl rfl | exact .inr rfl)
    (hs : (assignEach ((.Name x pos) :: es) X.env).map (·.2) = assign (.Name x pos) X.env :: (assignEach es X.env).map (·.2) := by rfl) : PGs X ((.Name x pos) :: es) (TGsk G N O (i :: is) js) := by
  refine PGs.imp (pgs_cons (pg_name hN hi hx hf) h2 hs) fun vs σ H Q ⟨env, st, F, zs, ds, r, h, k⟩ => ?_
  cases h with
  | nil => exact k.elim
  | @cons v vs d ds h t =>
    refine ⟨v, vs, rfl, env.set i (some d), st, F, zs, ds, r.set hO h, t, ?_⟩
    unfold gSetAll at k
    by_cases hl : i < env.length
    · simp only [hl, if_true] at k
      cases e : gSetAll is ds (env.set i (some d)) with
      | none => rw [e] at k; exact k
      | some env' =>
        rw [e] at k
        exact fun σ' r' s' => k σ' r' (SameBut.trans (SameBut.set.mono fun j hj' => by simp at hj'; subst hj'; exact hj) s')
    · simp only [hl, if_false] at k
theorem g_tup {es : List Expr} {is : List Nat} {k : Nat} (hK : X.K = G.K) (hc : X.calm = true) (h : PGs X es (TGsk G N O is is)) (hl : (assignEach es X.env).length = is.length := by rfl) (hst : (assignEach es X.env).findIdx? (·.1) = none := by rfl) : PG X (.Tuple es k pos) (TGk G N O is (gT is)) := by
  refine PG.imp (pg_tup hc h hl hst) fun v σ H Q ⟨env, st, F, zs, d, r, h, k⟩ => ?_
  cases d with
  | tup ds =>
    cases h with
    | @tup a vs _ h1 h2 h3 =>
      refine ⟨a, vs, rfl, by rw [hK]; exact same_seqT r.sub h1, ?_, env, st, F, zs, ds, r, h2, k⟩
      -- lengths
      have key : ∀ (is : List Nat) (ds : List D) (env : Env), gSetAll is ds env ≠ none → ds.length = is.length := by
        intro is
        induction is with
        | nil => intro ds env hn; cases ds with
          | nil => rfl
          | cons _ _ => exact absurd rfl hn
        | cons j js ih => intro ds env hn; cases ds with
          | nil => exact absurd rfl hn
          | cons d ds =>
            unfold gSetAll at hn
            split at hn
            · exact congrArg Nat.succ (ih ds _ hn)
            · exact absurd rfl hn
      rw [h2.length]
      refine key is ds env fun z => ?_
      have k : (match gSetAll is ds env with | some env' => ∀ σ', Rel G N O σ' H env' st F zs → SameBut is σ σ' → Q σ' H | none => False) := k
      rw [z] at k
      exact k
  | _ => exact k.elim
end

/-! ### walks -/
/-- J walks ds, whatever is added to the heap meanwhile -/
structure IsIt (K : PySem.W.Frag) (F : Hp) (zs : List (Addr × Addr)) (J : It) (ds : List D) : Prop where
  sz : ds.length ≤ SZ
  go : ∀ i d H2 F2 zs2, Same F F2 → Same F2 H2 → zs <+: zs2 → ds[i]? = some d → J.go i H2 ∧ ∀ x H3, J.yld i H2 x H3 → ∃ F3, Grw F2 H2 F3 H3 ∧ Rp K F3 (osOf zs2) x d
  stop : ∀ H2 F2, Same F F2 → Same F2 H2 → J.stop ds.length H2
def PostI (G : Gc) (E : XK) (F H : Hp) (zs : List (Addr × Addr)) (r : R (List D)) (Q : It → Hp → Prop) : Prop := match r with
  | .ok ds st' => ∀ J H' F' zs', Ext F H zs F' H' zs' → StoRel G F' H' zs' st' → IsIt G.K F' zs' J ds → Q J H'
  | .exc c st' => ∀ H' F' zs', Ext F H zs F' H' zs' → StoRel G F' H' zs' st' → E (G.ex c) none H'
  | .bad => False
def TIk (G : Gc) (E : XK) (N : En) (O : List Nat) (m : MI) : TI := fun σ H Q => ∃ env st F zs, Rel G N O σ H env st F zs ∧ PostI G E F H zs (m env st) Q
theorem PostI.back {G : Gc} {E : XK} {F H F2 H2 : Hp} {zs zs2 : List (Addr × Addr)} {r : R (List D)} {Q : It → Hp → Prop} (x : Ext F H zs F2 H2 zs2) (h : PostI G E F H zs r Q) : PostI G E F2 H2 zs2 r Q := by
  cases r with
  | ok d st => exact fun v H' F' zs' y S q => h v H' F' zs' (x.trans y) S q
  | exc c st => exact fun H' F' zs' y S => h H' F' zs' (x.trans y) S
  | bad => exact h
theorem postI_exc {G : Gc} {E : XK} {F H : Hp} {zs : List (Addr × Addr)} {Q : It → Hp → Prop} : ∀ c st', PostI G E F H zs (.exc c st') Q → ∀ H' F' zs', Ext F H zs F' H' zs' → StoRel G F' H' zs' st' → E (G.ex c) none H' := fun _ _ h => h
theorem isIt_list {K : PySem.W.Frag} {F : Hp} {zs : List (Addr × Addr)} {a : Addr} {vs : List V} {ds : List D} (h : SqL K F a vs) (r : RpAll K F (osOf zs) vs ds) (hz : ds.length ≤ SZ) : IsIt K F zs (Itl K a) ds where
  sz := hz
  go := fun i d H2 F2 zs2 s1 s2 p e => by
    obtain ⟨v, h1, h2⟩ := r.get e
    have q : SqL K H2 a vs := s2.seq (s1.seq h)
    refine ⟨⟨vs, v, q, h1⟩, fun x H3 y => ?_⟩
    obtain ⟨rfl, y⟩ := y
    have e2 := y vs q
    rw [h1] at e2; cases e2
    exact ⟨F2, Grw.refl s2, h2.mono s1 (os_pre p)⟩
  stop := fun H2 F2 s1 s2 => ⟨vs, s2.seq (s1.seq h), by rw [r.length]; exact Nat.le_refl _⟩
theorem isIt_tup {K : PySem.W.Frag} {F : Hp} {zs : List (Addr × Addr)} {a : Addr} {vs : List V} {ds : List D} (h : SqT K F a vs) (r : RpAll K F (osOf zs) vs ds) (hz : ds.length ≤ SZ) : IsIt K F zs (Itt K a) ds where
  sz := hz
  go := fun i d H2 F2 zs2 s1 s2 p e => by
    obtain ⟨v, h1, h2⟩ := r.get e
    have q : SqT K H2 a vs := same_seqT s2 (same_seqT s1 h)
    refine ⟨⟨vs, v, q, h1⟩, fun x H3 y => ?_⟩
    obtain ⟨rfl, y⟩ := y
    have e2 := y vs q
    rw [h1] at e2; cases e2
    exact ⟨F2, Grw.refl s2, h2.mono s1 (os_pre p)⟩
  stop := fun H2 F2 s1 s2 => ⟨vs, same_seqT s2 (same_seqT s1 h), by rw [r.length]; exact Nat.le_refl _⟩
theorem isIt_str {K : PySem.W.Frag} {F : Hp} {zs : List (Addr × Addr)} {z : Str} {l : List Nat} (h : z.cps.toList = l) (hz : StrOk l) : IsIt K F zs (Its z) (l.map fun c => D.str [c]) where
  sz := by simpa using hz.1
  go := fun i d H2 F2 zs2 s1 s2 p e => by
    subst h
    rw [List.getElem?_map] at e
    cases e1 : z.cps.toList[i]? with
    | none => rw [e1] at e; cases e
    | some c =>
      rw [e1] at e; cases e
      have hi : i < z.cps.size := by
        have := (List.getElem?_eq_some_iff.mp e1).1
        simpa using this
      refine ⟨hi, fun x H3 y => ?_⟩
      obtain ⟨rfl, c', hc', rfl⟩ := y
      have : c' = c := by
        have e3 : z.cps.toList[i]? = z.cps[i]? := by simp
        rw [e3, hc'] at e1; cases e1; rfl
      subst this
      exact ⟨F2, Grw.refl s2, .str rfl ⟨by show 1 ≤ SZ; decide, fun y hy => by
        have : y = c' := by simpa using hy
        subst this
        exact hz.2 y (List.mem_of_getElem? e1)⟩⟩
  stop := fun H2 F2 s1 s2 => by subst h; show z.cps.size ≤ _; simp
theorem isIt_range {K : PySem.W.Frag} {F : Hp} {zs : List (Addr × Addr)} {n : Nat} (hz : n ≤ SZ) : IsIt K F zs (Itr 0 n) ((List.range n).map fun (k : Nat) => D.int (k : Int)) where
  sz := by simpa using hz
  go := fun i d H2 F2 zs2 s1 s2 p e => by
    rw [List.getElem?_map] at e
    cases e1 : (List.range n)[i]? with
    | none => rw [e1] at e; cases e
    | some c =>
      rw [e1] at e; cases e
      obtain ⟨hi, hc⟩ := List.getElem?_eq_some_iff.mp e1
      have hi : i < n := by simpa using hi
      simp at hc; subst hc
      refine ⟨hi, fun x H3 y => ?_⟩
      obtain ⟨rfl, rfl⟩ := y
      refine ⟨F2, Grw.refl s2, ?_⟩
      rw [Int.zero_add]
      exact .int _
  stop := fun H2 F2 s1 s2 => by show n ≤ _; simp
section
variable {G : Gc} {E : XK} {N : En} {O : List Nat} {X : Cx} {tg e : Expr} {m : ME}
/-- a list, a tuple, a text, walked -/
theorem c_iseq (hK : X.K = G.K) (h : PE X e (TEk G E N O .v m)) : PI X tg e (TIk G E N O (iSeq m)) := by
  refine PI.imp (PI.or (pi_list h) (PI.or (pi_tup h) (pi_str h))) fun σ H Q ⟨env, st, F, zs, rel, p⟩ => ?_
  have p : PostI G E F H zs ((m env st).bind fun x st => ofOpt (itemsOf x) st) Q := p
  rw [hK]
  cases e1 : m env st with
  | bad => rw [e1] at p; exact p.elim
  | exc c st1 =>
    rw [e1] at p
    refine .inl ⟨env, st, F, zs, rel, ?_⟩
    rw [e1]; exact p
  | ok d st1 =>
    rw [e1] at p
    cases d with
    | list ds =>
      refine .inl ⟨env, st, F, zs, rel, ?_⟩
      rw [e1]
      intro v H' F' zs' x S q
      cases q with
      | lst h1 h2 h3 => exact ⟨_, rfl, ⟨_, .of (x.sub _ _ h1)⟩, p _ H' F' zs' x S (isIt_list (.of h1) h2 h3)⟩
    | ro ds =>
      refine .inl ⟨env, st, F, zs, rel, ?_⟩
      rw [e1]
      intro v H' F' zs' x S q
      cases q with
      | ro h1 h2 h3 => exact ⟨_, rfl, ⟨_, x.sub.seq h1⟩, p _ H' F' zs' x S (isIt_list h1 h2 h3)⟩
    | tup ds =>
      refine .inr (.inl ⟨env, st, F, zs, rel, ?_⟩)
      rw [e1]
      intro v H' F' zs' x S q
      cases q with
      | tup h1 h2 h3 => exact ⟨_, rfl, ⟨_, same_seqT x.sub h1⟩, p _ H' F' zs' x S (isIt_tup h1 h2 h3)⟩
    | str l =>
      refine .inr (.inr ⟨env, st, F, zs, rel, ?_⟩)
      rw [e1]
      intro v H' F' zs' x S q
      cases q with
      | str h1 h2 => exact ⟨_, rfl, p _ H' F' zs' x S (isIt_str h1 h2)⟩
    | _ => exact p.elim
theorem c_irange {a : Expr} {p pos : Pos} (hg : Gl X "range") (hm : X.mg "range" = none) (ha : PE X a (TEk G E N O .v m)) (hs : starEach [a] X.env = [(false, eval a X.env)] := by rfl) : PI X tg (.Call (.Name "range" p) [a] [] pos) (TIk G E N O (iRange m)) := by
  refine PI.imp (pi_range1 hg hm (pa_cons ha pa_nil hs) hs) fun σ H Q ⟨env, st, F, zs, rel, p⟩ => ?_
  refine TEk.bind (PX := fun F H zs r => PostI G E F H zs r Q) rel rfl (fun x h => h.back x) postI_exc (fun h => h) p fun d st1 v H1 F1 zs1 _ _ rel1 q1 p1 => ?_
  cases d with
  | int n =>
    cases q1
    have p1 : PostI G E F1 H1 zs1 (ofOpt (if n.natAbs ≤ SZ then some ((List.range n.toNat).map fun (k : Nat) => D.int (k : Int)) else none) st1) Q := p1
    by_cases hn : n.natAbs ≤ SZ
    · rw [if_pos hn] at p1
      have h62 : ((SZ : Nat) : Int) < 2 ^ 62 := by decide
      exact ⟨n, rfl, by omega, by omega, p1 _ H1 F1 zs1 (Ext.refl rel1.sub) rel1.sto (isIt_range (by omega))⟩
    · rw [if_neg hn] at p1; exact p1.elim
  | _ => exact p1.elim
end

/-! ### comprehensions -/
theorem compL_len {tg : TGt} {t e : ME} {env : Env} : ∀ {ds : List D} {st : Sto} {ys : List D} {st' : Sto}, compL tg t e env ds st = .ok ys st' → ys.length ≤ ds.length
  | [], st, ys, st', h => by
    unfold compL at h
    cases h; exact Nat.le_refl _
  | d :: ds, st, ys, st', h => by
    unfold compL at h
    split at h
    · cases h
    · split at h
      · split at h
        · rename_i y st2 _
          cases e1 : compL tg t e env ds st2 with
          | ok ys' st3 =>
            rw [e1] at h
            simp only [R.bind_ok] at h
            cases h
            have := compL_len e1
            simp only [List.length_cons]
            omega
          | exc c st3 => rw [e1] at h; cases h
          | bad => rw [e1] at h; cases h
        · cases h
      · rename_i st1 _
        have := compL_len h
        simp only [List.length_cons]
        omega
      · cases h
abbrev E00 : XK := fun _ _ _ => False
theorem te_comp {G : Gc} {E : XK} {N : En} {O is own : List Nat} {it : MI} {tg : TGt} {t e : ME} (hO : ∀ i ∈ own, i ∉ O) (his : ∀ i ∈ is, i ∈ own) {σ : L2.St} {H : Hp} {Q : VK} (h : TEk G E N O .o (eComp it own tg t e) σ H Q) :
    tLc (TIk G E N O it) (TGk G N O is tg) (TTk G E00 N O t) (TEk G E00 N O .v e) own σ H Q := by
  obtain ⟨env, st, F, zs, rel, p⟩ := h
  refine ⟨env, st, F, zs, rel, ?_⟩
  have p : Post G E .o F H zs ((it env st).bind fun ds st => (noexc (compL tg t e (wipeE env own) ds st)).bind fun ys st => .ok (.list ys) st) Q := p
  cases e0 : it env st with
  | bad => rw [e0] at p; exact p.elim
  | exc c st1 => rw [e0] at p; exact p
  | ok ds st1 =>
    rw [e0] at p
    intro J H1 F1 zs1 x1 S1 hit D hD
    have p : Post G E .o F H zs ((noexc (compL tg t e (wipeE env own) ds st1)).bind fun ys st => .ok (.list ys) st) Q := p
    cases e1 : compL tg t e (wipeE env own) ds st1 with
    | bad => rw [e1] at p; exact p.elim
    | exc c st2 => rw [e1] at p; exact p.elim
    | ok ys stE =>
      rw [e1] at p
      have p : ∀ v H' F' zs', Ext F H zs F' H' zs' → StoRel G F' H' zs' stE → Res G.K .o H F' H' zs' v (.list ys) → Q v H' := p
      have rel1 := rel.step x1 S1
      have relw : Rel G N O (L2.wipe σ own) H1 (wipeE env own) st1 F1 zs1 := rel1.wipe hO
      have hyl : ys.length ≤ SZ := Nat.le_trans (compL_len e1) hit.sz
      have gw0 : Grw F1 H1 F1 (upd H1 D (.lst [])) := Grw.oneH rel1.sub hD
      have hDF : F1 D = none := rel1.sub.free hD
      have hDz : D ∉ zAd zs1 := S1.notz hD
      have hD0 : Fr H D := fun u q n => by
        obtain ⟨u', hu, _⟩ := x1.there D u q n
        rw [hD] at hu; cases hu
      refine ⟨fun i m H2 => m = ds.length - i ∧ i ≤ ds.length ∧ ∃ st2 F2 zs2 acc dacc ys2, Rel G N O (L2.wipe σ own) H2 (wipeE env own) st2 F2 zs2 ∧ Ext F1 H1 zs1 F2 H2 zs2 ∧ H2 D = some (.lst acc) ∧ F2 D = none ∧ D ∉ zAd zs2 ∧
        RpAll G.K F2 (osOf zs2) acc dacc ∧ compL tg t e (wipeE env own) (ds.drop i) st2 = .ok ys2 stE ∧ dacc ++ ys2 = ys,
        ⟨ds.length, rfl, Nat.zero_le _, st1, F1, zs1, [], [], ys, relw.step gw0.ext (S1.grow gw0), gw0.ext, upd_same, hDF, hDz, .nil, by rw [List.drop_zero]; exact e1, rfl⟩, ?_⟩
      rintro i m H2 ⟨rfl, hi, st2, F2, zs2, acc, dacc, ys2, rel2, x2, hD2, hF2, hz2, ra, ec, ey⟩
      by_cases hlt : i < ds.length
      · refine .inr ?_
        have ed : ds[i]? = some ds[i] := by simp [hlt]
        obtain ⟨hgo, hy⟩ := hit.go i ds[i] H2 F2 zs2 x2.f rel2.sub x2.z ed
        refine ⟨hgo, fun H' => ∃ st2 F2 zs2 acc dacc ys2, Rel G N O (L2.wipe σ own) H' (wipeE env own) st2 F2 zs2 ∧ Ext F1 H1 zs1 F2 H' zs2 ∧ H' D = some (.lst acc) ∧ F2 D = none ∧ D ∉ zAd zs2 ∧
          RpAll G.K F2 (osOf zs2) acc dacc ∧ compL tg t e (wipeE env own) (ds.drop (i + 1)) st2 = .ok ys2 stE ∧ dacc ++ ys2 = ys, fun H' h' => ⟨ds.length - (i + 1), by omega, rfl, hlt, h'⟩, fun x H3 hyl3 => ?_⟩
        obtain ⟨F3, gw3, rp3⟩ := hy x H3 hyl3
        have rel3 := rel2.step gw3.ext (rel2.sto.grow gw3)
        have hD3 : H3 D = some (.lst acc) := gw3.h _ _ hD2
        have hF3 : F3 D = none := by
          cases q : F3 D with
          | none => rfl
          | some o =>
            rcases gw3.new D o q with z | z
            · rw [hF2] at z; cases z
            · exact (z _ hD2 (fun _ z => by cases z)).elim
        rw [List.drop_eq_getElem_cons hlt] at ec
        unfold compL at ec
        refine ⟨wipeE env own, st2, F3, zs2, ds[i], rel3, rp3, ?_⟩
        cases et : tg ds[i] (wipeE env own) with
        | none => rw [et] at ec; cases ec
        | some env1 =>
          rw [et] at ec
          intro σ4 rel4 sb4
          refine ⟨wipe_sameBut sb4 his, env1, st2, F3, zs2, rel4, ?_⟩
          have keepD : ∀ {H5 F5 : Hp} {zs5}, Ext F3 H3 zs2 F5 H5 zs5 → H5 D = some (.lst acc) ∧ F5 D = none ∧ D ∉ zAd zs5 := fun {H5 F5 zs5} x5 => by
            refine ⟨x5.h D _ hD3 hz2 (fun _ z => by cases z), ?_, fun z => ?_⟩
            · cases q : F5 D with
              | none => rfl
              | some o =>
                rcases x5.new D o q with z | z
                · rw [hF3] at z; cases z
                · exact (z _ hD3 (fun _ z => by cases z)).elim
            · rcases x5.znew D z with z | z
              · exact hz2 z
              · exact z _ hD3 (fun _ z => by cases z)
          have x3 : Ext F1 H1 zs1 F3 H3 zs2 := x2.trans gw3.ext
          cases etst : t env1 st2 with
          | bad => simp only [etst] at ec; cases ec
          | exc c st5 => simp only [etst] at ec; cases ec
          | ok dt st5 =>
            simp only [etst] at ec
            cases dt with
            | bool b =>
              intro H5 F5 zs5 x5 S5
              obtain ⟨k1, k2, k3⟩ := keepD x5
              cases b with
              | false =>
                rw [if_neg Bool.false_ne_true]
                exact ⟨st5, F5, zs5, acc, dacc, ys2, rel3.step x5 S5, x3.trans x5, k1, k2, k3, (ra.mono gw3.f (List.prefix_refl _)).mono x5.f (os_pre x5.z), ec, ey⟩
              | true =>
                rw [if_pos rfl]
                refine ⟨env1, st5, F5, zs5, rel4.step x5 S5, ?_⟩
                cases ee : e env1 st5 with
                | bad => simp only [ee] at ec; cases ec
                | exc c st6 => simp only [ee] at ec; cases ec
                | ok y st6 =>
                  simp only [ee] at ec
                  intro v H6 F6 zs6 x6 S6 rp6
                  obtain ⟨j1, j2, j3⟩ := keepD (x5.trans x6)
                  cases er : compL tg t e (wipeE env own) (ds.drop (i + 1)) st6 with
                  | bad => rw [er] at ec; cases ec
                  | exc c st7 => rw [er] at ec; cases ec
                  | ok ys3 st7 =>
                    rw [er] at ec
                    simp only [R.bind_ok] at ec
                    cases ec
                    have lenA : acc.length = dacc.length := ra.length
                    have hal : dacc.length + (ys3.length + 1) ≤ SZ := by
                      have := congrArg List.length ey
                      simp only [List.length_append, List.length_cons] at this
                      omega
                    refine ⟨acc, j1, by rw [szl]; omega, st6, F6, zs6, acc ++ [v], dacc ++ [y], ys3, ?_, ?_, upd_same, j2, j3, ((ra.mono gw3.f (List.prefix_refl _)).mono (x5.trans x6).f (os_pre (x5.trans x6).z)).append (.cons rp6 .nil), er, by rw [List.append_assoc]; exact ey⟩
                    · -- the state with the longer list
                      have r6 := rel3.step (x5.trans x6) S6
                      refine ⟨⟨r6.ext.f, fun b o q => ?_, r6.ext.z, fun b o q n nt => ?_, r6.ext.new, r6.ext.znew, fun b o q nt => ?_⟩, r6.len, r6.val, fun j hj => ?_, r6.dis, ⟨r6.sto.len, fun k p i' q1 q2 => ?_, r6.sto.nd, r6.sto.fr, tabs_upd r6.sto.tab j1 (fun _ z => by cases z) (fun _ z => by cases z), r6.sto.nt⟩⟩
                      · rw [upd_ne (ne_of_none q j2)]; exact r6.sub b o q
                      · have nb : b ≠ D := fun z => by
                          subst z
                          obtain ⟨o', ho', no'⟩ := rel.ext.there b o q nt
                          exact hD0 o' ho' no'
                        rw [upd_ne nb]; exact r6.ext.h b o q n nt
                      · by_cases hb : b = D
                        · subst hb; exact ⟨_, upd_same, fun _ z => by cases z⟩
                        · rw [upd_ne hb]; exact r6.ext.there b o q nt
                      · obtain ⟨d', a', q1, q2, q3, q4, q5, q6⟩ := r6.own j hj
                        obtain ⟨d'', a'', w1, w2, w3, w4, w5, w6⟩ := rel2.own j hj
                        have ea : a' = a'' := by rw [q2] at w2; cases w2; rfl
                        have nb : a' ≠ D := fun z => by
                          -- D is younger than any object of a name's own
                          obtain ⟨d3, a3, v1, v2, v3, v4, v5, v6⟩ := relw.own j hj
                          have e3 : a' = a3 := by rw [q2] at v2; cases v2; rfl
                          obtain ⟨u, hu, _⟩ := v6.there
                          rw [← e3, z, hD] at hu; cases hu
                        exact ⟨d', a', q1, q2, q3, q4, q5, q6.keep (Same.refl _) (List.prefix_refl _) fun o ho _ => by rw [upd_ne nb]; exact ho⟩
                      · obtain ⟨dx, v', rr, ts, a1, a2, a3, a4, a5, a6⟩ := r6.sto.at_ k p i' q1 q2
                        have np : ∀ b ∈ zAd zs6, b ≠ D := fun b hb z => j3 (by rw [← z]; exact hb)
                        have hp : p ∈ zs6 := List.mem_of_getElem? q1
                        have m1 : p.1 ∈ zAd zs6 := List.mem_flatMap.mpr ⟨p, hp, by simp⟩
                        have m2 : p.2 ∈ zAd zs6 := List.mem_flatMap.mpr ⟨p, hp, by simp⟩
                        exact ⟨dx, v', rr, ts, by rw [upd_ne (np _ m1)]; exact a1, a2, a3, a4, by rw [upd_ne (np _ m2)]; exact a5, a6⟩
                    · have x6' := x3.trans (x5.trans x6)
                      refine ⟨x6'.f, fun b o q => ?_, x6'.z, fun b o q n nt => ?_, x6'.new, x6'.znew, fun b o q nt => ?_⟩
                      · rw [upd_ne (ne_of_none q j2)]; exact x6'.sub b o q
                      · rw [upd_ne (ne_of_none q hD)]; exact x6'.h b o q n nt
                      · rw [upd_ne (ne_of_none q hD)]; exact x6'.there b o q nt
            | _ => cases ec
      · have ei : i = ds.length := by omega
        subst ei
        refine .inl ⟨hit.stop H2 F2 x2.f rel2.sub, ?_⟩
        rw [List.drop_length] at ec
        unfold compL at ec
        cases ec
        rw [List.append_nil] at ey
        subst ey
        exact p _ H2 F2 zs2 (x1.trans x2) rel2.sto ⟨D, rfl, hD0, hF2, hz2, .inl ⟨acc, dacc, rfl, hD2, ra, hyl⟩⟩

section
variable {G : Gc} {E : XK} {N : En} {O is : List Nat} {X : Cx} {elt tg iter : Expr} {ifs : List Expr} {scope : Scope} {own : List (Str × Nat)} {pos : Pos} {mi : MI} {g : TGt} {t e : ME}
theorem c_lc (hc : X.calm = true) (hN : X.N.Nodup) (hi : PI X tg iter (TIk G E N O mi)) (ok : BlkOk X.N X.env.scope scope own)
    (hg : ∀ (s : Shared) (H : Hp) (C : Addr) (cl : List (Str × Addr)) (fp : List Addr), PG (X.blk s H scope (compEnvC scope cl C X.env) fp) tg (TGk G N O is g)) (ht : ∀ (s : Shared) (H : Hp) (C : Addr) (cl : List (Str × Addr)) (fp : List Addr), PTs (X.blk s H scope (compEnvC scope cl C X.env) fp) ifs (TTk G E00 N O t))
    (he : ∀ (s : Shared) (H : Hp) (C : Addr) (cl : List (Str × Addr)) (fp : List Addr), PE (X.blk s H scope (compEnvC scope cl C X.env) fp) elt (TEk G E00 N O .v e)) (hO : ∀ i ∈ own.map (·.2), i ∉ O := by decide) (his : ∀ i ∈ is, i ∈ own.map (·.2) := by decide) (hs : ∀ x, foldedSetIterable iter X.env x = pure x := by intro _; rfl) :
    PE X (.ListComp elt [⟨tg, iter, ifs, 0⟩] scope pos) (TEk G E N O .o (eComp mi (own.map (·.2)) g t e)) :=
  PE.imp (pe_lc hc hN hi ok hg ht he hs) fun _ _ _ h => te_comp hO his h
theorem c_tsnil {X : Cx} : PTs X [] (TTk G E N O (eC (.bool true))) := ⟨fun pins s σ H Q I ⟨env, st, F, zs, r, p⟩ => pts_nil.run pins s σ H Q I (p H F zs (Ext.refl r.sub) r.sto)⟩
theorem c_ts1 {X : Cx} {c : Expr} {m : ME} (h : PT X c (TTk G E N O m)) : PTs X [c] (TTk G E N O m) := pts_one h
end
end Dn

/-! Dn4: statements and defs. -/
namespace Dn
open PySem PySem.Spec PyProof.Rows L2

def PostS (G : Gc) (E : XK) (N : En) (O : List Nat) (rk : Kd) (F : Hp) (zs : List (Addr × Addr)) (r : RS) (D : Ends) : Prop := match r with
  | .nx env' st' => ∀ σ' H' F' zs', Rel G N O σ' H' env' st' F' zs' → Same F F' → zs <+: zs' → D.nx σ' H'
  | .rt d st' => ∀ v H' F' zs', Ext N.F N.H N.zs F' H' zs' → StoRel G F' H' zs' st' → Res G.K rk N.H F' H' zs' v d → D.rt v H'
  | .exc c st' => ∀ H' F' zs', Ext N.F N.H N.zs F' H' zs' → StoRel G F' H' zs' st' → E (G.ex c) none H'
  | .bad => False
/-- a statement's reading by its meaning: O the own slots ahead of it, O' behind it -/
def TSk (G : Gc) (E : XK) (N : En) (rk : Kd) (O O' : List Nat) (m : MS) : TS := fun D σ H => ∃ env st F zs, Rel G N O σ H env st F zs ∧ PostS G E N O' rk F zs (m env st) D

section
variable {G : Gc} {E : XK} {N : En} {O O1 O2 O' is : List Nat} {rk : Kd} {X : Cx} {e a b c : Expr} {s : Stmt} {ss body : List Stmt} {m ma mb mc : ME} {p q : MS} {pos : Pos} {i : Nat} {x : Str}

theorem PostS.back {F F2 : Hp} {zs zs2 : List (Addr × Addr)} {r : RS} {D : Ends} (f : Same F F2) (z : zs <+: zs2) (h : PostS G E N O rk F zs r D) : PostS G E N O rk F2 zs2 r D := by
  cases r with
  | nx env st => exact fun σ' H' F' zs' r' f' z' => h σ' H' F' zs' r' (f.trans f') (z.trans z')
  | rt d st => exact h
  | exc c st => exact h
  | bad => exact h
theorem c_skip : PSs X [] (TSk G E N rk O O sSkip) := PSs.imp pss_nil fun D σ H ⟨env, st, F, zs, r, h⟩ => h σ H F zs r (Same.refl _) (List.prefix_refl _)
theorem c_seq (h1 : PS X s (TSk G E N rk O O1 p)) (h2 : PSs X ss (TSk G E N rk O1 O2 q)) : PSs X (s :: ss) (TSk G E N rk O O2 (sSeq p q)) := by
  refine PSs.imp (pss_cons h1 h2) fun D σ H ⟨env, st, F, zs, r, h⟩ => ⟨env, st, F, zs, r, ?_⟩
  unfold sSeq at h
  cases e : p env st with
  | nx env1 st1 => rw [e] at h; exact fun σ' H' F' zs' r' f' z' => ⟨env1, st1, F', zs', r', h.back f' z'⟩
  | rt d st1 => rw [e] at h; exact h
  | exc c st1 => rw [e] at h; exact h
  | bad => rw [e] at h; exact h
theorem c_last (h1 : PS X s (TSk G E N rk O O1 p)) : PSs X [s] (TSk G E N rk O O1 p) := pss_one h1
/-- an own object is frozen ahead of a statement -/
theorem c_frz (i : Nat) (h : PS X s (TSk G E N rk O1 O2 p)) (hO : O1 = O.filter (fun j => decide (j ≠ i)) := by rfl) : PS X s (TSk G E N rk O O2 p) := by
  refine PS.imp h fun D σ H ⟨env, st, F, zs, r, h⟩ => ?_
  obtain ⟨F', r', f'⟩ := r.freeze i
  rw [hO]
  exact ⟨env, st, F', zs, r', h.back f' (List.prefix_refl _)⟩
/-- .. behind a block -/
theorem c_end (i : Nat) (h : PSs X ss (TSk G E N rk O O1 p)) (hO : O2 = O1.filter (fun j => decide (j ≠ i)) := by rfl) : PSs X ss (TSk G E N rk O O2 p) := by
  refine PSs.imp h fun D σ H ⟨env, st, F, zs, r, h⟩ => ⟨env, st, F, zs, r, ?_⟩
  cases e : p env st with
  | nx env1 st1 =>
    rw [e] at h
    intro σ' H' F' zs' r' f' z'
    obtain ⟨F2, r2, f2⟩ := r'.freeze i
    rw [← hO] at r2
    exact h σ' H' F2 zs' r2 (f'.trans f2) z'
  | rt d st1 => rw [e] at h; exact h
  | exc c st1 => rw [e] at h; exact h
  | bad => rw [e] at h; exact h

/-- x = e -/
theorem ts_asg {tgt : TGt} {D : Ends} {σ : L2.St} {H : Hp} (h : TSk G E N rk O O (sAsg tgt m) D σ H) : TEk G E N O .v m σ H fun x H1 => TGk G N O is tgt x σ H1 D.nx := by
  obtain ⟨env, st, F, zs, r, h⟩ := h
  refine ⟨env, st, F, zs, r, ?_⟩
  unfold sAsg at h
  cases e : m env st with
  | bad => rw [e] at h; exact h
  | exc c st1 => rw [e] at h; exact fun H' F' zs' x S => h H' F' zs' (r.ext.trans x) S
  | ok d st1 =>
    rw [e] at h
    intro v H1 F1 zs1 x1 S1 q1
    refine ⟨env, st1, F1, zs1, d, r.step x1 S1, q1, ?_⟩
    cases e2 : tgt d env with
    | none => simp only [e2] at h; exact h
    | some env1 => simp only [e2] at h; exact fun σ' r' _ => h σ' H1 F1 zs1 r' x1.f x1.z
theorem c_set {pos' : Pos} (hN : X.N.Nodup) (he : PE X e (TEk G E N O .v m)) (hi : X.N[i]? = some x := by rfl) (hO : i ∉ O := by decide) (hx : Loc X.env.scope x := by first | exact Or.inl rfl | exact Or.inr rfl) (hs : swapsWith e (some (.Name x pos')) pos.line X.env = pure false := by rfl) (hf : X.fn x = true ∨ X.env.scope.names.lookup x = some .local := by first | exact .inl rfl | exact .inr rfl) :
    PS X (.Assign [.Name x pos'] e pos) (TSk G E N rk O O (sAsg (gN i) m)) := by
  refine PS.imp (ps_set (i := i) hN hi hx he hs hf) fun D σ H h => ?_
  obtain ⟨env, st, F, zs, r, h⟩ := h
  refine ⟨env, st, F, zs, r, ?_⟩
  unfold sAsg at h
  cases e : m env st with
  | bad => rw [e] at h; exact h
  | exc c st1 => rw [e] at h; exact fun H' F' zs' x S => h H' F' zs' (r.ext.trans x) S
  | ok d st1 =>
    rw [e] at h
    intro v H1 F1 zs1 x1 S1 q1
    unfold gN at h
    by_cases hl : i < env.length
    · simp only [hl, if_true] at h
      exact h _ H1 F1 zs1 ((r.step x1 S1).set hO q1) x1.f x1.z
    · simp only [hl, if_false] at h; exact h.elim
/-- the same, a target of several names -/
theorem c_setT {tg : Expr} {tgt : TGt} (he : PE X e (TEk G E N O .v m)) (hg : PG X tg (TGk G N O is tgt)) (hs : swapsWithSole [tg] e pos.line X.env = pure false := by rfl) (hw : swappedStores [tg] e X.env = pure none := by rfl)
    (h1 : (assignEach [tg] X.env).map (·.2) = [assign tg X.env] := by rfl) : PS X (.Assign [tg] e pos) (TSk G E N rk O O (sAsg tgt m)) :=
  PS.imp (ps_asg he hg hs hw h1) fun D σ H h => ts_asg h
theorem Rel.setOwn {σ : L2.St} {F H : Hp} {env : Env} {st : Sto} {zs : List (Addr × Addr)} (r : Rel G N O σ H env st F zs) (hi : i ∉ O) (hl : i < env.length) {a : Addr} {d : D} (h1 : Fr N.H a) (h2 : F a = none) (h3 : a ∉ zAd zs) (h4 : OwnAt G.K F (osOf zs) H a d)
    (h5 : ∀ j ∈ O, σ[j]? ≠ some (some (.ref a))) : Rel G N (i :: O) (σ.set i (some (.ref a))) H (env.set i (some d)) st F zs where
  ext := r.ext
  len := by simp [r.len]
  val := fun j d' hj e => by
    have hji : j ≠ i := fun z => hj (by simp [z])
    have hjO : j ∉ O := fun z => hj (List.mem_cons_of_mem _ z)
    rw [List.getElem?_set_ne (Ne.symm hji)] at e
    obtain ⟨v', h1, h2⟩ := r.val j d' hjO e
    exact ⟨v', by rw [List.getElem?_set_ne (Ne.symm hji)]; exact h1, h2⟩
  own := fun j hj => by
    by_cases hji : j = i
    · subst hji
      exact ⟨d, a, by rw [List.getElem?_set_self hl], by rw [List.getElem?_set_self (by rw [r.len]; exact hl)], h1, h2, h3, h4⟩
    · have hjO : j ∈ O := by
        rcases List.mem_cons.mp hj with z | z
        · exact absurd z hji
        · exact z
      obtain ⟨d', a, k1, k2, k3⟩ := r.own j hjO
      exact ⟨d', a, by rw [List.getElem?_set_ne (Ne.symm hji)]; exact k1, by rw [List.getElem?_set_ne (Ne.symm hji)]; exact k2, k3⟩
  dis := fun j k hj hk hjk => by
    have hlσ : i < σ.length := by rw [r.len]; exact hl
    by_cases hji : j = i
    · have hki : k ≠ i := fun z => hjk (by rw [hji, z])
      have hkO : k ∈ O := (List.mem_cons.mp hk).resolve_left hki
      rw [hji, List.getElem?_set_self hlσ, List.getElem?_set_ne (Ne.symm hki)]
      exact fun z => h5 k hkO z.symm
    · have hjO : j ∈ O := (List.mem_cons.mp hj).resolve_left hji
      by_cases hki : k = i
      · rw [hki, List.getElem?_set_self hlσ, List.getElem?_set_ne (Ne.symm hji)]
        exact h5 j hjO
      · have hkO : k ∈ O := (List.mem_cons.mp hk).resolve_left hki
        rw [List.getElem?_set_ne (Ne.symm hji), List.getElem?_set_ne (Ne.symm hki)]
        exact r.dis j k hjO hkO hjk
  sto := r.sto
theorem ts_own {D : Ends} {σ : L2.St} {H : Hp} (hO : i ∉ O) (h : TSk G E N rk O (i :: O) (sAsg (gN i) m) D σ H) : TEk G E N O .o m σ H fun x H1 => D.nx (σ.set i (some x)) H1 := by
  obtain ⟨env, st, F, zs, r, h⟩ := h
  refine ⟨env, st, F, zs, r, ?_⟩
  unfold sAsg at h
  cases e : m env st with
  | bad => rw [e] at h; exact h
  | exc c st1 => rw [e] at h; exact fun H' F' zs' x S => h H' F' zs' (r.ext.trans x) S
  | ok d st1 =>
    rw [e] at h
    rintro v H1 F1 zs1 x1 S1 ⟨a, rfl, k1, k2, k3, k4⟩
    unfold gN at h
    by_cases hl : i < env.length
    · simp only [hl, if_true] at h
      refine h _ H1 F1 zs1 ((r.step x1 S1).setOwn hO hl ?_ k2 k3 k4 fun j hj z => ?_) x1.f x1.z
      · intro u q n
        obtain ⟨u', hu, n'⟩ := r.ext.there a u q n
        exact k1 u' hu n'
      · obtain ⟨d', a', w1, w2, w3, w4, w5, w6⟩ := r.own j hj
        rw [w2] at z
        have ea : a' = a := by injection z with z; injection z with z; injection z
        obtain ⟨u, hu, nu, _⟩ := w6.there
        exact k1 u (ea ▸ hu) nu
    · simp only [hl, if_false] at h; exact h.elim
/-- x = a new object that the name owns -/
theorem c_setO {pos' : Pos} (hN : X.N.Nodup) (he : PE X e (TEk G E N O .o m)) (hi : X.N[i]? = some x := by rfl) (hO : i ∉ O := by decide) (hx : Loc X.env.scope x := by first | exact Or.inl rfl | exact Or.inr rfl) (hs : swapsWith e (some (.Name x pos')) pos.line X.env = pure false := by rfl) (hf : X.fn x = true ∨ X.env.scope.names.lookup x = some .local := by first | exact .inl rfl | exact .inr rfl) :
    PS X (.Assign [.Name x pos'] e pos) (TSk G E N rk O (i :: O) (sAsg (gN i) m)) := PS.imp (ps_set (i := i) hN hi hx he hs hf) fun D σ H h => ts_own hO h
section
variable {elt tg iter : Expr} {ifs : List Expr} {scope : Scope} {own : List (Str × Nat)} {mi : MI} {g : TGt} {t me : ME}
/-- x = [.. for ..], frozen -/
theorem c_setLc {py spos : Pos} (hc : X.calm = true) (hN : X.N.Nodup) (hyl : X.env.scope.names.lookup x = some .local) (hi : PI X tg iter (TIk G E N O mi)) (ok : BlkOk X.N X.env.scope scope own)
    (hg : ∀ (s : Shared) (H : Hp) (C : Addr) (cl : List (Str × Addr)) (fp : List Addr), PG (X.blk s H scope (compEnvC scope cl C X.env) fp) tg (TGk G N O is g)) (ht : ∀ (s : Shared) (H : Hp) (C : Addr) (cl : List (Str × Addr)) (fp : List Addr), PTs (X.blk s H scope (compEnvC scope cl C X.env) fp) ifs (TTk G E00 N O t))
    (he : ∀ (s : Shared) (H : Hp) (C : Addr) (cl : List (Str × Addr)) (fp : List Addr), PE (X.blk s H scope (compEnvC scope cl C X.env) fp) elt (TEk G E00 N O .v me))
    (hsw : swapsWith (.ListComp elt [⟨tg, iter, ifs, 0⟩] scope pos) (some (.Name x py)) spos.line X.env = pure true) (hy : X.N[i]? = some x := by rfl) (hOi : i ∉ O := by decide)
    (hO : ∀ i ∈ own.map (·.2), i ∉ O := by decide) (his : ∀ i ∈ is, i ∈ own.map (·.2) := by decide) (hs : ∀ x, foldedSetIterable iter X.env x = pure x := by intro _; rfl) :
    PS X (.Assign [.Name x py] (.ListComp elt [⟨tg, iter, ifs, 0⟩] scope pos) spos) (TSk G E N rk O O (sAsg (gN i) (eComp mi (own.map (·.2)) g t me))) := by
  refine PS.imp (ps_setLc hc hN hy hyl hsw hi ok hg ht he hs) fun D σ H h => ?_
  refine te_comp hO his ?_
  obtain ⟨env, st, F, zs, r, h⟩ := h
  refine ⟨env, st, F, zs, r, Post.ov ?_⟩
  unfold sAsg at h
  cases e : eComp mi (own.map (·.2)) g t me env st with
  | bad => rw [e] at h; exact h
  | exc c st1 => rw [e] at h; exact fun H' F' zs' x S => h H' F' zs' (r.ext.trans x) S
  | ok d st1 =>
    rw [e] at h
    intro v H1 F1 zs1 x1 S1 q1
    unfold gN at h
    by_cases hl : i < env.length
    · simp only [hl, if_true] at h
      exact h _ H1 F1 zs1 ((r.step x1 S1).set hOi q1) x1.f x1.z
    · simp only [hl, if_false] at h; exact h.elim
end

theorem c_if (hc : PT X c (TTk G E N O mc)) (ha : PSs X ss (TSk G E N rk O O1 p)) (hb : PSs X body (TSk G E N rk O O1 q)) : PS X (.If c ss body pos) (TSk G E N rk O O1 (sIf mc p q)) := by
  refine PS.imp (ps_if hc ha hb) fun D σ H ⟨env, st, F, zs, r, h⟩ => ⟨env, st, F, zs, r, ?_⟩
  unfold sIf at h
  cases e : mc env st with
  | bad => rw [e] at h; exact h
  | exc c st1 => rw [e] at h; exact fun H' F' zs' x S => h H' F' zs' (r.ext.trans x) S
  | ok d st1 =>
    rw [e] at h
    cases d with
    | bool b =>
      intro H1 F1 zs1 x1 S1
      cases b with
      | true => rw [if_pos rfl]; exact ⟨env, st1, F1, zs1, r.step x1 S1, h.back x1.f x1.z⟩
      | false => rw [if_neg Bool.false_ne_true]; exact ⟨env, st1, F1, zs1, r.step x1 S1, h.back x1.f x1.z⟩
    | _ => exact h
theorem c_ret (he : PE X e (TEk G E N O rk m)) : PS X (.Return (some e) pos) (TSk G E N rk O O' (sRet m)) := by
  refine PS.imp (ps_ret he) fun D σ H ⟨env, st, F, zs, r, h⟩ => ⟨env, st, F, zs, r, ?_⟩
  unfold sRet at h
  cases e : m env st with
  | bad => rw [e] at h; exact h
  | exc c st1 => rw [e] at h; exact fun H' F' zs' x S => h H' F' zs' (r.ext.trans x) S
  | ok d st1 => rw [e] at h; exact fun v H' F' zs' x S q => h v H' F' zs' (r.ext.trans x) S (q.back r.ext)
theorem c_expr (he : PE X e (TEk G E N O .b m)) (hs : swapsWith e none pos.line X.env = pure false := by rfl) : PS X (.Expr e pos) (TSk G E N rk O O (sExpr m)) := by
  refine PS.imp (ps_expr he hs) fun D σ H ⟨env, st, F, zs, r, h⟩ => ⟨env, st, F, zs, r, ?_⟩
  unfold sExpr at h
  cases e : m env st with
  | bad => rw [e] at h; exact h
  | exc c st1 => rw [e] at h; exact fun H' F' zs' x S => h H' F' zs' (r.ext.trans x) S
  | ok d st1 => rw [e] at h; exact fun v H' F' zs' x S q => h σ H' F' zs' (r.step x S) x.f x.z
theorem c_raise {W : WX} {cls : Value} {k : Nat} (hc : X.calm = true) (tk : L2N.Takes X W) (he : L2N.PMk X e (fun _ H Q => Q cls none H)) (hW : ∀ cls d σ H, E cls d H → W cls d σ H) (hk : G.ex k = cls) : PS X (.Raise (some e) none pos) (TSk G E N rk O O' (sRaise k)) := by
  refine PS.imp (L2N.ps_raise hc tk he) fun D σ H ⟨env, st, F, zs, r, h⟩ => hW _ _ _ _ ?_
  rw [← hk]
  exact h H F zs r.ext r.sto

/-! ### loops -/
theorem c_for {tg iter : Expr} {mi : MI} {tgt : TGt} (hp : PassesOwn (model X.prog X.w) X.A X.env X.xe) (hc : X.calm = true) (hi : PI X tg iter (TIk G E N O mi)) (hg : PG X tg (TGk G N O is tgt)) (hb : PSs X body (TSk G E N rk O O p)) (hs : ∀ x, foldedSetIterable iter X.env x = pure x := by intro _; rfl) :
    PS X (.For tg iter body [] pos) (TSk G E N rk O O (sFor mi tgt p)) := by
  refine PS.imp (ps_for hp hc hi hg hb hs) fun D σ H ⟨env, st, F, zs, r, h⟩ => ⟨env, st, F, zs, r, ?_⟩
  unfold sFor at h
  cases e : mi env st with
  | bad => rw [e] at h; exact h
  | exc c st1 => rw [e] at h; exact fun H' F' zs' x S => h H' F' zs' (r.ext.trans x) S
  | ok ds st1 =>
    rw [e] at h
    intro J H1 F1 zs1 x1 S1 hit
    refine ⟨fun i m σ2 H2 => m = ds.length - i ∧ i ≤ ds.length ∧ ∃ env2 st2 F2 zs2, Rel G N O σ2 H2 env2 st2 F2 zs2 ∧ Same F1 F2 ∧ zs1 <+: zs2 ∧ PostS G E N O rk F2 zs2 (forL tgt p (ds.drop i) env2 st2) D,
      ⟨ds.length, rfl, Nat.zero_le _, env, st1, F1, zs1, r.step x1 S1, Same.refl _, List.prefix_refl _, by rw [List.drop_zero]; exact PostS.back x1.f x1.z h⟩, ?_⟩
    rintro i m σ2 H2 ⟨rfl, hi, env2, st2, F2, zs2, r2, f2, z2, h2⟩
    by_cases hlt : i < ds.length
    · refine .inr ?_
      have ed : ds[i]? = some ds[i] := by simp [hlt]
      obtain ⟨hgo, hy⟩ := hit.go i ds[i] H2 F2 zs2 f2 r2.sub z2 ed
      refine ⟨hgo, fun σ3 H3 => ∃ env2 st2 F2 zs2, Rel G N O σ3 H3 env2 st2 F2 zs2 ∧ Same F1 F2 ∧ zs1 <+: zs2 ∧ PostS G E N O rk F2 zs2 (forL tgt p (ds.drop (i + 1)) env2 st2) D, fun σ' H' h' => ⟨ds.length - (i + 1), by omega, rfl, hlt, h'⟩, fun x H3 hy3 => ?_⟩
      obtain ⟨F3, gw3, rp3⟩ := hy x H3 hy3
      have r3 := r2.step gw3.ext (r2.sto.grow gw3)
      rw [List.drop_eq_getElem_cons hlt] at h2
      unfold forL at h2
      refine ⟨env2, st2, F3, zs2, ds[i], r3, rp3, ?_⟩
      cases et : tgt ds[i] env2 with
      | none => rw [et] at h2; exact h2
      | some env3 =>
        rw [et] at h2
        intro σ4 r4 _
        refine ⟨env3, st2, F3, zs2, r4, ?_⟩
        cases eb : p env3 st2 with
        | bad => simp only [eb] at h2; exact h2
        | exc c st5 => simp only [eb] at h2; exact h2
        | rt d st5 => simp only [eb] at h2; exact h2
        | nx env5 st5 =>
          simp only [eb] at h2
          intro σ5 H5 F5 zs5 r5 f5 z5
          exact ⟨env5, st5, F5, zs5, r5, f2.trans (gw3.f.trans f5), z2.trans z5, PostS.back (gw3.f.trans f5) z5 h2⟩
    · have ei : i = ds.length := by omega
      subst ei
      rw [List.drop_length] at h2
      exact .inl ⟨hit.stop H2 F2 f2 r2.sub, h2 σ2 H2 F2 zs2 r2 (Same.refl _) (List.prefix_refl _)⟩
theorem c_while (hp : PassesOwn (model X.prog X.w) X.A X.env X.xe) (hc : PT X c (TTk G E N O mc)) (hb : PSs X body (TSk G E N rk O O p)) : PS X (.While c body [] pos) (TSk G E N rk O O (sWhile mc p)) := by
  refine PS.imp (ps_while hp hc hb) fun D σ H ⟨env, st, F, zs, r, h⟩ => ?_
  refine ⟨fun n σ2 H2 => ∃ env2 st2 F2 zs2, Rel G N O σ2 H2 env2 st2 F2 zs2 ∧ PostS G E N O rk F2 zs2 (whileN mc p n env2 st2) D, ⟨100000, env, st, F, zs, r, h⟩, ?_⟩
  rintro n σ2 H2 ⟨env2, st2, F2, zs2, r2, h2⟩
  cases n with
  | zero => exact h2.elim
  | succ n =>
    unfold whileN at h2
    refine ⟨env2, st2, F2, zs2, r2, ?_⟩
    cases e : mc env2 st2 with
    | bad => simp only [e] at h2; exact h2
    | exc c st3 => simp only [e] at h2; exact fun H' F' zs' x S => h2 H' F' zs' (r2.ext.trans x) S
    | ok d st3 =>
      simp only [e] at h2
      cases d with
      | bool b =>
        intro H3 F3 zs3 x3 S3
        cases b with
        | false => rw [if_neg Bool.false_ne_true]; exact h2 _ H3 F3 zs3 (r2.step x3 S3) x3.f x3.z
        | true =>
          rw [if_pos rfl]
          refine ⟨fun σ4 H4 => ∃ env2 st2 F2 zs2, Rel G N O σ4 H4 env2 st2 F2 zs2 ∧ PostS G E N O rk F2 zs2 (whileN mc p n env2 st2) D, fun σ' H' h' => ⟨n, Nat.lt_succ_self n, h'⟩, env2, st3, F3, zs3, r2.step x3 S3, ?_⟩
          cases eb : p env2 st3 with
          | bad => simp only [eb] at h2; exact h2
          | exc c st5 => simp only [eb] at h2; exact h2
          | rt d st5 => simp only [eb] at h2; exact h2
          | nx env5 st5 =>
            simp only [eb] at h2
            exact fun σ5 H5 F5 zs5 r5 f5 z5 => ⟨env5, st5, F5, zs5, r5, PostS.back (x3.f.trans f5) (x3.z.trans z5) h2⟩
      | _ => exact h2
end

/-! ### defs -/
theorem runDefO_len {ps n : Nat} {m : MS} : ∀ ds st, ds.length ≠ ps → runDefO ps n m ds st = .bad := fun ds st h => by unfold runDefO; rw [if_neg h]
theorem rel_start {G : Gc} {F H : Hp} {zs : List (Addr × Addr)} {vs : List V} {ds : List D} {st : Sto} {Nm : List Str} (s : Same F H) (S : StoRel G F H zs st) (r : RpAll G.K F (osOf zs) vs ds) (hl : ds.length ≤ Nm.length) :
    Rel G ⟨F, H, zs⟩ [] (L2.start Nm vs) H (env0 Nm.length ds) st F zs where
  ext := Ext.refl s
  len := by unfold L2.start env0; simp [r.length]
  val := fun i d _ e => by
    unfold env0 at e
    by_cases hi : i < ds.length
    · rw [List.getElem?_append_left (by simpa using hi), List.getElem?_map] at e
      cases e1 : ds[i]? with
      | none => rw [e1] at e; cases e
      | some d' =>
        rw [e1] at e; cases e
        obtain ⟨v, h1, h2⟩ := r.get e1
        refine ⟨v, ?_, h2⟩
        unfold L2.start
        rw [List.getElem?_append_left (by simp [r.length]; exact hi), List.getElem?_map, h1]
        rfl
    · rw [List.getElem?_append_right (by simpa using hi)] at e
      have := List.mem_of_getElem? e
      have := List.eq_of_mem_replicate this
      cases this
  own := fun i hi => by cases hi
  dis := fun i j hi => by cases hi
  sto := S
section
variable {G : Gc} {P : Program} {w : World} {mg : Str → Option Value} {base : Heap} {x qual : Str} {params : Arguments} {body : List Stmt} {scope : Scope} {f : Addr} {fd : FuncData} {Nm ps : List Str} {k : Nat} {m : MS} {O' : List Nat}
/-- a def, by its body's derivation -/
theorem c_def (F : FunD G.K x qual params body scope [] [] f fd) (S : FnScope Nm ps scope)
    (hb : ∀ (cdv : Value) (A : Around) (outer : List PySem.Env) (s : Shared) (H : Hp) (E : XK) (N : En), Room k (A.deeper (envOfC qual scope s.heap.objs.size f cdv)) → PSs (cxOf (L2N.CX P w) P w G.K mg base Nm qual scope f cdv A outer s H E) body (TSk G E N .v [] O' m))
    (hl : ps.length ≤ Nm.length := by decide) : FnOk P w G.K mg base (L2N.CX P w) (k + 1) f fd ps (spOf G .v ps.length (runDef ps.length Nm.length m)) := by
  refine FunD.ok F S (fun vs H Q E ⟨F, zs, ds, st, _, _, r, h, _⟩ => r.length.trans h) fun cdv A outer s H vs Q E hr ⟨F, zs, ds, st, s1, S1, r, h, p⟩ => ?_
  refine ⟨_, hb cdv A outer s H E ⟨F, H, zs⟩ hr, env0 Nm.length ds, st, F, zs, rel_start s1 S1 r (by omega), ?_⟩
  unfold runDef at p
  rw [if_pos h] at p
  cases e : m (env0 Nm.length ds) st with
  | nx env1 st1 => rw [e] at p; exact fun σ' H' F' zs' r' _ _ => p _ H' F' zs' r'.ext r'.sto .non
  | rt d st1 => rw [e] at p; exact p
  | exc c st1 => rw [e] at p; exact p
  | bad => rw [e] at p; exact p
theorem c_defO (F : FunD G.K x qual params body scope [] [] f fd) (S : FnScope Nm ps scope)
    (hb : ∀ (cdv : Value) (A : Around) (outer : List PySem.Env) (s : Shared) (H : Hp) (E : XK) (N : En), Room k (A.deeper (envOfC qual scope s.heap.objs.size f cdv)) → PSs (cxOf (L2N.CX P w) P w G.K mg base Nm qual scope f cdv A outer s H E) body (TSk G E N .o [] O' m))
    (hl : ps.length ≤ Nm.length := by decide) : FnOk P w G.K mg base (L2N.CX P w) (k + 1) f fd ps (spOf G .o ps.length (runDefO ps.length Nm.length m)) := by
  refine FunD.ok F S (fun vs H Q E ⟨F, zs, ds, st, _, _, r, h, _⟩ => r.length.trans h) fun cdv A outer s H vs Q E hr ⟨F, zs, ds, st, s1, S1, r, h, p⟩ => ?_
  refine ⟨_, hb cdv A outer s H E ⟨F, H, zs⟩ hr, env0 Nm.length ds, st, F, zs, rel_start s1 S1 r (by omega), ?_⟩
  unfold runDefO at p
  rw [if_pos h] at p
  cases e : m (env0 Nm.length ds) st with
  | nx env1 st1 => rw [e] at p; exact p.elim
  | rt d st1 => rw [e] at p; exact p
  | exc c st1 => rw [e] at p; exact p
  | bad => rw [e] at p; exact p
end
end Dn

/-! Dn5: the built-ins over plain data are those of the layer. -/
namespace Dn
open PySem PySem.Spec PyProof.Rows L2

/-! ### data as the library's data -/
mutual
def toPy : D → PyData
  | .non => .none
  | .bool b => .bool b
  | .int i => .int i
  | .str l => .str ⟨l.toArray⟩
  | .list xs => .list (toPys xs)
  | .tup xs => .tuple (toPys xs)
  | _ => .none
def toPys : List D → List PyData
  | [] => []
  | x :: xs => toPy x :: toPys xs
end
theorem mk_tl' {x : Str} {l : List Nat} (h : x.cps.toList = l) : x = ⟨l.toArray⟩ := by subst h; exact TL.ext_tl rfl
theorem strOk_of {l : List Nat} (h : StrOk l) : PyData.strOk ⟨l.toArray⟩ = true := by
  show (l.toArray).all (· < 0x110000) = true
  simp only [List.all_toArray, List.all_eq_true, decide_eq_true_eq]
  exact fun c hc => Nat.lt_trans (h.2 c hc) (by decide)
section
variable {K : PySem.W.Frag} {F H : Hp} {os : List Addr}
mutual
theorem Rp.dp (s : Same F H) : ∀ {n : Nat} {v : V} {d : D}, Rp K F os v d → okD n d = true → Dp K H v (toPy d) ∧ PyData.canLay0 (toPy d) = true ∧ PyData.depth (toPy d) ≤ n
  | _, _, _, .non, _ => ⟨.non, rfl, Nat.zero_le _⟩
  | _, _, _, .bl b, _ => ⟨.bl b, rfl, Nat.zero_le _⟩
  | _, _, _, .int i, _ => ⟨.int i, rfl, Nat.zero_le _⟩
  | _, _, _, .str h1 h2, _ => ⟨by rw [mk_tl' h1]; exact .str _, strOk_of h2, Nat.zero_le _⟩
  | 0, _, _, .lst _ _ _, e => by cases e
  | n + 1, _, _, .lst h1 h2 h3, e => by
    obtain ⟨k1, k2, k3⟩ := RpAll.dp s h2 (n := n) (by simpa [okD] using e)
    exact ⟨.lst (.of (s _ _ h1)) k1, by simpa [toPy, PyData.canLay0] using k2, by simp [toPy, PyData.depth]; omega⟩
  | 0, _, _, .tup _ _ _, e => by cases e
  | n + 1, _, _, .tup h1 h2 h3, e => by
    obtain ⟨k1, k2, k3⟩ := RpAll.dp s h2 (n := n) (by simpa [okD] using e)
    exact ⟨.tup (same_seqT s h1) k1, by simpa [toPy, PyData.canLay0] using k2, by simp [toPy, PyData.depth]; omega⟩
  | n, _, _, .ro _ _ _, e => by cases n <;> cases e
  | n, _, _, .dct _ _ _, e => by cases n <;> cases e
  | n, _, _, .obj _, e => by cases n <;> cases e
theorem RpAll.dp (s : Same F H) : ∀ {n : Nat} {vs : List V} {ds : List D}, RpAll K F os vs ds → okDs n ds = true → DpAll K H vs (toPys ds) ∧ PyData.canLayAll0 (toPys ds) = true ∧ PyData.depthAll (toPys ds) ≤ n
  | _, _, _, .nil, _ => ⟨.nil, rfl, Nat.zero_le _⟩
  | n, _, _, .cons h t, e => by
    have e' := Bool.and_eq_true_iff.mp (show (okD n _ && okDs n _) = true from by simpa [okDs] using e)
    obtain ⟨k1, k2, k3⟩ := Rp.dp s h e'.1
    obtain ⟨j1, j2, j3⟩ := RpAll.dp s t e'.2
    exact ⟨.cons k1 j1, by simp [toPys, PyData.canLayAll0, k2, j2], by simp [toPys, PyData.depthAll]; omega⟩
end
end
theorem Sh.dp {K : PySem.W.Frag} {F H : Hp} {zs : List (Addr × Addr)} (s : Same F H) {v : V} {d : D} (h : Sh K F H zs v d) (e : okD DP d = true) : Dp K H v (toPy d) ∧ SeqAt.shaped (toPy d) = true := by
  have fin : ∀ {d : D}, PyData.canLay0 (toPy d) = true → PyData.depth (toPy d) ≤ DP → SeqAt.shaped (toPy d) = true := fun {d} h1 h2 => by
    unfold SeqAt.shaped
    rw [h1, Bool.true_and, decide_eq_true_eq]
    exact Nat.le_trans h2 (by decide)
  rcases h with h | ⟨a, rfl, _, ⟨vs, ds, rfl, h1, h2, h3⟩ | ⟨kvs, ds, rfl, h1, h2, h3⟩⟩
  · obtain ⟨k1, k2, k3⟩ := h.dp s e
    exact ⟨k1, fin k2 k3⟩
  · obtain ⟨k1, k2, k3⟩ := h2.dp s (n := 39) (by simpa [okD] using e)
    exact ⟨.lst (.of h1) k1, fin (d := .list ds) (by simpa [toPy, PyData.canLay0] using k2) (by simp [toPy, PyData.depth]; exact Nat.succ_le_succ k3)⟩
  · cases e
theorem strEq_list (a b : List Nat) : ((⟨a.toArray⟩ : Str) == ⟨b.toArray⟩) = (a == b) := by
  by_cases h : a = b
  · subst h; simp
  · have h2 : (⟨a.toArray⟩ : Str) ≠ ⟨b.toArray⟩ := fun e => h (by injection e with e; simpa using congrArg Array.toList e)
    rw [beq_eq_false_iff_ne.mpr h, beq_eq_false_iff_ne.mpr h2]
mutual
theorem eqv_eqB : ∀ {n m : Nat} (a b : D), okD n a = true → okD m b = true → PyData.eqv (toPy a) (toPy b) = eqB a b
  | _, _, .non, b, _, hb => by cases b <;> first | rfl | (rename_i m _ _; cases m <;> cases hb)
  | _, _, .bool x, b, _, hb => by cases b <;> first | rfl | (rename_i m _ _; cases m <;> cases hb)
  | _, _, .int x, b, _, hb => by cases b <;> first | rfl | (rename_i m _ _; cases m <;> cases hb)
  | _, _, .str x, b, _, hb => by
    cases b <;> first | rfl | exact strEq_list _ _ | (rename_i m _ _; cases m <;> cases hb)
  | 0, _, .list x, b, ha, hb => by cases ha
  | n + 1, m, .list x, b, ha, hb => by
    cases b <;> first
      | rfl
      | (cases m with
        | zero => cases hb
        | succ m => first | exact eqvs_eqB (n := n) (m := m) _ _ (by simpa [okD] using ha) (by simpa [okD] using hb) | rfl | cases hb)
      | (cases m <;> cases hb)
  | 0, _, .tup x, b, ha, hb => by cases ha
  | n + 1, m, .tup x, b, ha, hb => by
    cases b <;> first
      | rfl
      | (cases m with
        | zero => cases hb
        | succ m => first | exact eqvs_eqB (n := n) (m := m) _ _ (by simpa [okD] using ha) (by simpa [okD] using hb) | rfl | cases hb)
      | (cases m <;> cases hb)
  | n, _, .ro x, b, ha, hb => by cases n <;> cases ha
  | n, _, .dict x, b, ha, hb => by cases n <;> cases ha
  | n, _, .obj x, b, ha, hb => by cases n <;> cases ha
theorem eqvs_eqB : ∀ {n m : Nat} (a b : List D), okDs n a = true → okDs m b = true → PyData.eqvAll (toPys a) (toPys b) = eqBs a b
  | _, _, [], [], _, _ => rfl
  | _, _, [], _ :: _, _, _ => rfl
  | _, _, _ :: _, [], _, _ => rfl
  | n, m, x :: xs, y :: ys, ha, hb => by
    have ha' := Bool.and_eq_true_iff.mp (show (okD n x && okDs n xs) = true from by simpa [okDs] using ha)
    have hb' := Bool.and_eq_true_iff.mp (show (okD m y && okDs m ys) = true from by simpa [okDs] using hb)
    show (PyData.eqv (toPy x) (toPy y) && PyData.eqvAll (toPys xs) (toPys ys)) = (eqB x y && eqBs xs ys)
    rw [eqv_eqB x y ha'.1 hb'.1, eqvs_eqB xs ys ha'.2 hb'.2]
end

/-! ### equality, in -/
section
variable {G : Gc} {E : XK} {N : En} {O : List Nat} {X : Cx} {e a b c : Expr} {es : List Expr} {m ma mb mc : ME} {kd : Kd} {pos : Pos}
theorem v_eq : V2 G .v (rEqD G.K) eqD := by
  intro F H zs st x y dx dy d Q s S hx hy hg k
  unfold eqD at hg
  split at hg
  · rename_i ho
    cases hg
    obtain ⟨o1, o2⟩ := Bool.and_eq_true_iff.mp ho
    obtain ⟨a1, a2⟩ := hx.dp s o1
    obtain ⟨b1, b2⟩ := hy.dp s o2
    refine ⟨_, _, a1, b1, a2, b2, ?_⟩
    rw [eqv_eqB _ _ o1 o2]
    exact k _ H F (Grw.refl s) (.bl _)
  · cases hg
theorem v_ne : V2 G .v (rNeD G.K) neD := by
  intro F H zs st x y dx dy d Q s S hx hy hg k
  unfold neD at hg
  split at hg
  · rename_i ho
    cases hg
    obtain ⟨o1, o2⟩ := Bool.and_eq_true_iff.mp ho
    obtain ⟨a1, a2⟩ := hx.dp s o1
    obtain ⟨b1, b2⟩ := hy.dp s o2
    refine ⟨_, _, a1, b1, a2, b2, ?_⟩
    rw [eqv_eqB _ _ o1 o2]
    exact k _ H F (Grw.refl s) (.bl _)
  · cases hg
theorem r_eq (hK : X.K = G.K) (hu : X.A.units + 65 < cLine) : OpR X (compareOp .Eq) (rEqD G.K) := by rw [← hK]; exact op_eqD (by omega)
theorem r_ne (hK : X.K = G.K) (hu : X.A.units + 65 < cLine) : OpR X (compareOp .NotEq) (rNeD G.K) := by rw [← hK]; exact op_neD (by omega)
theorem c_eq (hK : X.K = G.K) (hu : X.A.units + 65 < cLine) (ha : PE X a (TEk G E N O .b ma)) (hb : PE X b (TEk G E N O .b mb)) : PE X (.Compare a [.Eq] [b] pos) (TEk G E N O .v (e2 eqD ma mb)) := c_cmp (r_eq hK hu) v_eq ha hb (nomark _)
theorem c_ne (hK : X.K = G.K) (hu : X.A.units + 65 < cLine) (ha : PE X a (TEk G E N O .b ma)) (hb : PE X b (TEk G E N O .b mb)) : PE X (.Compare a [.NotEq] [b] pos) (TEk G E N O .v (e2 neD ma mb)) := c_cmp (r_ne hK hu) v_ne ha hb (nomark _)
theorem t_eq (hK : X.K = G.K) (hu : X.A.units + 65 < cLine) (ha : PE X a (TEk G E N O .b ma)) (hb : PE X b (TEk G E N O .b mb)) : PT X (.Compare a [.Eq] [b] pos) (TTk G E N O (e2 eqD ma mb)) := c_tcmp (r_eq hK hu) v_eq ha hb (nomark _)
theorem t_ne (hK : X.K = G.K) (hu : X.A.units + 65 < cLine) (ha : PE X a (TEk G E N O .b ma)) (hb : PE X b (TEk G E N O .b mb)) : PT X (.Compare a [.NotEq] [b] pos) (TTk G E N O (e2 neD ma mb)) := c_tcmp (r_ne hK hu) v_ne ha hb (nomark _)

/-! ### is None -/
theorem v_isN : V2 G .v (fun x y H Q => y = .non ∧ Q (.bl (decide (x = .non))) H) (fun x y => match y with | .non => isNonD x | _ => none) := by
  intro F H zs st x y dx dy d Q s S hx hy hg k
  cases dy with
  | non =>
    refine ⟨hy.non, ?_⟩
    have key : decide (x = V.non) = (match dx with | .non => true | _ => false) := by
      rcases hx with h | ⟨a, rfl, _, h⟩
      · cases h <;> rfl
      · rcases h with ⟨_, _, rfl, _⟩ | ⟨_, _, rfl, _⟩ <;> rfl
    rw [key]
    cases dx <;> (cases hg; exact k _ H F (Grw.refl s) (.bl _))
  | _ => cases hg
theorem v_notN : V2 G .v (fun x y H Q => y = .non ∧ Q (.bl (!decide (x = .non))) H) (fun x y => match y with | .non => notNonD x | _ => none) := by
  intro F H zs st x y dx dy d Q s S hx hy hg k
  cases dy with
  | non =>
    refine ⟨hy.non, ?_⟩
    have key : decide (x = V.non) = (match dx with | .non => true | _ => false) := by
      rcases hx with h | ⟨a, rfl, _, h⟩
      · cases h <;> rfl
      · rcases h with ⟨_, _, rfl, _⟩ | ⟨_, _, rfl, _⟩ <;> rfl
    rw [key]
    cases dx <;> (cases hg; exact k _ H F (Grw.refl s) (.bl _))
  | _ => cases hg
theorem c_isN (ha : PE X a (TEk G E N O .b ma)) (hb : PE X b (TEk G E N O .b mb)) : PE X (.Compare a [.Is] [b] pos) (TEk G E N O .v (e2 isN2 ma mb)) := c_cmp op_isN v_isN ha hb (nomark _)
theorem c_notN (ha : PE X a (TEk G E N O .b ma)) (hb : PE X b (TEk G E N O .b mb)) : PE X (.Compare a [.IsNot] [b] pos) (TEk G E N O .v (e2 notN2 ma mb)) := c_cmp op_notN v_notN ha hb (nomark _)
theorem t_isN (ha : PE X a (TEk G E N O .b ma)) (hb : PE X b (TEk G E N O .b mb)) : PT X (.Compare a [.Is] [b] pos) (TTk G E N O (e2 isN2 ma mb)) := c_tcmp op_isN v_isN ha hb (nomark _)
theorem t_notN (ha : PE X a (TEk G E N O .b ma)) (hb : PE X b (TEk G E N O .b mb)) : PT X (.Compare a [.IsNot] [b] pos) (TTk G E N O (e2 notN2 ma mb)) := c_tcmp op_notN v_notN ha hb (nomark _)

/-! ### numbers -/
theorem Sh.ints {K : PySem.W.Frag} {F H : Hp} {zs : List (Addr × Addr)} {x y : V} {i j : Int} (hx : Sh K F H zs x (.int i)) (hy : Sh K F H zs y (.int j)) : x = .int i ∧ y = .int j := ⟨hx.int, hy.int⟩
theorem v_sub : V2 G .v (rI0 fun i j => .int (i - j)) subD := by
  intro F H zs st x y dx dy d Q s S hx hy hg k
  cases dx <;> cases dy <;> first | (cases hg; done) | skip
  cases hg
  exact ⟨_, _, hx.int, hy.int, k _ H F (Grw.refl s) (.int _)⟩
theorem c_sub (ha : PE X a (TEk G E N O .b ma)) (hb : PE X b (TEk G E N O .b mb)) : PE X (.BinOp a .Sub b pos) (TEk G E N O .v (e2 subD ma mb)) := c_op op_sub v_sub ha hb
theorem v_mul : V2 G .v (rI CMul fun i j => .int (i * j)) mulD := by
  intro F H zs st x y dx dy d Q s S hx hy hg k
  cases dx <;> cases dy <;> first | (cases hg; done) | skip
  rename_i i j
  simp only [mulD] at hg
  split at hg
  · rename_i hc
    cases hg
    exact ⟨_, _, hx.int, hy.int, by
      have hw : W64 = 18446744073709551616 := rfl
      rcases hc with hc | hc
      · exact .inl ⟨by have := hc.1; show -(2 ^ 64) < _; omega, by have := hc.2; show _ < 2 ^ 64; omega⟩
      · exact .inr ⟨by have := hc.1; show -(2 ^ 64) < _; omega, by have := hc.2; show _ < 2 ^ 64; omega⟩, k _ H F (Grw.refl s) (.int _)⟩
  · cases hg
theorem c_mul (ha : PE X a (TEk G E N O .b ma)) (hb : PE X b (TEk G E N O .b mb)) : PE X (.BinOp a .Mult b pos) (TEk G E N O .v (e2 mulD ma mb)) := c_op op_mul v_mul ha hb
theorem v_fdiv : V2 G .v (rI CDiv fun i j => .int (i / j)) fdivD := by
  intro F H zs st x y dx dy d Q s S hx hy hg k
  cases dx <;> cases dy <;> first | (cases hg; done) | skip
  rename_i i j
  simp only [fdivD] at hg
  split at hg
  · rename_i hc
    cases hg
    exact ⟨_, _, hx.int, hy.int, ⟨hc.1, hc.2⟩, k _ H F (Grw.refl s) (.int _)⟩
  · cases hg
theorem c_fdiv (ha : PE X a (TEk G E N O .b ma)) (hb : PE X b (TEk G E N O .b mb)) : PE X (.BinOp a .FloorDiv b pos) (TEk G E N O .v (e2 fdivD ma mb)) := c_op op_fdiv v_fdiv ha hb
theorem v_mod : V2 G .v (rI (fun _ j => 0 < j) fun i j => .int (i % j)) modD := by
  intro F H zs st x y dx dy d Q s S hx hy hg k
  cases dx <;> cases dy <;> first | (cases hg; done) | skip
  rename_i i j
  simp only [modD] at hg
  split at hg
  · rename_i hc
    cases hg
    exact ⟨_, _, hx.int, hy.int, hc, k _ H F (Grw.refl s) (.int _)⟩
  · cases hg
theorem c_mod (ha : PE X a (TEk G E N O .b ma)) (hb : PE X b (TEk G E N O .b mb)) : PE X (.BinOp a .Mod b pos) (TEk G E N O .v (e2 modD ma mb)) := c_op op_mod v_mod ha hb
theorem v_neg : V1 G .v (rU fun i => .int (-i)) negD := by
  intro F H zs st x dx d Q s S hx hg k
  cases dx <;> first | (cases hg; done) | skip
  cases hg
  exact ⟨_, hx.int, k _ H F (Grw.refl s) (.int _)⟩
theorem c_neg (ha : PE X a (TEk G E N O .b ma)) : PE X (.UnaryOp .USub a pos) (TEk G E N O .v (e1 negD ma)) := c_un un_neg v_neg ha
end
end Dn

/-! Dn6: more built-ins. -/
namespace Dn
open PySem PySem.Spec PyProof.Rows L2
section
variable {G : Gc} {E : XK} {N : En} {O : List Nat} {X : Cx} {e a b c : Expr} {es : List Expr} {m ma mb mc : ME} {kd : Kd} {pos p : Pos} {x : Str}

/-! ### a new object -/
theorem k_newTup {F H : Hp} {zs : List (Addr × Addr)} {Q : VK} {vs : List V} {ds : List D} (s : Same F H) (k : ∀ v H' F', Grw F H F' H' → Res G.K .v H F' H' zs v (.tup ds) → Q v H') (r : RpAll G.K F (osOf zs) vs ds) (hz : ds.length ≤ SZ) {q : Addr} (hq : H q = none) : Q (.ref q) (upd H q (.tup vs)) :=
  k _ _ _ (Grw.one s hq) (.tup (.of upd_same) (r.mono (Grw.one s hq).f (List.prefix_refl _)) hz)
theorem k_newLst {F H : Hp} {zs : List (Addr × Addr)} {st : Sto} {Q : VK} {vs : List V} {ds : List D} (s : Same F H) (S : StoRel G F H zs st) (k : ∀ v H' F', Grw F H F' H' → Res G.K .o H F' H' zs v (.list ds) → Q v H') (r : RpAll G.K F (osOf zs) vs ds) (hz : ds.length ≤ SZ) {q : Addr} (hq : H q = none) : Q (.ref q) (upd H q (.lst vs)) :=
  k _ _ _ (Grw.oneH s hq) ⟨q, rfl, .of hq, s.free hq, S.notz hq, .inl ⟨vs, ds, rfl, upd_same, r, hz⟩⟩
theorem k_newDct {F H : Hp} {zs : List (Addr × Addr)} {st : Sto} {Q : VK} {vs : List (Key × V)} {ds : List (List Nat × D)} (s : Same F H) (S : StoRel G F H zs st) (k : ∀ v H' F', Grw F H F' H' → Res G.K .o H F' H' zs v (.dict ds) → Q v H') (r : RpKv G.K F (osOf zs) vs ds) (hz : ds.length ≤ SZ) {q : Addr} (hq : H q = none) : Q (.ref q) (upd H q (.dK vs)) :=
  k _ _ _ (Grw.oneH s hq) ⟨q, rfl, .of hq, s.free hq, S.notz hq, .inr ⟨vs, ds, rfl, upd_same, r, hz⟩⟩
/-- one's own or frozen: the caller may have it frozen -/
theorem k_ov {F H : Hp} {zs : List (Addr × Addr)} {Q : VK} {d : D} (k : ∀ v H' F', Grw F H F' H' → Res G.K .v H F' H' zs v d → Q v H') : ∀ v H' F', Grw F H F' H' → Res G.K .o H F' H' zs v d → Q v H' := by
  rintro v H' F' g ⟨a, rfl, h1, h2, h3, h4⟩
  obtain ⟨u, hu, rp, hnt⟩ := h4.frozen h2
  refine k _ H' (upd F' a u) ⟨g.f.trans fun b o e => by rw [upd_ne (ne_of_none e h2)]; exact e, fun b o e => ?_, g.h, fun b o e => ?_, fun b o e => ?_⟩ rp
  · by_cases hb : b = a
    · subst hb; rw [upd_same] at e; cases e; exact hu
    · rw [upd_ne hb] at e; exact g.sub b o e
  · by_cases hb : b = a
    · subst hb; exact .inr h1
    · rw [upd_ne hb] at e; exact g.new b o e
  · by_cases hb : b = a
    · subst hb; rw [upd_same] at e; cases e; exact .inr hnt
    · rw [upd_ne hb] at e; exact g.nt b o e

/-! ### displays -/
theorem ta_disp {g : List D → Option D} {t : TA → TE} {ms : MA} (hv : ∀ (F H : Hp) (zs : List (Addr × Addr)) (st : Sto) (vs : List V) (ds : List D) (d : D) (Q : VK), Same F H → StoRel G F H zs st → RpAll G.K F (osOf zs) vs ds → g ds = some d → (∀ v H' F', Grw F H F' H' → Res G.K kd H F' H' zs v d → Q v H') →
      vs.length ≤ sizeLine ∧ ∀ p, H p = none → Q (.ref p) (upd H p (if true then .lst vs else .tup vs))) : True := trivial
theorem c_tup {k : Nat} {ms : MA} (ha : PA X es (TAk G E N O .v ms)) : PE X (.Tuple es k pos) (TEk G E N O .v (eA dispT ms)) := by
  refine PE.imp (pe_tup ha) fun σ H Q ⟨env, st, F, zs, rel, p⟩ => ⟨env, st, F, zs, rel, ?_⟩
  have p : Post G E .v F H zs ((ms env st).bind fun xs st => ofOpt (dispT xs) st) Q := p
  cases e : ms env st with
  | bad => rw [e] at p; exact p
  | exc c st1 => rw [e] at p; exact p
  | ok ds st1 =>
    rw [e] at p
    intro vs H1 F1 zs1 x1 S1 q1
    obtain ⟨d, e1, k⟩ := post_ofOpt S1 (p.back x1)
    unfold dispT at e1
    by_cases hl : ds.length ≤ SZ
    · rw [if_pos hl] at e1
      cases e1
      have q1 : RpAll G.K F1 (osOf zs1) vs ds := q1
      exact ⟨by rw [q1.length, szl]; exact hl, fun q hq => k_newTup x1.sub k q1 hl hq⟩
    · rw [if_neg hl] at e1; cases e1
theorem c_lst {ms : MA} (ha : PA X es (TAk G E N O .v ms)) : PE X (.List es pos) (TEk G E N O .o (eA dispL ms)) := by
  refine PE.imp (pe_lst ha) fun σ H Q ⟨env, st, F, zs, rel, p⟩ => ⟨env, st, F, zs, rel, ?_⟩
  have p : Post G E .o F H zs ((ms env st).bind fun xs st => ofOpt (dispL xs) st) Q := p
  cases e : ms env st with
  | bad => rw [e] at p; exact p
  | exc c st1 => rw [e] at p; exact p
  | ok ds st1 =>
    rw [e] at p
    intro vs H1 F1 zs1 x1 S1 q1
    obtain ⟨d, e1, k⟩ := post_ofOpt S1 (p.back x1)
    unfold dispL at e1
    by_cases hl : ds.length ≤ SZ
    · rw [if_pos hl] at e1
      cases e1
      have q1 : RpAll G.K F1 (osOf zs1) vs ds := q1
      exact ⟨by rw [q1.length, szl]; exact hl, fun q hq => k_newLst x1.sub S1 k q1 hl hq⟩
    · rw [if_neg hl] at e1; cases e1
theorem c_dnew : PE X (.Dict [] [] pos) (TEk G E N O .o (eC (.dict []))) := by
  refine PE.imp pe_dnewK fun σ H Q ⟨env, st, F, zs, rel, p⟩ q hq => ?_
  exact k_newDct rel.sub rel.sto (fun v H' F' g r => p v H' F' zs g.ext (rel.sto.grow g) r) .nil (Nat.zero_le _) hq

/-! ### + -/
theorem strOk_app {x y : List Nat} (hx : StrOk x) (hy : StrOk y) (h : x.length + y.length ≤ SZ) : StrOk (x ++ y) := ⟨by rw [List.length_append]; exact h, fun c hc => (List.mem_append.mp hc).elim (hx.2 c) (hy.2 c)⟩
theorem strOk_sub {x y : List Nat} (hx : StrOk x) (h : y.Sublist x) : StrOk y := ⟨Nat.le_trans h.length_le hx.1, fun c hc => hx.2 c (h.mem hc)⟩
theorem len_str (z : Str) : z.length = z.cps.toList.length := TL.len_tl z
def rAddA (K : PySem.W.Frag) : R2 := fun x y H Q => (rI0 (fun i j => .int (i + j)) x y H Q ∨ (∃ i j, x = .str i ∧ y = .str j ∧ i.length + j.length ≤ sizeLine ∧ Q (.str (i ++ j)) H)) ∨ (rCatA K x y H Q ∨ rCat x y H Q)
theorem v_add : V2 G .v (rAddA G.K) addD := by
  intro F H zs st x y dx dy d Q s S hx hy hg k
  cases dx <;> cases dy <;> first | (cases hg; done) | skip
  · cases hg
    exact .inl (.inl ⟨_, _, hx.int, hy.int, k _ H F (Grw.refl s) (.int _)⟩)
  · simp only [addD] at hg
    split at hg
    · rename_i hl
      cases hg
      obtain ⟨z1, rfl, e1, o1⟩ := hx.str
      obtain ⟨z2, rfl, e2, o2⟩ := hy.str
      refine .inl (.inr ⟨_, _, rfl, rfl, by rw [len_str, len_str, e1, e2, szl]; exact hl, k _ H F (Grw.refl s) (.str ?_ (strOk_app o1 o2 hl))⟩)
      rw [← e1, ← e2]; exact TL.tl_append z1 z2
    · cases hg
  · simp only [addD] at hg
    split at hg
    · rename_i hl
      cases hg
      obtain ⟨a1, vs1, rfl, q1, _⟩ := hx.list s
      obtain ⟨a2, vs2, rfl, q2, _⟩ := hy.list s
      rename_i r1 r2
      refine .inr (.inr ⟨_, _, _, _, rfl, rfl, q1, q2, by rw [r1.1.length, r2.1.length, szl]; exact hl, fun q hq => ?_⟩)
      exact k_newLst s S (k_ov k) (r1.1.append r2.1) (by rw [List.length_append]; exact hl) hq
    · cases hg
  · simp only [addD] at hg
    split at hg
    · rename_i hl
      cases hg
      obtain ⟨a1, vs1, rfl, q1, r1, z1⟩ := hx.tup
      obtain ⟨a2, vs2, rfl, q2, r2, z2⟩ := hy.tup
      refine .inr (.inl ⟨_, _, _, _, rfl, rfl, same_seqT s q1, same_seqT s q2, by rw [r1.length, r2.length, szl]; exact hl, fun e => ?_, fun e1 e => ?_, fun e1 e2 q hq => ?_⟩)
      · subst e
        cases r1
        exact k _ H F (Grw.refl s) (.tup q2 r2 z2)
      · subst e
        cases r2
        rw [List.append_nil] at k
        exact k _ H F (Grw.refl s) (.tup q1 r1 z1)
      · exact k_newTup s k (r1.append r2) (by rw [List.length_append]; exact hl) hq
    · cases hg
theorem r_add (hK : X.K = G.K) : OpR X (binaryOp .Add) (rAddA G.K) := by
  rw [← hK]
  exact OpR.or (OpR.or op_add op_add_str) (OpR.or op_catA op_cat)
theorem c_add (hK : X.K = G.K) (ha : PE X a (TEk G E N O .b ma)) (hb : PE X b (TEk G E N O .b mb)) : PE X (.BinOp a .Add b pos) (TEk G E N O .v (e2 addD ma mb)) := c_op (r_add hK) v_add ha hb
/-- lists alone: one's own -/
theorem v_addL : V2 G .o rCat (fun x y => match x, y with | .list xs, .list ys => addD (.list xs) (.list ys) | _, _ => none) := by
  intro F H zs st x y dx dy d Q s S hx hy hg k
  cases dx <;> cases dy <;> first | (cases hg; done) | skip
  simp only [addD] at hg
  split at hg
  · rename_i hl
    cases hg
    obtain ⟨a1, vs1, rfl, q1, r1, _⟩ := hx.list s
    obtain ⟨a2, vs2, rfl, q2, r2, _⟩ := hy.list s
    refine ⟨_, _, _, _, rfl, rfl, q1, q2, by rw [r1.length, r2.length, szl]; exact hl, fun q hq => ?_⟩
    exact k_newLst s S k (r1.append r2) (by rw [List.length_append]; exact hl) hq
  · cases hg

/-! ### order -/
theorem ltS_lt : ∀ (x y : List Nat), decide (x < y) = ltS x y
  | [], [] => by rfl
  | [], _ :: _ => by rfl
  | _ :: _, [] => by rfl
  | x :: xs, y :: ys => by
    unfold ltS
    by_cases h : x = y
    · subst h
      rw [if_pos rfl, ← ltS_lt xs ys]
      simp [List.cons_lt_cons_iff]
    · rw [if_neg h]
      simp [List.cons_lt_cons_iff, h]
def rOrd (f : Int → Int → Bool) (g : List Nat → List Nat → Bool) : R2 := fun x y H Q => rI0 (fun i j => .bl (f i j)) x y H Q ∨ (∃ i j, x = .str i ∧ y = .str j ∧ Q (.bl (g i.cps.toList j.cps.toList)) H)
theorem v_ord {f : Int → Int → Bool} {g : List Nat → List Nat → Bool} {h : D → D → Option D} (hi : ∀ i j, h (.int i) (.int j) = some (.bool (f i j))) (hs : ∀ i j, h (.str i) (.str j) = some (.bool (g i j))) (hn : ∀ x y d, h x y = some d → (∃ i j, x = .int i ∧ y = .int j) ∨ (∃ i j, x = .str i ∧ y = .str j)) : V2 G .v (rOrd f g) h := by
  intro F H zs st x y dx dy d Q s S hx hy hg k
  rcases hn dx dy d hg with ⟨i, j, rfl, rfl⟩ | ⟨i, j, rfl, rfl⟩
  · rw [hi] at hg; cases hg
    exact .inl ⟨_, _, hx.int, hy.int, k _ H F (Grw.refl s) (.bl _)⟩
  · rw [hs] at hg; cases hg
    obtain ⟨z1, rfl, e1, o1⟩ := hx.str
    obtain ⟨z2, rfl, e2, o2⟩ := hy.str
    refine .inr ⟨_, _, rfl, rfl, ?_⟩
    rw [e1, e2]
    exact k _ H F (Grw.refl s) (.bl _)
theorem ord_n {h : D → D → Option D} (h0 : h = ltD ∨ h = leD ∨ h = gtD ∨ h = geD) : ∀ x y d, h x y = some d → (∃ i j, x = .int i ∧ y = .int j) ∨ (∃ i j, x = .str i ∧ y = .str j) := by
  intro x y d e
  rcases h0 with rfl | rfl | rfl | rfl <;> cases x <;> cases y <;> first | exact .inl ⟨_, _, rfl, rfl⟩ | exact .inr ⟨_, _, rfl, rfl⟩ | cases e
theorem v_lt : V2 G .v (rOrd (fun i j => decide (i < j)) ltS) ltD := v_ord (fun _ _ => rfl) (fun _ _ => rfl) (ord_n (.inl rfl))
theorem v_le : V2 G .v (rOrd (fun i j => decide (i ≤ j)) fun x y => !ltS y x) leD := v_ord (fun _ _ => rfl) (fun _ _ => rfl) (ord_n (.inr (.inl rfl)))
theorem v_gt : V2 G .v (rOrd (fun i j => decide (j < i)) fun x y => ltS y x) gtD := v_ord (fun _ _ => rfl) (fun _ _ => rfl) (ord_n (.inr (.inr (.inl rfl))))
theorem v_ge : V2 G .v (rOrd (fun i j => decide (j ≤ i)) fun x y => !ltS x y) geD := v_ord (fun _ _ => rfl) (fun _ _ => rfl) (ord_n (.inr (.inr (.inr rfl))))
theorem r_lt : OpR X (compareOp .Lt) (rOrd (fun i j => decide (i < j)) ltS) := OpR.or op_lt (by
  intro pins s σ H x y v u Q I rx ry ⟨i, j, e1, e2, q⟩
  exact op_lt_str pins s σ H x y v u Q I rx ry ⟨i, j, e1, e2, by rw [ltS_lt]; exact q⟩)
theorem r_le : OpR X (compareOp .LtE) (rOrd (fun i j => decide (i ≤ j)) fun x y => !ltS y x) := OpR.or op_le (by
  intro pins s σ H x y v u Q I rx ry ⟨i, j, e1, e2, q⟩
  exact op_le_str pins s σ H x y v u Q I rx ry ⟨i, j, e1, e2, by rw [ltS_lt]; exact q⟩)
theorem r_gt : OpR X (compareOp .Gt) (rOrd (fun i j => decide (j < i)) fun x y => ltS y x) := OpR.or op_gt (by
  intro pins s σ H x y v u Q I rx ry ⟨i, j, e1, e2, q⟩
  exact op_gt_str pins s σ H x y v u Q I rx ry ⟨i, j, e1, e2, by rw [ltS_lt]; exact q⟩)
theorem r_ge : OpR X (compareOp .GtE) (rOrd (fun i j => decide (j ≤ i)) fun x y => !ltS x y) := OpR.or op_ge (by
  intro pins s σ H x y v u Q I rx ry ⟨i, j, e1, e2, q⟩
  exact op_ge_str pins s σ H x y v u Q I rx ry ⟨i, j, e1, e2, by rw [ltS_lt]; exact q⟩)
theorem c_lt (ha : PE X a (TEk G E N O .b ma)) (hb : PE X b (TEk G E N O .b mb)) : PE X (.Compare a [.Lt] [b] pos) (TEk G E N O .v (e2 ltD ma mb)) := c_cmp r_lt v_lt ha hb (nomark _)
theorem c_le (ha : PE X a (TEk G E N O .b ma)) (hb : PE X b (TEk G E N O .b mb)) : PE X (.Compare a [.LtE] [b] pos) (TEk G E N O .v (e2 leD ma mb)) := c_cmp r_le v_le ha hb (nomark _)
theorem c_gt (ha : PE X a (TEk G E N O .b ma)) (hb : PE X b (TEk G E N O .b mb)) : PE X (.Compare a [.Gt] [b] pos) (TEk G E N O .v (e2 gtD ma mb)) := c_cmp r_gt v_gt ha hb (nomark _)
theorem c_ge (ha : PE X a (TEk G E N O .b ma)) (hb : PE X b (TEk G E N O .b mb)) : PE X (.Compare a [.GtE] [b] pos) (TEk G E N O .v (e2 geD ma mb)) := c_cmp r_ge v_ge ha hb (nomark _)
theorem t_lt (ha : PE X a (TEk G E N O .b ma)) (hb : PE X b (TEk G E N O .b mb)) : PT X (.Compare a [.Lt] [b] pos) (TTk G E N O (e2 ltD ma mb)) := c_tcmp r_lt v_lt ha hb (nomark _)
theorem t_le (ha : PE X a (TEk G E N O .b ma)) (hb : PE X b (TEk G E N O .b mb)) : PT X (.Compare a [.LtE] [b] pos) (TTk G E N O (e2 leD ma mb)) := c_tcmp r_le v_le ha hb (nomark _)
theorem t_gt (ha : PE X a (TEk G E N O .b ma)) (hb : PE X b (TEk G E N O .b mb)) : PT X (.Compare a [.Gt] [b] pos) (TTk G E N O (e2 gtD ma mb)) := c_tcmp r_gt v_gt ha hb (nomark _)
theorem t_ge (ha : PE X a (TEk G E N O .b ma)) (hb : PE X b (TEk G E N O .b mb)) : PT X (.Compare a [.GtE] [b] pos) (TTk G E N O (e2 geD ma mb)) := c_tcmp r_ge v_ge ha hb (nomark _)
/-- a <= b <= c, a <= b < c, a < b < c -/
theorem c_lele (ha : PE X a (TEk G E N O .b ma)) (hb : PE X b (TEk G E N O .b mb)) (hc : PE X c (TEk G E N O .b mc)) (hm : lastMarks [.LtE, .LtE] [b, c] = false := by with_unfolding_all rfl) : PE X (.Compare a [.LtE, .LtE] [b, c] pos) (TEk G E N O .v (eChain leD leD ma mb mc)) := c_chain r_le v_le r_le v_le ha hb hc hm
theorem t_lele (ha : PE X a (TEk G E N O .b ma)) (hb : PE X b (TEk G E N O .b mb)) (hc : PE X c (TEk G E N O .b mc)) (hm : lastMarks [.LtE, .LtE] [b, c] = false := by with_unfolding_all rfl) : PT X (.Compare a [.LtE, .LtE] [b, c] pos) (TTk G E N O (eChain leD leD ma mb mc)) := c_tchain r_le v_le r_le v_le ha hb hc hm
theorem c_lelt (ha : PE X a (TEk G E N O .b ma)) (hb : PE X b (TEk G E N O .b mb)) (hc : PE X c (TEk G E N O .b mc)) (hm : lastMarks [.LtE, .Lt] [b, c] = false := by with_unfolding_all rfl) : PE X (.Compare a [.LtE, .Lt] [b, c] pos) (TEk G E N O .v (eChain leD ltD ma mb mc)) := c_chain r_le v_le r_lt v_lt ha hb hc hm
theorem t_lelt (ha : PE X a (TEk G E N O .b ma)) (hb : PE X b (TEk G E N O .b mb)) (hc : PE X c (TEk G E N O .b mc)) (hm : lastMarks [.LtE, .Lt] [b, c] = false := by with_unfolding_all rfl) : PT X (.Compare a [.LtE, .Lt] [b, c] pos) (TTk G E N O (eChain leD ltD ma mb mc)) := c_tchain r_le v_le r_lt v_lt ha hb hc hm
theorem c_ltlt (ha : PE X a (TEk G E N O .b ma)) (hb : PE X b (TEk G E N O .b mb)) (hc : PE X c (TEk G E N O .b mc)) (hm : lastMarks [.Lt, .Lt] [b, c] = false := by with_unfolding_all rfl) : PE X (.Compare a [.Lt, .Lt] [b, c] pos) (TEk G E N O .v (eChain ltD ltD ma mb mc)) := c_chain r_lt v_lt r_lt v_lt ha hb hc hm
theorem t_ltlt (ha : PE X a (TEk G E N O .b ma)) (hb : PE X b (TEk G E N O .b mb)) (hc : PE X c (TEk G E N O .b mc)) (hm : lastMarks [.Lt, .Lt] [b, c] = false := by with_unfolding_all rfl) : PT X (.Compare a [.Lt, .Lt] [b, c] pos) (TTk G E N O (eChain ltD ltD ma mb mc)) := c_tchain r_lt v_lt r_lt v_lt ha hb hc hm
end
end Dn

/-! Dn7: in, subscripts, slices, built-in functions and methods, changes. -/
namespace Dn
open PySem PySem.Spec PyProof.Rows L2
section
variable {G : Gc} {E : XK} {N : En} {O : List Nat} {X : Cx} {e a b c : Expr} {es : List Expr} {m ma mb mc : ME} {kd : Kd} {pos p : Pos} {x : Str}

/-! ### in -/
/-- item in a list or tuple of data -/
def rInS (K : PySem.W.Frag) (neg : Bool) : R2 := fun x y H Q => ∃ d ds, Dp K H x d ∧ (Dp K H y (.list ds) ∨ Dp K H y (.tuple ds)) ∧ SeqAt.shaped d = true ∧ SeqAt.shaped (.list ds) = true ∧ Q (.bl (if neg then !(ds.any fun z => PyData.eqv z d) else ds.any fun z => PyData.eqv z d)) H
theorem shaped_tl {ds : List PyData} (h : SeqAt.shaped (.list ds) = true) : PyData.canLayAll0 ds = true := by
  have := SeqAt.canLay_of_shaped h
  simpa [PyData.canLay0] using this
theorem op_inS (hu : X.A.units + 65 < cLine) : OpR X (compareOp .In) (rInS X.K false) := by
  intro pins s σ H x y v u Q I rx ry h
  obtain ⟨d, ds, hd, he, sd, se, q⟩ := h
  obtain ⟨as, r1⟩ := Dp.reads I d x v hd rx
  rcases he with he | he
  · obtain ⟨bs, r2⟩ := Dp.reads I (.list ds) y u he ry
    exact SeqAt.in_list_reads r2 r1 (shaped_tl se) (SeqAt.canLay_of_shaped sd) (room_in_shaped sd hu) ⟨.bl _, H, I, rfl, q⟩
  · obtain ⟨bs, r2⟩ := Dp.reads I (.tuple ds) y u he ry
    exact SeqAt.in_tuple_reads r2 r1 (shaped_tl se) (SeqAt.canLay_of_shaped sd) (room_in_shaped sd hu) ⟨.bl _, H, I, rfl, q⟩
theorem op_notInS (hu : X.A.units + 65 < cLine) : OpR X (compareOp .NotIn) (rInS X.K true) := by
  intro pins s σ H x y v u Q I rx ry h
  obtain ⟨d, ds, hd, he, sd, se, q⟩ := h
  obtain ⟨as, r1⟩ := Dp.reads I d x v hd rx
  rcases he with he | he
  · obtain ⟨bs, r2⟩ := Dp.reads I (.list ds) y u he ry
    exact SeqAt.notIn_list_reads r2 r1 (shaped_tl se) (SeqAt.canLay_of_shaped sd) (room_in_shaped sd hu) ⟨.bl _, H, I, rfl, q⟩
  · obtain ⟨bs, r2⟩ := Dp.reads I (.tuple ds) y u he ry
    exact SeqAt.notIn_tuple_reads r2 r1 (shaped_tl se) (SeqAt.canLay_of_shaped sd) (room_in_shaped sd hu) ⟨.bl _, H, I, rfl, q⟩
theorem any_eqv {n k : Nat} {dx : D} (hx : okD n dx = true) : ∀ {xs : List D}, okDs k xs = true → (toPys xs).any (fun z => PyData.eqv z (toPy dx)) = memB dx xs
  | [], _ => rfl
  | y :: ys, h => by
    have h' := Bool.and_eq_true_iff.mp (show (okD k y && okDs k ys) = true from by simpa [okDs] using h)
    show (PyData.eqv (toPy y) (toPy dx) || (toPys ys).any _) = (eqB y dx || memB dx ys)
    rw [eqv_eqB y dx h'.1 hx, any_eqv hx h'.2]
theorem Sh.dps {K : PySem.W.Frag} {F H : Hp} {zs : List (Addr × Addr)} (s : Same F H) {v : V} {xs : List D} (h : Sh K F H zs v (.list xs) ∨ Sh K F H zs v (.tup xs)) (e : okDs 39 xs = true) : (Dp K H v (.list (toPys xs)) ∨ Dp K H v (.tuple (toPys xs))) ∧ SeqAt.shaped (.list (toPys xs)) = true := by
  rcases h with h | h
  · obtain ⟨h1, h2⟩ := h.dp s (show okD DP (.list xs) = true by simpa [okD] using e)
    exact ⟨.inl h1, h2⟩
  · obtain ⟨h1, h2⟩ := h.dp s (show okD DP (.tup xs) = true by simpa [okD] using e)
    refine ⟨.inr h1, ?_⟩
    unfold SeqAt.shaped at h2 ⊢
    simpa [toPy, PyData.canLay0, PyData.depth] using h2
/-- keys of a dict: a rule of its own (the dict's room) -/
def rDIn (neg : Bool) : R2 := fun y x H Q => ∃ a o, x = .ref a ∧ DGet H a y o ∧ Q (.bl (if neg then !o.isSome else o.isSome)) H
theorem op_dIn (hu : X.A.units + 65 < cLine) : OpR X (compareOp .In) (rDIn false) := by
  intro pins s σ H x y v u Q I rx ry ⟨a, o, e, g, q⟩
  subst e
  cases ry
  exact d_in (by omega) I g rx fun s' I' => ⟨.bl _, H, I', rfl, q⟩
theorem op_dNotIn (hu : X.A.units + 65 < cLine) : OpR X (compareOp .NotIn) (rDIn true) := by
  intro pins s σ H x y v u Q I rx ry ⟨a, o, e, g, q⟩
  subst e
  cases ry
  exact d_notIn (by omega) I g rx fun s' I' => ⟨.bl _, H, I', rfl, q⟩
theorem RpKv.look {K : PySem.W.Frag} {F : Hp} {os : List Addr} {x : Str} {l : List Nat} (hx : x.cps.toList = l) : ∀ {kvs : List (Key × V)} {ds : List (List Nat × D)}, RpKv K F os kvs ds →
    (lookD ds l = none ∧ valV kvs (.inr x) = none) ∨ ∃ d v, lookD ds l = some d ∧ valV kvs (.inr x) = some v ∧ Rp K F os v d
  | _, _, .nil => .inl ⟨rfl, rfl⟩
  | _, _, .cons (x := y) (l := l') h1 h2 h t => by
    unfold lookD
    by_cases e : l' = l
    · have ey : y = x := TL.ext_tl (show y.cps.toList = x.cps.toList by rw [h1, hx, e])
      subst ey
      rw [if_pos e]
      exact .inr ⟨_, _, rfl, valV_pos rfl, h⟩
    · have ey : ¬ (Sum.inr y : Key) = Sum.inr x := fun z => e (by injection z with z; rw [← h1, ← hx, z])
      rw [if_neg e, valV_neg ey]
      exact RpKv.look hx t
def rInA (K : PySem.W.Frag) (neg : Bool) : R2 := fun x y H Q => (rDIn neg x y H Q ∨ (∃ (c : Nat) (z : Str), x = .str ⟨#[c]⟩ ∧ y = .str z ∧ Q (.bl (if neg then !decide (c ∈ z.cps.toList) else decide (c ∈ z.cps.toList))) H)) ∨ rInS K neg x y H Q
theorem in_v (neg : Bool) : V2 G .v (rInA G.K neg) (fun x y => match inD x y with | some (.bool b) => some (.bool (if neg then !b else b)) | _ => none) := by
  intro F H zs st x y dx dy d Q s S hx hy hg k
  have fin : ∀ {b : Bool}, inD dx dy = some (.bool b) → d = .bool (if neg then !b else b) := fun {b} e => by
    simp only [e] at hg; cases hg; rfl
  have seq : ∀ {xs : List D}, (Sh G.K F H zs y (.list xs) ∨ Sh G.K F H zs y (.tup xs)) → okD DP dx = true → okDs 39 xs = true → inD dx dy = some (.bool (memB dx xs)) → rInA G.K neg x y H Q := fun {xs} h o1 o2 e => by
    obtain ⟨a1, a2⟩ := hx.dp s o1
    obtain ⟨b1, b2⟩ := Sh.dps s h o2
    have ed := fin e
    subst ed
    refine .inr ⟨_, _, a1, b1, a2, b2, ?_⟩
    rw [any_eqv o1 o2]
    exact k _ H F (Grw.refl s) (.bl _)
  have lst : ∀ {xs : List D}, dy = .list xs → (∀ l kvs, dx = .str l → dy ≠ .dict kvs) → rInA G.K neg x y H Q := fun {xs} e _ => by
    subst e
    have e1 : inD dx (.list xs) = if okD DP dx && okD DP (.list xs) then some (.bool (memB dx xs)) else none := by cases dx <;> rfl
    by_cases ho : (okD DP dx && okD DP (.list xs)) = true
    · obtain ⟨o1, o2⟩ := Bool.and_eq_true_iff.mp ho
      exact seq (.inl hy) o1 (by simpa [okD] using o2) (by rw [e1, if_pos ho])
    · have hg : (match inD dx _ with | some (.bool b) => some (D.bool (if neg then !b else b)) | _ => none) = some d := hg
      rw [e1, if_neg ho] at hg; cases hg
  have tpl : ∀ {xs : List D}, dy = .tup xs → rInA G.K neg x y H Q := fun {xs} e => by
    subst e
    have e1 : inD dx (.tup xs) = if okD DP dx && okD DP (.tup xs) then some (.bool (memB dx xs)) else none := by cases dx <;> rfl
    by_cases ho : (okD DP dx && okD DP (.tup xs)) = true
    · obtain ⟨o1, o2⟩ := Bool.and_eq_true_iff.mp ho
      exact seq (.inr hy) o1 (by simpa [okD] using o2) (by rw [e1, if_pos ho])
    · have hg : (match inD dx _ with | some (.bool b) => some (D.bool (if neg then !b else b)) | _ => none) = some d := hg
      rw [e1, if_neg ho] at hg; cases hg
  cases dy with
  | list xs => exact lst rfl (fun _ _ _ z => by cases z)
  | tup xs => exact tpl rfl
  | dict kvs =>
    cases dx with
    | str l =>
      have ed := fin (show inD (.str l) (.dict kvs) = some (.bool (lookD kvs l).isSome) from rfl)
      subst ed
      obtain ⟨z, rfl, ez, _⟩ := hx.str
      obtain ⟨a, kv, rfl, hH, r, _⟩ := hy.dict s
      refine .inl (.inl ⟨a, _, rfl, DGet.k (k := .inr z) hH, ?_⟩)
      have eq : (valV kv (.inr z)).isSome = (lookD kvs l).isSome := by
        rcases r.look ez with ⟨h1, h2⟩ | ⟨d', v', h1, h2, _⟩ <;> rw [h1, h2] <;> rfl
      rw [eq]
      exact k _ H F (Grw.refl s) (.bl _)
    | _ => cases hg
  | str l =>
    cases dx with
    | str w =>
      cases w with
      | nil => cases hg
      | cons c w =>
        cases w with
        | cons _ _ => cases hg
        | nil =>
          have ed := fin (show inD (.str [c]) (.str l) = some (.bool (decide (c ∈ l))) from rfl)
          subst ed
          obtain ⟨z, rfl, ez, _⟩ := hx.str
          obtain ⟨z2, rfl, ez2, _⟩ := hy.str
          refine .inl (.inr ⟨c, z2, ?_, rfl, ?_⟩)
          · rw [mk_tl' ez]
          · rw [ez2]; exact k _ H F (Grw.refl s) (.bl _)
    | _ => cases hg
  | _ => cases dx <;> cases hg
theorem v_in : V2 G .v (rInA G.K false) inD := by
  intro F H zs st x y dx dy d Q s S hx hy hg k
  refine in_v false F H zs st x y dx dy d Q s S hx hy ?_ k
  have hb : ∀ d, inD dx dy = some d → ∃ b, d = .bool b := by
    intro d e
    unfold inD at e
    split at e <;> (try split at e) <;> first | (cases e; exact ⟨_, rfl⟩) | cases e
  obtain ⟨b, rfl⟩ := hb d hg
  simp only [hg]
  rfl
theorem v_nin : V2 G .v (rInA G.K true) ninD := in_v true
theorem r_in (hK : X.K = G.K) (hu : X.A.units + 65 < cLine) : OpR X (compareOp .In) (rInA G.K false) := by
  rw [← hK]
  exact OpR.or (OpR.or (op_dIn hu) op_in_sign) (op_inS hu)
theorem r_nin (hK : X.K = G.K) (hu : X.A.units + 65 < cLine) : OpR X (compareOp .NotIn) (rInA G.K true) := by
  rw [← hK]
  exact OpR.or (OpR.or (op_dNotIn hu) op_notIn_sign) (op_notInS hu)
theorem c_in (hK : X.K = G.K) (hu : X.A.units + 65 < cLine) (ha : PE X a (TEk G E N O .b ma)) (hb : PE X b (TEk G E N O .b mb)) (hm : behindInMarks .In b = false := by rfl) : PE X (.Compare a [.In] [b] pos) (TEk G E N O .v (e2 inD ma mb)) := c_cmp (r_in hK hu) v_in ha hb hm
theorem c_nin (hK : X.K = G.K) (hu : X.A.units + 65 < cLine) (ha : PE X a (TEk G E N O .b ma)) (hb : PE X b (TEk G E N O .b mb)) (hm : behindInMarks .NotIn b = false := by rfl) : PE X (.Compare a [.NotIn] [b] pos) (TEk G E N O .v (e2 ninD ma mb)) := c_cmp (r_nin hK hu) v_nin ha hb hm
theorem t_in (hK : X.K = G.K) (hu : X.A.units + 65 < cLine) (ha : PE X a (TEk G E N O .b ma)) (hb : PE X b (TEk G E N O .b mb)) (hm : behindInMarks .In b = false := by rfl) : PT X (.Compare a [.In] [b] pos) (TTk G E N O (e2 inD ma mb)) := c_tcmp (r_in hK hu) v_in ha hb hm
theorem t_nin (hK : X.K = G.K) (hu : X.A.units + 65 < cLine) (ha : PE X a (TEk G E N O .b ma)) (hb : PE X b (TEk G E N O .b mb)) (hm : behindInMarks .NotIn b = false := by rfl) : PT X (.Compare a [.NotIn] [b] pos) (TTk G E N O (e2 ninD ma mb)) := c_tcmp (r_nin hK hu) v_nin ha hb hm

/-! ### subscripts -/
theorem ixN_eq (n : Nat) (i : Int) : ixN n i = ixD n i := rfl
theorem PE.or {t t' : TE} (h : PE X e t) (h' : PE X e t') : PE X e (fun σ H Q => t σ H Q ∨ t' σ H Q) := ⟨fun pins s σ H Q I q => q.elim (h.run pins s σ H Q I) (h'.run pins s σ H Q I)⟩
theorem RpAll.atI {K : PySem.W.Frag} {F : Hp} {os : List Addr} {vs : List V} {ds : List D} (r : RpAll K F os vs ds) {i : Int} {d : D} (h : ((ixD ds.length i).bind fun k => ds[k]?) = some d) : ∃ v, L2.atI vs i = some v ∧ Rp K F os v d := by
  unfold L2.atI
  rw [r.length, ixN_eq]
  cases e : ixD ds.length i with
  | none => rw [e] at h; cases h
  | some k =>
    rw [e] at h
    exact r.get h
theorem v_ix : V2 G .v (rIx G.K) (fun x y => match x with | .dict _ => none | _ => idxD x y) := by
  intro F H zs st x y dx dy d Q s S hx hy hg k
  cases dx <;> cases dy <;> first | (cases hg; done) | skip
  · -- text
    rename_i l i
    simp only [idxD] at hg
    obtain ⟨z, rfl, ez, oz⟩ := hx.str
    cases e : (ixD l.length i).bind fun k => l[k]? with
    | none => rw [e] at hg; cases hg
    | some c =>
      rw [e] at hg; cases hg
      refine .inr (.inr ⟨z, i, c, rfl, hy.int, by rw [len_str, ez, szl]; exact oz.1, ?_, ?_⟩)
      · rw [ez]; exact e
      · refine k _ H F (Grw.refl s) (.str rfl ⟨by show 1 ≤ SZ; decide, fun y hy' => ?_⟩)
        have : y = c := by simpa using hy'
        subst this
        cases e2 : ixD l.length i with
        | none => rw [e2] at e; cases e
        | some j => rw [e2] at e; exact oz.2 _ (List.mem_of_getElem? e)
  · rename_i ds i
    obtain ⟨a, vs, rfl, q, r, _⟩ := hx.list s
    obtain ⟨v, h1, h2⟩ := r.atI hg
    exact .inl ⟨a, vs, i, v, rfl, hy.int, .of q, h1, k _ H F (Grw.refl s) h2⟩
  · rename_i ds i
    obtain ⟨a, vs, rfl, q, r, _⟩ := hx.tup
    obtain ⟨v, h1, h2⟩ := r.atI hg
    exact .inr (.inl ⟨a, vs, i, v, rfl, hy.int, same_seqT s q, h1, k _ H F (Grw.refl s) h2⟩)
  · rename_i ds i
    obtain ⟨a, vs, rfl, q, r, _⟩ := hx.ro
    obtain ⟨v, h1, h2⟩ := r.atI hg
    exact .inl ⟨a, vs, i, v, rfl, hy.int, s.seq q, h1, k _ H F (Grw.refl s) h2⟩
def rDItem : R2 := fun x y H Q => ∃ a v, x = .ref a ∧ DGet H a y (some v) ∧ Q v H
theorem v_dix : V2 G .v rDItem (fun x y => match x with | .dict _ => idxD x y | _ => none) := by
  intro F H zs st x y dx dy d Q s S hx hy hg k
  cases dx <;> cases dy <;> first | (cases hg; done) | skip
  rename_i kvs l
  simp only [idxD] at hg
  obtain ⟨a, kv, rfl, hH, r, _⟩ := hx.dict s
  obtain ⟨z, rfl, ez, _⟩ := hy.str
  rcases r.look ez with ⟨h1, h2⟩ | ⟨d', v', h1, h2, h3⟩
  · rw [h1] at hg; cases hg
  · rw [h1] at hg; cases hg
    refine ⟨a, v', rfl, ?_, k _ H F (Grw.refl s) h3⟩
    rw [← h2]; exact DGet.k (k := .inr z) hH
theorem c_subscr (hK : X.K = G.K) (hu : X.A.units + 65 < cLine) (ha : PE X a (TEk G E N O .b ma)) (hb : PE X b (TEk G E N O .b mb)) (hs : PlainIx b := by exact fun _ _ => rfl) : PE X (.Subscript a b pos) (TEk G E N O .v (e2 idxD ma mb)) := by
  have h1 : PE X (.Subscript a b pos) (tOp (rIx G.K) (TEk G E N O .b ma) (TEk G E N O .b mb)) := by rw [← hK]; exact pe_ix ix_seq ha hb hs
  have h2 : PE X (.Subscript a b pos) (tOp rDItem (TEk G E N O .b ma) (TEk G E N O .b mb)) := pe_dget (by omega) ha hb hs
  refine PE.imp (PE.or h1 h2) fun σ H Q ⟨env, st, F, zs, rel, p⟩ => ?_
  -- which of the two: by the first part's value
  cases e1 : ma env st with
  | ok d st1 =>
    by_cases hd : ∃ kvs, d = .dict kvs
    · obtain ⟨kvs, rfl⟩ := hd
      refine .inr (te_e2 v_dix ⟨env, st, F, zs, rel, ?_⟩)
      have e : e2 (fun x y => match x with | .dict _ => idxD x y | _ => none) ma mb env st = e2 idxD ma mb env st := by simp only [e2, e1, R.bind_ok]
      rw [e]; exact p
    · refine .inl (te_e2 v_ix ⟨env, st, F, zs, rel, ?_⟩)
      have e : e2 (fun x y => match x with | .dict _ => none | _ => idxD x y) ma mb env st = e2 idxD ma mb env st := by
        simp only [e2, e1, R.bind_ok]
        cases d <;> first | rfl | exact absurd ⟨_, rfl⟩ hd
      rw [e]; exact p
  | exc c st1 =>
    refine .inl (te_e2 v_ix ⟨env, st, F, zs, rel, ?_⟩)
    simp only [e2, e1, R.bind_exc] at p ⊢; exact p
  | bad =>
    simp only [e2, e1, R.bind_bad] at p; exact p.elim

/-! ### slices -/
def PostO (G : Gc) (E : XK) (F H : Hp) (zs : List (Addr × Addr)) (r : R (Option Int)) (Q : Option Int → Hp → Prop) : Prop := match r with
  | .ok o st' => ∀ H' F' zs', Ext F H zs F' H' zs' → StoRel G F' H' zs' st' → Q o H'
  | .exc c st' => ∀ H' F' zs', Ext F H zs F' H' zs' → StoRel G F' H' zs' st' → E (G.ex c) none H'
  | .bad => False
def TOk (G : Gc) (E : XK) (N : En) (O : List Nat) (m : MO) : TO := fun σ H Q => ∃ env st F zs, Rel G N O σ H env st F zs ∧ PostO G E F H zs (m env st) Q
theorem PO.imp {e : Option Expr} {t t' : TO} (h : PO X e t) (w : ∀ σ H Q, t' σ H Q → t σ H Q) : PO X e t' := ⟨fun pins s σ H Q I q => h.run pins s σ H Q I (w σ H Q q)⟩
theorem o_none : PO X none (TOk G E N O oNone) := PO.imp po_none fun σ H Q ⟨env, st, F, zs, r, p⟩ => p H F zs (Ext.refl r.sub) r.sto
theorem o_some (h : PE X e (TEk G E N O .v m)) : PO X (some e) (TOk G E N O (oSome m)) := by
  refine PO.imp (po_some h) fun σ H Q ⟨env, st, F, zs, r, p⟩ => ⟨env, st, F, zs, r, ?_⟩
  have p : PostO G E F H zs ((m env st).bind fun x st => match x with | .int i => .ok (some i) st | _ => .bad) Q := p
  cases e1 : m env st with
  | bad => rw [e1] at p; exact p
  | exc c st1 => rw [e1] at p; exact p
  | ok d st1 =>
    rw [e1] at p
    intro v H1 F1 zs1 x1 S1 q1
    cases d with
    | int i => cases q1; exact ⟨i, rfl, p H1 F1 zs1 x1 S1⟩
    | _ => exact p.elim
theorem PostO.back {F H F2 H2 : Hp} {zs zs2 : List (Addr × Addr)} {r : R (Option Int)} {Q : Option Int → Hp → Prop} (x : Ext F H zs F2 H2 zs2) (h : PostO G E F H zs r Q) : PostO G E F2 H2 zs2 r Q := by
  cases r with
  | ok d st => exact fun H' F' zs' y S => h H' F' zs' (x.trans y) S
  | exc c st => exact fun H' F' zs' y S => h H' F' zs' (x.trans y) S
  | bad => exact h
theorem RpAll.cut {K : PySem.W.Frag} {F : Hp} {os : List Addr} {vs : List V} {ds : List D} (r : RpAll K F os vs ds) (lo hi : Option Int) : RpAll K F os (cutV vs lo hi) (cutD ds lo hi) := by
  unfold cutV cutD
  rw [r.length]
  exact (r.drop _).take _
theorem cutD_len {α : Type} (xs : List α) (lo hi : Option Int) : (cutD xs lo hi).length ≤ xs.length := by
  unfold cutD
  rw [List.length_take, List.length_drop]; omega
theorem cutD_sub {α : Type} (xs : List α) (lo hi : Option Int) : (cutD xs lo hi).Sublist xs := (List.take_sublist _ _).trans (List.drop_sublist _ _)
/-- which kind: k true, a new list of one's own -/
def rSlAll (K : PySem.W.Frag) : V → Option Int → Option Int → Hp → VK → Prop := fun x lo hi H Q => rSlL K x lo hi H Q ∨ (rSlA K x lo hi H Q ∨ rSlS x lo hi H Q)
theorem sl_v {F H : Hp} {zs : List (Addr × Addr)} {st : Sto} {x : V} {dx d : D} {lo hi : Option Int} {Q : VK} (s : Same F H) (S : StoRel G F H zs st) (hx : Sh G.K F H zs x dx) (hg : sliceD dx lo hi = some d) (k : ∀ v H' F', Grw F H F' H' → Res G.K .v H F' H' zs v d → Q v H') : rSlAll G.K x lo hi H Q := by
  cases dx <;> first | (cases hg; done) | skip
  · cases hg
    obtain ⟨z, rfl, ez, oz⟩ := hx.str
    refine .inr (.inr ⟨z, rfl, by rw [len_str, ez, szl]; exact oz.1, k _ H F (Grw.refl s) (.str ?_ (strOk_sub oz (cutD_sub _ _ _)))⟩)
    unfold cutS cutD
    rw [len_str, ez]
    rfl
  · cases hg
    obtain ⟨a, vs, rfl, q, r, hz⟩ := hx.list s
    exact .inl ⟨a, vs, rfl, .of q, fun q' hq => k_newLst s S (k_ov k) (r.cut lo hi) (Nat.le_trans (cutD_len _ _ _) hz) hq⟩
  · cases hg
    obtain ⟨a, vs, rfl, q, r, hz⟩ := hx.tup
    refine .inr (.inl ⟨a, vs, rfl, same_seqT s q, fun hw => ?_, fun _ q' hq => k_newTup s k (r.cut lo hi) (Nat.le_trans (cutD_len _ _ _) hz) hq⟩)
    refine k _ H F (Grw.refl s) ?_
    rename_i ds
    have ew : cutD ds lo hi = ds := by
      rw [r.length] at hw
      unfold cutD
      rw [show sIxD ds.length 0 lo = 0 from hw.1, show sIxD ds.length ds.length hi = ds.length from hw.2]
      simp
    rw [ew]
    exact .tup q r hz
theorem c_slice {lo hi : Option Expr} {ml mh : MO} {p2 : Pos} (hK : X.K = G.K) (he : PE X e (TEk G E N O .b m)) (hl : PO X lo (TOk G E N O ml)) (hh : PO X hi (TOk G E N O mh)) : PE X (.Subscript e (.Slice lo hi none p2) pos) (TEk G E N O .v (eSlice m ml mh)) := by
  have hr : SlR X (rSlAll G.K) := by rw [← hK]; exact SlR.or sl_list (SlR.or sl_tupA sl_str)
  refine PE.imp (pe_slice hr he hl hh) fun σ H Q ⟨env, st, F, zs, rel, p⟩ => ?_
  refine TEk.bind (PX := fun F H zs r => Post G E .v F H zs r Q) rel rfl (fun x h => h.back x) post_exc (fun h => h) p fun d st1 v H1 F1 zs1 _ _ rel1 q1 p1 => ?_
  refine ⟨env, st1, F1, zs1, rel1, ?_⟩
  have p1 : Post G E .v F1 H1 zs1 ((ml env st1).bind fun l st => (mh env st).bind fun h st => ofOpt (sliceD d l h) st) Q := p1
  cases e1 : ml env st1 with
  | bad => rw [e1] at p1; exact p1
  | exc c st2 => rw [e1] at p1; exact p1
  | ok l st2 =>
    rw [e1] at p1
    intro H2 F2 zs2 x2 S2
    refine ⟨env, st2, F2, zs2, rel1.step x2 S2, ?_⟩
    have p2 : Post G E .v F2 H2 zs2 ((mh env st2).bind fun h st => ofOpt (sliceD d l h) st) Q := p1.back x2
    cases e2 : mh env st2 with
    | bad => rw [e2] at p2; exact p2
    | exc c st3 => rw [e2] at p2; exact p2
    | ok h st3 =>
      rw [e2] at p2
      intro H3 F3 zs3 x3 S3
      obtain ⟨d', e3, k⟩ := post_ofOpt S3 (p2.back x3)
      exact sl_v x3.sub S3 (Sh.ext (Sh.ext q1 x2) x3) e3 k
end
end Dn

/-! Dn8: built-in functions and methods; changes of own objects. -/
namespace Dn
open PySem PySem.Spec PyProof.Rows L2
section
variable {G : Gc} {E : XK} {N : En} {O : List Nat} {X : Cx} {e a b c f : Expr} {es : List Expr} {m ma mb mc : ME} {kd : Kd} {pos p : Pos} {x : Str}

theorem sh1 {K : PySem.W.Frag} {F H : Hp} {zs : List (Addr × Addr)} {xs : List V} {d : D} (h : Paired (Sh K F H zs) xs [d]) : ∃ x, xs = [x] ∧ Sh K F H zs x d := by
  cases h with
  | cons h t => cases t; exact ⟨_, rfl, h⟩
theorem sh2 {K : PySem.W.Frag} {F H : Hp} {zs : List (Addr × Addr)} {xs : List V} {d d' : D} (h : Paired (Sh K F H zs) xs [d, d']) : ∃ x y, xs = [x, y] ∧ Sh K F H zs x d ∧ Sh K F H zs y d' := by
  cases h with
  | cons h t => obtain ⟨y, rfl, h2⟩ := sh1 t; exact ⟨_, _, rfl, h, h2⟩

/-! ### len -/
def rLenA (K : PySem.W.Frag) : List V → Hp → VK → Prop := fun xs H Q => (∃ x n, xs = [x] ∧ LenV K x H n ∧ Q (.int n) H) ∨ (∃ a kvs, xs = [V.ref a] ∧ H a = some (.dK kvs) ∧ Q (.int kvs.length) H)
theorem v_len : VA G .v (rLenA G.K) lenD := by
  intro F H zs st xs ds d Q s S hx hg k
  match ds, hx, hg with
  | [.list ys], hx, hg =>
    cases hg
    obtain ⟨x, rfl, h⟩ := sh1 hx
    obtain ⟨a, vs, rfl, q, r, _⟩ := h.list s
    exact .inl ⟨_, _, rfl, .inl ⟨vs, .of q, rfl⟩, by rw [r.length]; exact k _ H F (Grw.refl s) (.int _)⟩
  | [.tup ys], hx, hg =>
    cases hg
    obtain ⟨x, rfl, h⟩ := sh1 hx
    obtain ⟨a, vs, rfl, q, r, _⟩ := h.tup
    exact .inl ⟨_, _, rfl, .inr ⟨vs, same_seqT s q, rfl⟩, by rw [r.length]; exact k _ H F (Grw.refl s) (.int _)⟩
  | [.ro ys], hx, hg =>
    cases hg
    obtain ⟨x, rfl, h⟩ := sh1 hx
    obtain ⟨a, vs, rfl, q, r, _⟩ := h.ro
    exact .inl ⟨_, _, rfl, .inl ⟨vs, s.seq q, rfl⟩, by rw [r.length]; exact k _ H F (Grw.refl s) (.int _)⟩
  | [.str l], hx, hg =>
    cases hg
    obtain ⟨x, rfl, h⟩ := sh1 hx
    obtain ⟨z, rfl, ez, oz⟩ := h.str
    exact .inl ⟨_, _, rfl, ⟨by rw [len_str, ez, szl]; exact oz.1, rfl⟩, by rw [len_str, ez]; exact k _ H F (Grw.refl s) (.int _)⟩
  | [.dict kvs], hx, hg =>
    cases hg
    obtain ⟨x, rfl, h⟩ := sh1 hx
    obtain ⟨a, kv, rfl, q, r, _⟩ := h.dict s
    exact .inr ⟨_, _, rfl, q, by rw [r.length]; exact k _ H F (Grw.refl s) (.int _)⟩
theorem r_len (hK : X.K = G.K) : CallR X (.builtin "len") (rLenA G.K) := by
  rw [← hK]; exact CallR.or call_len call_lenD
theorem c_len (hK : X.K = G.K) (hg : Gl X "len") (hm : X.mg "len" = none) (ha : PE X a (TEk G E N O .b ma)) (h1 : starEach [a] X.env = (false, eval a X.env) :: starEach [] X.env := by rfl) : PE X (.Call (.Name "len" p) [a] [] pos) (TEk G E N O .v (eA lenD (aCons ma aNil))) :=
  c_blt (r_len hK) v_len hg hm PySem.boot_len (c_acons ha c_anil (hs := h1)) (he := h1) (hpl := by rfl)

/-! ### all, sum -/
theorem bools_of : ∀ {xs : List D} {bs : List Bool}, boolsD xs = some bs → xs = bs.map D.bool
  | [], _, h => by cases h; rfl
  | .bool b :: r, bs, h => by
    simp only [boolsD] at h
    cases e : boolsD r with
    | none => rw [e] at h; cases h
    | some cs => rw [e] at h; cases h; rw [bools_of e]; rfl
theorem ints_of : ∀ {xs : List D} {bs : List Int}, intsD xs = some bs → xs = bs.map D.int
  | [], _, h => by cases h; rfl
  | .int b :: r, bs, h => by
    simp only [intsD] at h
    cases e : intsD r with
    | none => rw [e] at h; cases h
    | some cs => rw [e] at h; cases h; rw [ints_of e]; rfl
theorem strs_of : ∀ {xs : List D} {bs : List (List Nat)}, strsD xs = some bs → xs = bs.map D.str
  | [], _, h => by cases h; rfl
  | .str b :: r, bs, h => by
    simp only [strsD] at h
    cases e : strsD r with
    | none => rw [e] at h; cases h
    | some cs => rw [e] at h; cases h; rw [strs_of e]; rfl
theorem v_all : VA G .v (rAll G.K) allD := by
  intro F H zs st xs ds d Q s S hx hg k
  match ds, hx, hg with
  | [.list ys], hx, hg =>
    obtain ⟨x, rfl, h⟩ := sh1 hx
    obtain ⟨a, vs, rfl, q, r, _⟩ := h.list s
    simp only [allD] at hg
    cases e : boolsD ys with
    | none => rw [e] at hg; cases hg
    | some bs =>
      rw [e] at hg; cases hg
      have ey := bools_of e
      subst ey
      have ev := r.ofBools
      subst ev
      exact ⟨a, bs, rfl, .of q, k _ H F (Grw.refl s) (.bl _)⟩
theorem c_all (hK : X.K = G.K) (hc : X.calm = true) (hg : Gl X "all") (hm : X.mg "all" = none) (ha : PE X a (TEk G E N O .b ma)) (h1 : starEach [a] X.env = (false, eval a X.env) :: starEach [] X.env := by rfl) : PE X (.Call (.Name "all" p) [a] [] pos) (TEk G E N O .v (eA allD (aCons ma aNil))) :=
  c_blt (r := rAll G.K) (by rw [← hK]; exact cr_all hc) v_all hg hm (by decide +kernel) (c_acons ha c_anil (hs := h1)) (he := h1) (hpl := by rfl)
theorem v_sum : VA G .v (rSum G.K) sumD := by
  intro F H zs st xs ds d Q s S hx hg k
  match ds, hx, hg with
  | [.list ys], hx, hg =>
    obtain ⟨x, rfl, h⟩ := sh1 hx
    obtain ⟨a, vs, rfl, q, r, _⟩ := h.list s
    simp only [sumD] at hg
    cases e : intsD ys with
    | none => rw [e] at hg; cases hg
    | some bs =>
      rw [e] at hg; cases hg
      have ey := ints_of e
      subst ey
      have ev := r.ofInts
      subst ev
      exact ⟨a, bs, rfl, .of q, k _ H F (Grw.refl s) (.int _)⟩
theorem c_sum (hK : X.K = G.K) (hc : X.calm = true) (hg : Gl X "sum") (hm : X.mg "sum" = none) (ha : PE X a (TEk G E N O .b ma)) (h1 : starEach [a] X.env = (false, eval a X.env) :: starEach [] X.env := by rfl) : PE X (.Call (.Name "sum" p) [a] [] pos) (TEk G E N O .v (eA sumD (aCons ma aNil))) :=
  c_blt (r := rSum G.K) (by rw [← hK]; exact cr_sum hc) v_sum hg hm (by decide +kernel) (c_acons ha c_anil (hs := h1)) (he := h1) (hpl := by rfl)

/-! ### tuple, list, str, int, max, min -/
theorem v_tuple : VA G .v (fun xs H Q => ∃ p ys, xs = [.ref p] ∧ ((SqL G.K H p ys ∧ ∀ l, H l = none → Q (.ref l) (upd H l (.tup ys))) ∨ (SqT G.K H p ys ∧ Q (.ref p) H))) tupleD := by
  intro F H zs st xs ds d Q s S hx hg k
  match ds, hx, hg with
  | [.list ys], hx, hg =>
    cases hg
    obtain ⟨x, rfl, h⟩ := sh1 hx
    obtain ⟨a, vs, rfl, q, r, hz⟩ := h.list s
    exact ⟨a, vs, rfl, .inl ⟨.of q, fun l hl => k_newTup s k r hz hl⟩⟩
  | [.tup ys], hx, hg =>
    cases hg
    obtain ⟨x, rfl, h⟩ := sh1 hx
    obtain ⟨a, vs, rfl, q, r, hz⟩ := h.tup
    exact ⟨a, vs, rfl, .inr ⟨same_seqT s q, k _ H F (Grw.refl s) (.tup q r hz)⟩⟩
theorem c_tuple (hK : X.K = G.K) (hg : Gl X "tuple") (hm : X.mg "tuple" = none) (ha : PE X a (TEk G E N O .b ma)) (h1 : starEach [a] X.env = (false, eval a X.env) :: starEach [] X.env := by rfl) : PE X (.Call (.Name "tuple" p) [a] [] pos) (TEk G E N O .v (eA tupleD (aCons ma aNil))) :=
  c_typ (T := "tuple") (r := fun xs H Q => ∃ p ys, xs = [.ref p] ∧ ((SqL G.K H p ys ∧ ∀ l, H l = none → Q (.ref l) (upd H l (.tup ys))) ∨ (SqT G.K H p ys ∧ Q (.ref p) H))) (by rw [← hK]; exact call_tuple_of) v_tuple hg hm (by decide +kernel) (c_acons ha c_anil (hs := h1)) (he := h1) (hpl := by rfl)
theorem v_list : VA G .o (fun xs H Q => ∃ p ys, xs = [.ref p] ∧ (SqL G.K H p ys ∨ SqT G.K H p ys) ∧ ∀ l, H l = none → Q (.ref l) (upd H l (.lst ys))) listD := by
  intro F H zs st xs ds d Q s S hx hg k
  match ds, hx, hg with
  | [.list ys], hx, hg =>
    cases hg
    obtain ⟨x, rfl, h⟩ := sh1 hx
    obtain ⟨a, vs, rfl, q, r, hz⟩ := h.list s
    exact ⟨a, vs, rfl, .inl (.of q), fun l hl => k_newLst s S k r hz hl⟩
  | [.tup ys], hx, hg =>
    cases hg
    obtain ⟨x, rfl, h⟩ := sh1 hx
    obtain ⟨a, vs, rfl, q, r, hz⟩ := h.tup
    exact ⟨a, vs, rfl, .inr (same_seqT s q), fun l hl => k_newLst s S k r hz hl⟩
theorem c_list (hK : X.K = G.K) (hg : Gl X "list") (hm : X.mg "list" = none) (ha : PE X a (TEk G E N O .b ma)) (h1 : starEach [a] X.env = (false, eval a X.env) :: starEach [] X.env := by rfl) : PE X (.Call (.Name "list" p) [a] [] pos) (TEk G E N O .o (eA listD (aCons ma aNil))) :=
  c_typ (T := "list") (r := fun xs H Q => ∃ p ys, xs = [.ref p] ∧ (SqL G.K H p ys ∨ SqT G.K H p ys) ∧ ∀ l, H l = none → Q (.ref l) (upd H l (.lst ys))) (by rw [← hK]; exact call_list_of) v_list hg hm (by decide +kernel) (c_acons ha c_anil (hs := h1)) (he := h1) (hpl := by rfl)
theorem log2_lt {n : Nat} (h : n < 1000000000000) : n.log2 < 1920 := by
  by_cases h0 : n = 0
  · subst h0; decide
  · exact Nat.lt_trans ((Nat.log2_lt h0).mpr (Nat.lt_of_lt_of_le h (show 1000000000000 ≤ 2 ^ 40 by decide))) (by decide)
theorem digits_small (n : Nat) : ∀ c ∈ numC n, 48 ≤ c ∧ c ≤ 57 := TL.numL_digits n
theorem numC_len {n : Nat} (h : n < 1000000000000) : (numC n).length ≤ 12 := TL.numL_len (k := 12) (by decide) (by simpa using h)
theorem v_str : VA G .v (fun xs H Q => ∃ i, xs = [.int i] ∧ i.natAbs.log2 < 1920 ∧ Q (.str (PySem.Str.ofString (toString i))) H) strD := by
  intro F H zs st xs ds d Q s S hx hg k
  match ds, hx, hg with
  | [.int n], hx, hg =>
    obtain ⟨x, rfl, h⟩ := sh1 hx
    have hg : (if 0 ≤ n ∧ n < 1000000000000 then some (D.str (numC n.toNat)) else none) = some d := hg
    split at hg
    · rename_i hn
      cases hg
      have en : n = ((n.toNat : Nat) : Int) := by omega
      have hl : n.toNat < 1000000000000 := by omega
      refine ⟨n, by rw [h.int], log2_lt (by omega), k _ H F (Grw.refl s) (.str ?_ ⟨Nat.le_trans (numC_len hl) (by decide), fun c hc => Nat.lt_of_le_of_lt (digits_small _ c hc).2 (by decide)⟩)⟩
      have := TL.tl_num n.toNat
      rw [← en] at this
      exact this
    · cases hg
theorem c_strI (hg : Gl X "str") (hm : X.mg "str" = none) (ha : PE X a (TEk G E N O .b ma)) (h1 : starEach [a] X.env = (false, eval a X.env) :: starEach [] X.env := by rfl) : PE X (.Call (.Name "str" p) [a] [] pos) (TEk G E N O .v (eA strD (aCons ma aNil))) :=
  c_typ (T := "str") call_str_int v_str hg hm (by decide +kernel) (c_acons ha c_anil (hs := h1)) (he := h1) (hpl := by rfl)
def rIntA : List V → Hp → VK → Prop := fun xs H Q => ((∃ i, xs = [.int i] ∧ Q (.int i) H) ∨ ∃ k, xs = [.bl k] ∧ Q (.int (if k then 1 else 0)) H) ∨ (∃ a n, xs = [.str a] ∧ PySem.intText? a = some n ∧ a.length ≤ 640 ∧ Q (.int n) H)
theorem v_int : VA G .v rIntA intD := by
  intro F H zs st xs ds d Q s S hx hg k
  match ds, hx, hg with
  | [.int n], hx, hg =>
    cases hg
    obtain ⟨x, rfl, h⟩ := sh1 hx
    exact .inl (.inl ⟨n, by rw [h.int], k _ H F (Grw.refl s) (.int _)⟩)
  | [.bool n], hx, hg =>
    cases hg
    obtain ⟨x, rfl, h⟩ := sh1 hx
    exact .inl (.inr ⟨n, by rw [h.bool], k _ H F (Grw.refl s) (.int _)⟩)
  | [.str l], hx, hg =>
    obtain ⟨x, rfl, h⟩ := sh1 hx
    obtain ⟨z, rfl, ez, oz⟩ := h.str
    have hg : (if digB l && decide (l ≠ []) && decide (l.length ≤ 600) then some (D.int (digVal l)) else none) = some d := hg
    split at hg
    · rename_i hc
      cases hg
      simp only [Bool.and_eq_true, decide_eq_true_eq] at hc
      obtain ⟨⟨h1, h2⟩, h3⟩ := hc
      have hd : NumText.AllDigits z.cps.toList := fun c hc => by
        rw [ez] at hc
        have := List.all_eq_true.mp h1 c hc
        simpa using this
      refine .inr ⟨z, _, rfl, PySem.intText_digits hd (by rw [ez]; exact h2) (by rw [len_str, ez]; omega), by rw [len_str, ez]; omega, ?_⟩
      rw [ez]
      exact k _ H F (Grw.refl s) (.int _)
    · cases hg
theorem c_int1 (hg : Gl X "int") (hm : X.mg "int" = none) (ha : PE X a (TEk G E N O .b ma)) (h1 : starEach [a] X.env = (false, eval a X.env) :: starEach [] X.env := by rfl) : PE X (.Call (.Name "int" p) [a] [] pos) (TEk G E N O .v (eA intD (aCons ma aNil))) :=
  c_typ (T := "int") (CallR.or call_int1 call_int_str) v_int hg hm (by decide +kernel) (c_acons ha c_anil (hs := h1)) (he := h1) (hpl := by rfl)
theorem v_max : VA G .v (fun xs H Q => ∃ i j, xs = [.int i, .int j] ∧ Q (.int (if j > i then j else i)) H) maxD2 := by
  intro F H zs st xs ds d Q s S hx hg k
  match ds, hx, hg with
  | [.int i, .int j], hx, hg =>
    cases hg
    obtain ⟨x, y, rfl, h1, h2⟩ := sh2 hx
    exact ⟨i, j, by rw [h1.int, h2.int], k _ H F (Grw.refl s) (.int _)⟩
theorem v_min : VA G .v (fun xs H Q => ∃ i j, xs = [.int i, .int j] ∧ Q (.int (if j < i then j else i)) H) minD2 := by
  intro F H zs st xs ds d Q s S hx hg k
  match ds, hx, hg with
  | [.int i, .int j], hx, hg =>
    cases hg
    obtain ⟨x, y, rfl, h1, h2⟩ := sh2 hx
    exact ⟨i, j, by rw [h1.int, h2.int], k _ H F (Grw.refl s) (.int _)⟩
theorem c_max2 (hc : X.calm = true) (hg : Gl X "max") (hm : X.mg "max" = none) {ms : MA} (ha : PA X [a, b] (TAk G E N O .b ms)) (h1 : starEach [a, b] X.env = (false, eval a X.env) :: starEach [b] X.env := by rfl) (h2 : (backTo pos (starEach [b] X.env)).any (·.1) = false := by rfl) : PE X (.Call (.Name "max" p) [a, b] [] pos) (TEk G E N O .v (eA maxD2 ms)) :=
  c_blt (call_max2 hc) v_max hg hm (by decide +kernel) ha (he := h1) (hpl := h2)
theorem c_min2 (hc : X.calm = true) (hg : Gl X "min") (hm : X.mg "min" = none) {ms : MA} (ha : PA X [a, b] (TAk G E N O .b ms)) (h1 : starEach [a, b] X.env = (false, eval a X.env) :: starEach [b] X.env := by rfl) (h2 : (backTo pos (starEach [b] X.env)).any (·.1) = false := by rfl) : PE X (.Call (.Name "min" p) [a, b] [] pos) (TEk G E N O .v (eA minD2 ms)) :=
  c_blt (call_min2 hc) v_min hg hm (by decide +kernel) ha (he := h1) (hpl := h2)

/-! ### isinstance of a built-in class -/
def tyN : D → String
  | .non => "NoneType"
  | .bool _ => "bool"
  | .int _ => "int"
  | .str _ => "str"
  | .list _ => "list"
  | _ => "tuple"
theorem ty_of {K : PySem.W.Frag} {F H : Hp} {zs : List (Addr × Addr)} {v : V} {d : D} (s : Same F H) (h : Sh K F H zs v d) (hd : ∀ k, d ≠ .dict k) (ho : ∀ k, d ≠ .obj k) (hr : ∀ k, d ≠ .ro k) :
    ∃ t, TyX K H v (.type t) ∧ t = tyN d := by
  cases d with
  | non => rw [h.non]; exact ⟨_, .base .non, rfl⟩
  | bool b => rw [h.bool]; exact ⟨_, .base (.bl b), rfl⟩
  | int b => rw [h.int]; exact ⟨_, .base (.int b), rfl⟩
  | str b => obtain ⟨z, rfl, _⟩ := h.str; exact ⟨_, .base (.str z), rfl⟩
  | list b => obtain ⟨a, vs, rfl, q, _⟩ := h.list s; exact ⟨_, .base (.lst q), rfl⟩
  | tup b =>
    obtain ⟨a, vs, rfl, q, _⟩ := h.tup
    rcases same_seqT s q with (q | ⟨o, q⟩) | ⟨o, its, n, q1, q2, _⟩
    · exact ⟨_, .base (.tup q), rfl⟩
    · exact ⟨_, .fTuple q, rfl⟩
    · exact ⟨_, .kTuple q1 q2, rfl⟩
  | ro b => exact absurd rfl (hr b)
  | dict b => exact absurd rfl (hd b)
  | obj b => exact absurd rfl (ho b)
theorem c_inst {T : String} {tx : Str} {pr : D → Bool} {p2 : Pos} (hK : X.K = G.K) (hg : Gl X "isinstance") (hm : X.mg "isinstance" = none) (hgT : Gl X tx) (hmT : X.mg tx = none) (hbT : bootBuiltins tx = some (.type T)) (ha : PE X a (TEk G E N O .b ma))
    (hp : ∀ d b, instD pr d = some (.bool b) → ∀ t, t = tyN d → kitB t T = some b) (hnT : tx ≠ "__name__" := by decide) (hdT : (tx == ("__debug__" : Str)) = false := by decide)
    (h1 : starEach [a, .Name tx p2] X.env = (false, eval a X.env) :: starEach [.Name tx p2] X.env := by rfl) (h2 : (backTo pos (starEach [.Name tx p2] X.env)).any (·.1) = false := by rfl) (h3 : starEach [.Name tx p2] X.env = (false, eval (.Name tx p2) X.env) :: starEach [] X.env := by rfl) :
    PE X (.Call (.Name "isinstance" p) [a, .Name tx p2] [] pos) (TEk G E N O .v (e1 (instD pr) ma)) := by
  refine PE.imp (pe_callB (call_isi (X := X)) hg hm (by decide +kernel) (pa_cons ha (pa_cons (pe_bltn (v := .ty T) hgT hmT hbT rfl hnT hdT) pa_nil h3) h1) (he := h1) (hpl := h2)) fun σ H Q ⟨env, st, F, zs, rel, p⟩ => ?_
  refine TEk.bind (PX := fun F H zs r => Post G E .v F H zs r Q) rel rfl (fun x h => h.back x) post_exc (fun h => h) p fun d st1 v H1 F1 zs1 _ _ rel1 q1 p1 => ?_
  obtain ⟨d3, e3, k⟩ := post_ofOpt rel1.sto p1
  have hb : ∃ b, d3 = .bool b ∧ (∀ k, d ≠ .dict k) ∧ (∀ k, d ≠ .obj k) ∧ (∀ k, d ≠ .ro k) := by
    cases d <;> first | (cases e3; done) | (cases e3; exact ⟨_, rfl, (fun _ z => by cases z), (fun _ z => by cases z), fun _ z => by cases z⟩)
  obtain ⟨b, rfl, n1, n2, n3⟩ := hb
  obtain ⟨t, ht, et⟩ := ty_of rel1.sub q1 n1 n2 n3
  refine ⟨v, .ty T, .type t, .type T, b, rfl, .ty T, by rw [hK]; exact ht, kit_ty (hp d b e3 t et), ?_⟩
  exact k _ H1 F1 (Grw.refl rel1.sub) (.bl b)
theorem i_str : ∀ d b, instD isStrD d = some (.bool b) → ∀ t, t = tyN d → kitB t "str" = some b := by
  intro d b e t et
  subst et
  have h0 : kitB "NoneType" "str" = some false := by decide +kernel
  have h1 : kitB "bool" "str" = some false := by decide +kernel
  have h2 : kitB "int" "str" = some false := by decide +kernel
  have h3 : kitB "str" "str" = some true := by decide +kernel
  have h4 : kitB "list" "str" = some false := by decide +kernel
  have h5 : kitB "tuple" "str" = some false := by decide +kernel
  cases d <;> first | (cases e; done) | (cases e; first | exact h0 | exact h1 | exact h2 | exact h3 | exact h4 | exact h5)
theorem i_int : ∀ d b, instD isIntD d = some (.bool b) → ∀ t, t = tyN d → kitB t "int" = some b := by
  intro d b e t et
  subst et
  have h0 : kitB "NoneType" "int" = some false := by decide +kernel
  have h1 : kitB "bool" "int" = some true := by decide +kernel
  have h2 : kitB "int" "int" = some true := by decide +kernel
  have h3 : kitB "str" "int" = some false := by decide +kernel
  have h4 : kitB "list" "int" = some false := by decide +kernel
  have h5 : kitB "tuple" "int" = some false := by decide +kernel
  cases d <;> first | (cases e; done) | (cases e; first | exact h0 | exact h1 | exact h2 | exact h3 | exact h4 | exact h5)
theorem i_bool : ∀ d b, instD isBoolD d = some (.bool b) → ∀ t, t = tyN d → kitB t "bool" = some b := by
  intro d b e t et
  subst et
  have h0 : kitB "NoneType" "bool" = some false := by decide +kernel
  have h1 : kitB "bool" "bool" = some true := by decide +kernel
  have h2 : kitB "int" "bool" = some false := by decide +kernel
  have h3 : kitB "str" "bool" = some false := by decide +kernel
  have h4 : kitB "list" "bool" = some false := by decide +kernel
  have h5 : kitB "tuple" "bool" = some false := by decide +kernel
  cases d <;> first | (cases e; done) | (cases e; first | exact h0 | exact h1 | exact h2 | exact h3 | exact h4 | exact h5)
theorem i_tup : ∀ d b, instD isTupD d = some (.bool b) → ∀ t, t = tyN d → kitB t "tuple" = some b := by
  intro d b e t et
  subst et
  have h0 : kitB "NoneType" "tuple" = some false := by decide +kernel
  have h1 : kitB "bool" "tuple" = some false := by decide +kernel
  have h2 : kitB "int" "tuple" = some false := by decide +kernel
  have h3 : kitB "str" "tuple" = some false := by decide +kernel
  have h4 : kitB "list" "tuple" = some false := by decide +kernel
  have h5 : kitB "tuple" "tuple" = some true := by decide +kernel
  cases d <;> first | (cases e; done) | (cases e; first | exact h0 | exact h1 | exact h2 | exact h3 | exact h4 | exact h5)
end
end Dn

/-! Dn9: methods of built-in types; changes of own objects; dicts. -/
namespace Dn
open PySem PySem.Spec PyProof.Rows L2
/-- a method by values -/
def VM (G : Gc) (kd : Kd) (r : V → List V → Hp → VK → Prop) (g : D → List D → Option D) : Prop :=
  ∀ (F H : Hp) (zs : List (Addr × Addr)) (st : Sto) (x : V) (xs : List V) (dx : D) (ds : List D) (d : D) (Q : VK), Same F H → StoRel G F H zs st → Sh G.K F H zs x dx → Paired (Sh G.K F H zs) xs ds → g dx ds = some d →
    (∀ v H' F', Grw F H F' H' → Res G.K kd H F' H' zs v d → Q v H') → r x xs H Q
section
variable {G : Gc} {E : XK} {N : En} {O : List Nat} {X : Cx} {e a b c f o : Expr} {es : List Expr} {m ma mb mc : ME} {ms : MA} {kd rk : Kd} {pos p apos cpos : Pos} {x : Str} {i : Nat}

theorem te_meth {T : String} {r : V → List V → Hp → VK → Prop} {ty : D → Bool} {g : D → List D → Option D} (hv : VM G kd r g) (hty : ∀ F H zs x dx, ty dx = true → Same F H → Sh G.K F H zs x dx → tyV G.K T x H) {σ : L2.St} {H : Hp} {Q : VK} (h : TEk G E N O kd (eM ty g ma ms) σ H Q) : tBM G.K T r (TEk G E N O .b ma) (TAk G E N O .b ms) σ H Q := by
  obtain ⟨env, st, F, zs, rel, p⟩ := h
  refine TEk.bind (PX := fun F H zs r => Post G E kd F H zs r Q) rel rfl (fun x h => h.back x) post_exc (fun h => h) p fun d st1 v H1 F1 zs1 _ _ rel1 q1 p1 => ?_
  have p1 : Post G E kd F1 H1 zs1 (if ty d then (ms env st1).bind fun xs st => ofOpt (g d xs) st else .bad) Q := p1
  by_cases ht : ty d = true
  · rw [if_pos ht] at p1
    refine ⟨hty F1 H1 zs1 v d ht rel1.sub q1, env, st1, F1, zs1, rel1, ?_⟩
    cases e1 : ms env st1 with
    | bad => rw [e1] at p1; exact p1
    | exc c st2 => rw [e1] at p1; exact p1
    | ok ds st2 =>
      rw [e1] at p1
      intro vs H2 F2 zs2 x2 S2 q2
      obtain ⟨d3, e3, k⟩ := post_ofOpt S2 (p1.back x2)
      exact hv F2 H2 zs2 st2 v vs d ds d3 Q x2.sub S2 (Sh.ext q1 x2) q2 e3 k
  · rw [if_neg ht] at p1; exact p1.elim
theorem ty_str : ∀ F H zs x dx, isStrD dx = true → Same F H → Sh G.K F H zs x dx → tyV G.K "str" x H := by
  intro F H zs x dx ht s h
  cases dx <;> first | (cases ht; done) | skip
  obtain ⟨z, rfl, _⟩ := h.str; rfl
theorem ty_list : ∀ F H zs x dx, isListD dx = true → Same F H → Sh G.K F H zs x dx → tyV G.K "list" x H := by
  intro F H zs x dx ht s h
  cases dx <;> first | (cases ht; done) | skip
  obtain ⟨a, vs, rfl, q, _⟩ := h.list s
  exact .inl ⟨rfl, vs, .of q⟩
/-! ### split, join -/
theorem splitC_ne (c : Nat) : ∀ l, splitC c l ≠ [] := by
  intro l
  cases l with
  | nil => simp [splitC]
  | cons x r =>
    unfold splitC
    split
    · simp
    · split <;> simp
theorem spl_splitC (c : Nat) : ∀ (l acc : List Nat), ∃ w ws, splitC c l = w :: ws ∧ TL.spl [c] 0 acc l = (acc ++ w) :: ws := by
  intro l
  induction l with
  | nil => intro acc; exact ⟨[], [], rfl, by simp [TL.spl]⟩
  | cons x r ih =>
    intro acc
    by_cases h : x = c
    · subst h
      obtain ⟨w, ws, e1, e2⟩ := ih []
      refine ⟨[], w :: ws, by simp [splitC, e1], ?_⟩
      rw [TL.spl_hit (by simp [TL.pre]), List.append_nil]
      show acc :: TL.spl [x] 0 [] r = _
      rw [e2, List.nil_append]
    · obtain ⟨w, ws, e1, e2⟩ := ih (acc ++ [x])
      refine ⟨x :: w, ws, by simp [splitC, h, e1], ?_⟩
      rw [TL.spl_miss (by simp [TL.pre, h]), e2]
      simp
theorem splitC_len (c : Nat) : ∀ l, (splitC c l).length ≤ l.length + 1 := by
  intro l
  induction l with
  | nil => simp [splitC]
  | cons x r ih =>
    unfold splitC
    split
    · simp; omega
    · split
      · rename_i w ws e; rw [e] at ih; simp at ih ⊢; omega
      · simp
theorem splitC_sub (c : Nat) : ∀ l, ∀ w ∈ splitC c l, w.Sublist l := by
  intro l
  induction l with
  | nil => intro w hw; simp [splitC] at hw; subst hw; exact List.Sublist.refl _
  | cons x r ih =>
    intro w hw
    unfold splitC at hw
    split at hw
    · rcases List.mem_cons.mp hw with rfl | hw
      · exact List.nil_sublist _
      · exact (ih w hw).cons x
    · split at hw
      · rename_i w' ws e
        rcases List.mem_cons.mp hw with rfl | hw
        · exact (ih w' (by rw [e]; exact List.mem_cons_self ..)).cons₂ x
        · exact (ih w (by rw [e]; exact List.mem_cons_of_mem _ hw)).cons x
      · rename_i e; exact absurd e (splitC_ne c r)
def rSplit : V → List V → Hp → VK → Prop := fun x xs H Q => ∃ a b, x = .str a ∧ xs = [.str b] ∧ (b.length == 0) = false ∧ a.length + 2 ≤ sizeLine ∧ rNewStrs (Txt.split a b) H Q
theorem v_split : VM G .o rSplit splitD := by
  intro F H zs st x xs dx ds d Q s S hx hxs hg k
  match dx, ds, hx, hxs, hg with
  | .str l, [.str [c]], hx, hxs, hg =>
    have hg : (if c < 256 ∧ l.length + 2 ≤ SZ then some (D.list ((splitC c l).map D.str)) else none) = some d := hg
    split at hg
    · rename_i hc
      cases hg
      obtain ⟨y, rfl, hy⟩ := sh1 hxs
      obtain ⟨z, rfl, ez, oz⟩ := hx.str
      obtain ⟨z2, rfl, ez2, oz2⟩ := hy.str
      have hk : z2.cps.all (· < 256) = true := by
        rw [mk_tl' ez2]; simpa using hc.1
      refine ⟨z, z2, rfl, rfl, by rw [len_str, ez2]; rfl, by rw [len_str, ez, szl]; exact hc.2, fun q hq => ?_⟩
      obtain ⟨w, ws, e1, e2⟩ := spl_splitC c l []
      have em : (Txt.split z z2).map (fun t => t.cps.toList) = splitC c l := by
        have := TL.split_spl z z2 (by show z2.cps.toList ≠ []; rw [ez2]; simp) (TL.kind_ok hk)
        have h2 : (Txt.split z z2).map TL.tl = TL.spl [c] 0 [] l := by rw [this]; show TL.spl z2.cps.toList 0 [] z.cps.toList = _; rw [ez2, ez]
        rw [e2, List.nil_append, ← e1] at h2
        exact h2
      have hz : (splitC c l).length ≤ SZ := Nat.le_trans (splitC_len c l) (by omega)
      have rp : RpAll G.K F (osOf zs) ((Txt.split z z2).map V.str) ((splitC c l).map D.str) := by
        rw [← em, List.map_map]
        refine RpAll.strs fun y hy => ?_
        refine strOk_sub oz (splitC_sub c l _ ?_)
        rw [← em]
        exact List.mem_map.mpr ⟨y, hy, rfl⟩
      exact k_newLst s S k rp (by simpa using hz) hq
    · cases hg
theorem c_split (hK : X.K = G.K) (ho : PE X o (TEk G E N O .b ma)) (hb : PE X e (TEk G E N O .b mb))
    (hbase : attributeBase o "split" X.env (eval o X.env) = eval o X.env := by rfl)
    (hfew : ((backTo cpos (starEach [e] X.env)).all (fun x => !x.1) && (backToKw cpos (keywordEach [] X.env)).all (fun x => x.1.isSome) && decide (([e] : List Expr).length + ([] : List Keyword).length + (if ([] : List Keyword).isEmpty then 0 else 1) < 30)) = true := by rfl)
    (hline : (apos.endLine == cpos.line) = true := by rfl) (hs : starEach [e] X.env = (false, eval e X.env) :: starEach [] X.env := by rfl) (hplain : (backTo cpos (starEach [] X.env)).any (·.1) = false := by rfl) :
    PE X (.Call (.Attribute o "split" apos) [e] [] cpos) (TEk G E N O .o (eM isStrD splitD ma (aCons mb aNil))) := by
  have h : PE X (.Call (.Attribute o "split" apos) [e] [] cpos) (tBM G.K "str" rSplit (TEk G E N O .b ma) (TAk G E N O .b (aCons mb aNil))) := by
    rw [← hK]; exact pe_bm PySem.F.plainAttrs_str PySem.F.slot_str_split PySem.F.type_str_split mt_split ho (c_acons hb c_anil (hs := hs)) hbase hfew hline hs hplain
  exact PE.imp h fun _ _ _ q => te_meth v_split ty_str q
theorem joinC_join (sep : List Nat) : ∀ ls, TL.joinL sep ls = joinC sep ls
  | [] => rfl
  | [p] => rfl
  | p :: q :: r => by
    show p ++ (sep ++ TL.joinL sep (q :: r)) = p ++ (sep ++ joinC sep (q :: r))
    rw [joinC_join sep (q :: r)]
theorem joinC_mem {sep : List Nat} : ∀ {ls : List (List Nat)} {c : Nat}, c ∈ joinC sep ls → c ∈ sep ∨ ∃ l ∈ ls, c ∈ l
  | [], c, h => by cases h
  | [p], c, h => .inr ⟨p, by simp, h⟩
  | p :: q :: r, c, h => by
    rcases List.mem_append.mp (show c ∈ p ++ (sep ++ joinC sep (q :: r)) from h) with h | h
    · exact .inr ⟨p, by simp, h⟩
    · rcases List.mem_append.mp h with h | h
      · exact .inl h
      · rcases joinC_mem h with h | ⟨l, hl, hc⟩
        · exact .inl h
        · exact .inr ⟨l, List.mem_cons_of_mem _ hl, hc⟩
theorem joinC_len (sep : List Nat) : ∀ ls, (joinC sep ls).length ≤ (ls.map List.length).sum + ls.length * sep.length
  | [] => by simp [joinC]
  | [p] => by simp [joinC]
  | p :: q :: r => by
    have := joinC_len sep (q :: r)
    simp only [joinC, List.length_append, List.map_cons, List.sum_cons, List.length_cons] at this ⊢
    rw [Nat.succ_mul]
    omega
def rJoin (K : PySem.W.Frag) : V → List V → Hp → VK → Prop := fun x xs H Q => ∃ a p, ∃ ys : List Str, x = .str a ∧ xs = [.ref p] ∧ (SqL K H p (ys.map V.str) ∨ SqT K H p (ys.map V.str)) ∧ (ys.map (·.length)).sum + ys.length * a.length ≤ 16777216 ∧ Q (.str (Txt.join a ys)) H
theorem RpAll.okS {K : PySem.W.Frag} {F : Hp} {os : List Addr} : ∀ {vs : List V} {ls : List (List Nat)}, RpAll K F os vs (ls.map D.str) → ∀ l ∈ ls, StrOk l := by
  intro vs ls h
  induction ls generalizing vs with
  | nil => intro l hl; cases hl
  | cons l r ih =>
    cases h with
    | cons h t =>
      intro l' hl'
      rcases List.mem_cons.mp hl' with rfl | hl'
      · cases h with
        | str _ o => exact o
      · exact ih t l' hl'
theorem v_join : VM G .v (rJoin G.K) joinD := by
  intro F H zs st x xs dx ds d Q s S hx hxs hg k
  have fin : ∀ {sep : List Nat} {ys : List D} {a : Addr} {vs : List V}, Sh G.K F H zs x (.str sep) → xs = [.ref a] → (SqL G.K H a vs ∨ SqT G.K H a vs) → RpAll G.K F (osOf zs) vs ys →
      ((strsD ys).bind fun ls => if (ls.map List.length).sum + ls.length * sep.length ≤ SZ then some (D.str (joinC sep ls)) else none) = some d → rJoin G.K x xs H Q := by
    intro sep ys a vs hx ea hq r e
    cases e1 : strsD ys with
    | none => rw [e1] at e; cases e
    | some ls =>
      rw [e1] at e
      have e : (if (ls.map List.length).sum + ls.length * sep.length ≤ SZ then some (D.str (joinC sep ls)) else none) = some d := e
      split at e
      · rename_i hc
        cases e
        have ey := strs_of e1
        subst ey
        obtain ⟨zs', ez1, ez2⟩ := r.ofStrs
        subst ez1
        obtain ⟨z, rfl, ez, oz⟩ := hx.str
        have hl : (zs'.map (·.length)) = ls.map List.length := by
          rw [← ez2, List.map_map]
          exact List.map_congr_left fun t _ => len_str t
        have hls := r.okS
        have hn : zs'.length = ls.length := by rw [← ez2, List.length_map]
        refine ⟨z, a, zs', rfl, ea, hq, by rw [hl, hn, len_str, ez]; exact hc, k _ H F (Grw.refl s) (.str ?_ ⟨Nat.le_trans (joinC_len _ _) hc, fun c hcm => ?_⟩)⟩
        · rw [TL.join_eq]
          have := TL.tl_join z zs'
          rw [show TL.tl z = sep from ez, joinC_join] at this
          rw [show zs'.map TL.tl = ls from ez2] at this
          exact this
        · rcases joinC_mem hcm with h | ⟨l, hl', hc'⟩
          · exact oz.2 c h
          · exact (hls l hl').2 c hc'
      · cases e
  match dx, ds, hx, hxs, hg with
  | .str sep, [.list ys], hx, hxs, hg =>
    obtain ⟨y, rfl, hy⟩ := sh1 hxs
    obtain ⟨a, vs, rfl, q, r, _⟩ := hy.list s
    exact fin hx rfl (.inl (.of q)) r hg
  | .str sep, [.tup ys], hx, hxs, hg =>
    obtain ⟨y, rfl, hy⟩ := sh1 hxs
    obtain ⟨a, vs, rfl, q, r, _⟩ := hy.tup
    exact fin hx rfl (.inr (same_seqT s q)) r hg
theorem c_join (hK : X.K = G.K) (ho : PE X o (TEk G E N O .b ma)) (hb : PE X e (TEk G E N O .b mb))
    (hbase : attributeBase o "join" X.env (eval o X.env) = eval o X.env := by rfl)
    (hfew : ((backTo cpos (starEach [e] X.env)).all (fun x => !x.1) && (backToKw cpos (keywordEach [] X.env)).all (fun x => x.1.isSome) && decide (([e] : List Expr).length + ([] : List Keyword).length + (if ([] : List Keyword).isEmpty then 0 else 1) < 30)) = true := by rfl)
    (hline : (apos.endLine == cpos.line) = true := by rfl) (hs : starEach [e] X.env = (false, eval e X.env) :: starEach [] X.env := by rfl) (hplain : (backTo cpos (starEach [] X.env)).any (·.1) = false := by rfl) :
    PE X (.Call (.Attribute o "join" apos) [e] [] cpos) (TEk G E N O .v (eM isStrD joinD ma (aCons mb aNil))) := by
  have h : PE X (.Call (.Attribute o "join" apos) [e] [] cpos) (tBM G.K "str" (rJoin G.K) (TEk G E N O .b ma) (TAk G E N O .b (aCons mb aNil))) := by
    rw [← hK]; exact pe_bm PySem.F.plainAttrs_str PySem.F.slot_str_join PySem.F.type_str_join mt_join ho (c_acons hb c_anil (hs := hs)) hbase hfew hline hs hplain
  exact PE.imp h fun _ _ _ q => te_meth v_join ty_str q

/-! ### count, index of a list -/
def rCntD (K : PySem.W.Frag) : V → List V → Hp → VK → Prop := fun x xs H Q => ∃ (a : Addr) (y : V) (d : PyData) (ds : List PyData), x = V.ref a ∧ xs = [y] ∧ Dp K H (V.ref a) (.list ds) ∧ Dp K H y d ∧
  SeqAt.shaped (.list ds) = true ∧ SeqAt.shaped d = true ∧ Q (.int (ds.countP (fun z => PyData.eqv z d) : Nat)) H
theorem mt_countD (hu : X.A.units + 65 < cLine) : MtR X "list.count" (rCntD X.K) := by
  intro pins s σ H x xs v us Q I rx rxs h
  obtain ⟨a, y, d, ds, rfl, rfl, hl, hy, sl, sd, q⟩ := h
  cases rx
  obtain ⟨uy, rfl, ry⟩ := rxs.one
  obtain ⟨bs, r1⟩ := Dp.reads I d y uy hy ry
  have hxs : PyData.canLayAll0 ds = true := shaped_tl sl
  have hroom : X.A.units + 1 + min (PyData.depthAll ds) d.depth < cLine := room_in_shaped sd hu
  cases hl with
  | lst hs ha =>
    obtain ⟨its, rv, ⟨⟨cls, dd, data, sls⟩, n, ho, hc, hdn, hdt⟩, hlen⟩ := I.list hs
    simp only at hc hdt
    subst hc hdt
    obtain ⟨as, h4⟩ := Dp.readsAll I ds _ its ha rv
    have hmap : its.map (SeqAt.readOf s.heap) = ds := SeqAt.readsAll_map ds its as hxs h4
    refine call_meets PySem.F.slot_list_count ⟨_, ho, rfl⟩ PySem.F.entry_list_count (PySem.F.args_list_count_2 _ _)
      (SeqAt.list_countAt a its.toArray n dd sls uy (fun u => PyData.eqv (SeqAt.readOf s.heap u) d)) ⟨ho, SeqAt.items_eqAt (vs := its.toArray) (show ReadsAll s.heap its.toArray.toList ds as from h4) r1 hxs (SeqAt.canLay_of_shaped sd) hroom, ?_⟩
    have ec : its.toArray.toList.countP (fun u => PyData.eqv (SeqAt.readOf s.heap u) d) = ds.countP (fun z => PyData.eqv z d) := by
      rw [← hmap, List.countP_map]; rfl
    refine ⟨.int (ds.countP (fun z => PyData.eqv z d) : Nat), H, I.tok _, ⟨s.toks, ?_⟩, q⟩
    rw [ec]
theorem count_eqv {n k : Nat} {dx : D} (hx : okD n dx = true) : ∀ {xs : List D}, okDs k xs = true → (toPys xs).countP (fun z => PyData.eqv z (toPy dx)) = xs.countP (fun z => eqB z dx)
  | [], _ => rfl
  | y :: ys, h => by
    have h' := Bool.and_eq_true_iff.mp (show (okD k y && okDs k ys) = true from by simpa [okDs] using h)
    show (toPy y :: toPys ys).countP _ = _
    rw [List.countP_cons, List.countP_cons, eqv_eqB y dx h'.1 hx, count_eqv hx h'.2]
theorem v_count : VM G .v (rCntD G.K) countD := by
  intro F H zs st x xs dx ds d Q s S hx hxs hg k
  match dx, ds, hx, hxs, hg with
  | .list ys, [y], hx, hxs, hg =>
    have hg : (if okD DP y && okD DP (.list ys) then some (D.int ((ys.countP fun z => eqB z y : Nat) : Int)) else none) = some d := hg
    split at hg
    · rename_i hc
      cases hg
      obtain ⟨o1, o2⟩ := Bool.and_eq_true_iff.mp hc
      obtain ⟨v, rfl, hy⟩ := sh1 hxs
      obtain ⟨a1, a2⟩ := hy.dp s o1
      obtain ⟨b1, b2⟩ := hx.dp s o2
      obtain ⟨a, vs, rfl, _⟩ := hx.list s
      refine ⟨a, v, _, _, rfl, rfl, b1, a1, b2, a2, ?_⟩
      rw [count_eqv (k := 39) o1 (by simpa [okD] using o2)]
      exact k _ H F (Grw.refl s) (.int _)
    · cases hg
theorem c_count (hK : X.K = G.K) (hu : X.A.units + 65 < cLine) (ho : PE X o (TEk G E N O .b ma)) (hb : PE X e (TEk G E N O .b mb))
    (hbase : attributeBase o "count" X.env (eval o X.env) = eval o X.env := by rfl)
    (hfew : ((backTo cpos (starEach [e] X.env)).all (fun x => !x.1) && (backToKw cpos (keywordEach [] X.env)).all (fun x => x.1.isSome) && decide (([e] : List Expr).length + ([] : List Keyword).length + (if ([] : List Keyword).isEmpty then 0 else 1) < 30)) = true := by rfl)
    (hline : (apos.endLine == cpos.line) = true := by rfl) (hs : starEach [e] X.env = (false, eval e X.env) :: starEach [] X.env := by rfl) (hplain : (backTo cpos (starEach [] X.env)).any (·.1) = false := by rfl) :
    PE X (.Call (.Attribute o "count" apos) [e] [] cpos) (TEk G E N O .v (eM isListD countD ma (aCons mb aNil))) := by
  have h : PE X (.Call (.Attribute o "count" apos) [e] [] cpos) (tBM G.K "list" (rCntD G.K) (TEk G E N O .b ma) (TAk G E N O .b (aCons mb aNil))) := by
    rw [← hK]; exact pe_bm PySem.F.plainAttrs_list PySem.F.slot_list_count PySem.F.type_list_count (mt_countD hu) ho (c_acons hb c_anil (hs := hs)) hbase hfew hline hs hplain
  exact PE.imp h fun _ _ _ q => te_meth v_count ty_list q
theorem findIx_ok {n k : Nat} {dx : D} (hx : okD n dx = true) : ∀ {xs : List D} {j r : Nat}, okDs k xs = true → findIx dx xs j = some r → ∃ t z, r = j + t ∧ (toPys xs)[t]? = some z ∧ PyData.eqv z (toPy dx) = true ∧ ∀ (m : Nat) (z' : PyData), m < t → (toPys xs)[m]? = some z' → PyData.eqv z' (toPy dx) = false
  | [], _, _, _, h => by cases h
  | y :: ys, j, r, ho, h => by
    have h' := Bool.and_eq_true_iff.mp (show (okD k y && okDs k ys) = true from by simpa [okDs] using ho)
    have h : (if eqB y dx then some j else findIx dx ys (j + 1)) = some r := h
    have ey := eqv_eqB y dx h'.1 hx
    by_cases hy : eqB y dx = true
    · rw [if_pos hy] at h
      cases h
      exact ⟨0, toPy y, rfl, rfl, by rw [ey, hy], fun m z' hm _ => absurd hm (Nat.not_lt_zero _)⟩
    · rw [if_neg hy] at h
      obtain ⟨t, z, h1, h2, h3, h4⟩ := findIx_ok hx h'.2 h
      refine ⟨t + 1, z, by omega, h2, h3, fun m z' hm hz' => ?_⟩
      cases m with
      | zero =>
        have e1 : toPy y = z' := Option.some.inj (show some (toPy y) = some z' from hz')
        subst e1
        rw [ey]; simpa using hy
      | succ m => exact h4 m z' (by omega) hz'
theorem v_index : VM G .v (rIndexD G.K) indexD := by
  intro F H zs st x xs dx ds d Q s S hx hxs hg k
  match dx, ds, hx, hxs, hg with
  | .list ys, [y], hx, hxs, hg =>
    have hg : (if okD DP y && okD DP (.list ys) then (findIx y ys 0).map fun k => D.int (k : Int) else none) = some d := hg
    split at hg
    · rename_i hc
      cases e : findIx y ys 0 with
      | none => rw [e] at hg; cases hg
      | some r =>
        rw [e] at hg
        cases hg
        obtain ⟨o1, o2⟩ := Bool.and_eq_true_iff.mp hc
        obtain ⟨v, rfl, hy⟩ := sh1 hxs
        obtain ⟨a1, a2⟩ := hy.dp s o1
        obtain ⟨b1, b2⟩ := hx.dp s o2
        obtain ⟨a, vs, rfl, _⟩ := hx.list s
        obtain ⟨t, z, h1, h2, h3, h4⟩ := findIx_ok (k := 39) o1 (by simpa [okD] using o2) e
        refine ⟨a, v, _, _, t, z, rfl, rfl, b1, a1, b2, a2, h2, h3, h4, ?_⟩
        rw [Nat.zero_add] at h1
        subst h1
        exact k _ H F (Grw.refl s) (.int _)
    · cases hg
theorem c_index (hK : X.K = G.K) (hu : X.A.units + 65 < cLine) (ho : PE X o (TEk G E N O .b ma)) (hb : PE X e (TEk G E N O .b mb))
    (hbase : attributeBase o "index" X.env (eval o X.env) = eval o X.env := by rfl)
    (hfew : ((backTo cpos (starEach [e] X.env)).all (fun x => !x.1) && (backToKw cpos (keywordEach [] X.env)).all (fun x => x.1.isSome) && decide (([e] : List Expr).length + ([] : List Keyword).length + (if ([] : List Keyword).isEmpty then 0 else 1) < 30)) = true := by rfl)
    (hline : (apos.endLine == cpos.line) = true := by rfl) (hs : starEach [e] X.env = (false, eval e X.env) :: starEach [] X.env := by rfl) (hplain : (backTo cpos (starEach [] X.env)).any (·.1) = false := by rfl) :
    PE X (.Call (.Attribute o "index" apos) [e] [] cpos) (TEk G E N O .v (eM isListD indexD ma (aCons mb aNil))) := by
  have h : PE X (.Call (.Attribute o "index" apos) [e] [] cpos) (tBM G.K "list" (rIndexD G.K) (TEk G E N O .b ma) (TAk G E N O .b (aCons mb aNil))) := by
    rw [← hK]; exact pe_bm PySem.F.plainAttrs_list PySem.F.slot_list_index PySem.F.type_list_index (mt_indexD hu) ho (c_acons hb c_anil (hs := hs)) hbase hfew hline hs hplain
  exact PE.imp h fun _ _ _ q => te_meth v_index ty_list q
/-! ### d.get(k, x) -/
theorem c_get (hu : X.A.units + 65 < cLine) (ho : PE X o (TEk G E N O .b ma)) (he : PE X e (TEk G E N O .v mb)) (hf : PE X f (TEk G E N O .v mc))
    (hb : attributeBase o "get" X.env (eval o X.env) = eval o X.env := by rfl) (hw : ((backTo cpos (starEach [e, f] X.env)).all (fun x => !x.1) && (backToKw cpos (keywordEach [] X.env)).all (fun x => x.1.isSome) && decide (([e, f] : List Expr).length + ([] : List Keyword).length + (if ([] : List Keyword).isEmpty then 0 else 1) < 30)) = true := by rfl) (hl : (apos.endLine == cpos.line) = true := by rfl) (ht : backTo cpos (starEach [e, f] X.env) = [(false, eval e X.env), (false, eval f X.env)] := by rfl) :
    PE X (.Call (.Attribute o "get" apos) [e, f] [] cpos) (TEk G E N O .v (eM isDictD getD3 ma (aCons mb (aCons mc aNil)))) := by
  refine PE.imp (pe_dget2 (by omega) ho he hf ⟨hb, hw, hl, ht⟩) fun σ H Q ⟨env, st, F, zs, rel, p⟩ => ?_
  refine TEk.bind (PX := fun F H zs r => Post G E .v F H zs r Q) rel rfl (fun x h => h.back x) post_exc (fun h => h) p fun d st1 v H1 F1 zs1 _ _ rel1 q1 p1 => ?_
  have p1 : Post G E .v F1 H1 zs1 (if isDictD d then (aCons mb (aCons mc aNil) env st1).bind fun xs st => ofOpt (getD3 d xs) st else .bad) Q := p1
  cases d with
  | dict kvs =>
    rw [if_pos (show isDictD (D.dict kvs) = true from rfl)] at p1
    obtain ⟨a, kv, rfl, q, r, hz⟩ := Sh.dict rel1.sub q1
    refine ⟨a, rfl, .inl ⟨kv, .inl q⟩, ?_⟩
    have p1 : Post G E .v F1 H1 zs1 (((mb env st1).bind fun x st => (((mc env st).bind fun y st => R.ok [y] st)).bind fun xs st => R.ok (x :: xs) st).bind fun xs st => ofOpt (getD3 (.dict kvs) xs) st) Q := by
      have e0 : (aCons mb (aCons mc aNil) env st1) = ((mb env st1).bind fun x st => (((mc env st).bind fun y st => R.ok [y] st)).bind fun xs st => R.ok (x :: xs) st) := rfl
      rw [← e0]; exact p1
    refine ⟨env, st1, F1, zs1, rel1, ?_⟩
    cases e1 : mb env st1 with
    | bad => rw [e1] at p1; exact p1
    | exc c st2 => rw [e1] at p1; exact p1
    | ok d2 st2 =>
      rw [e1] at p1
      intro v2 H2 F2 zs2 x2 S2 q2
      refine ⟨env, st2, F2, zs2, rel1.step x2 S2, ?_⟩
      have p2 := p1.back x2
      simp only [R.bind_ok] at p2
      cases e2 : mc env st2 with
      | bad => rw [e2] at p2; exact p2
      | exc c st3 => rw [e2] at p2; exact p2
      | ok d3 st3 =>
        rw [e2] at p2
        simp only [R.bind_ok] at p2
        intro v3 H3 F3 zs3 x3 S3 q3
        obtain ⟨d4, e4, k⟩ := post_ofOpt S3 (p2.back x3)
        cases d2 with
        | str l =>
          cases e4
          cases q2 with
          | @str z _ ez oz =>
            obtain ⟨a', kv', ea, q', r', hz'⟩ := Sh.dict (x2.trans x3).sub (Sh.ext (Sh.ext q1 x2) x3)
            cases ea
            refine ⟨_, DGet.k (k := .inr z) q', ?_⟩
            rcases r'.look ez with ⟨h1, h2⟩ | ⟨d', v', h1, h2, h3⟩
            · rw [h1] at k; rw [h2]; exact k _ H3 F3 (Grw.refl x3.sub) q3
            · rw [h1] at k; rw [h2]; exact k _ H3 F3 (Grw.refl x3.sub) h3
        | _ => cases e4
  | _ => exact p1.elim
end
end Dn

/-! Dn10: changes of own objects; dict of pairs. -/
namespace Dn
open PySem PySem.Spec PyProof.Rows L2
section
variable {G : Gc} {E : XK} {N : En} {O : List Nat} {X : Cx} {e a b c f o : Expr} {es : List Expr} {m ma mb mc : ME} {ms : MA} {kd rk : Kd} {pos p apos cpos : Pos} {x : Str} {i : Nat}
/-- the object of slot i is changed -/
theorem Rel.upd {σ : L2.St} {F H : Hp} {env : Env} {st : Sto} {zs : List (Addr × Addr)} (r : Rel G N O σ H env st F zs) (hi : i ∈ O) {a : Addr} {d' : D} {u : HO} (hσ : σ[i]? = some (some (.ref a))) (h : OwnAt G.K F (osOf zs) (L2.upd H a u) a d') : Rel G N O σ (L2.upd H a u) (env.set i (some d')) st F zs := by
  obtain ⟨d, a0, k1, k2, k3, k4, k5, k6⟩ := r.own i hi
  have ea : a0 = a := by rw [hσ] at k2; cases k2; rfl
  subst ea
  have hl : i < env.length := (List.getElem?_eq_some_iff.mp k1).1
  obtain ⟨u0, hu0, n0, x0⟩ := k6.there
  refine ⟨⟨r.ext.f, fun b o q => ?_, r.ext.z, fun b o q n nt => ?_, r.ext.new, r.ext.znew, fun b o q nt => ?_⟩, by simp [r.len], fun j d'' hj e => ?_, fun j hj => ?_, r.dis, ⟨r.sto.len, fun k p i' q1 q2 => ?_, r.sto.nd, r.sto.fr, tabs_upd r.sto.tab hu0 n0 x0, r.sto.nt⟩⟩
  · rw [upd_ne (ne_of_none q k4)]; exact r.sub b o q
  · rw [upd_ne (k3.ne q nt)]; exact r.ext.h b o q n nt
  · rw [upd_ne (k3.ne q nt)]; exact r.ext.there b o q nt
  · have hji : j ≠ i := fun z => hj (by rw [z]; exact hi)
    rw [List.getElem?_set_ne (Ne.symm hji)] at e
    exact r.val j d'' hj e
  · by_cases hji : j = i
    · subst hji
      exact ⟨d', a0, by rw [List.getElem?_set_self hl], hσ, k3, k4, k5, h⟩
    · obtain ⟨d2, a2, w1, w2, w3, w4, w5, w6⟩ := r.own j hj
      have ne : a2 ≠ a0 := fun z => r.dis j i hj hi hji (by rw [w2, hσ, z])
      exact ⟨d2, a2, by rw [List.getElem?_set_ne (Ne.symm hji)]; exact w1, w2, w3, w4, w5, w6.keep (Same.refl _) (List.prefix_refl _) fun o ho _ => by rw [upd_ne ne]; exact ho⟩
  · obtain ⟨dx, v', rr, ts, a1, a2, a3, a4, a5, a6⟩ := r.sto.at_ k p i' q1 q2
    have np : ∀ b ∈ zAd zs, b ≠ a0 := fun b hb z => k5 (by rw [← z]; exact hb)
    have hp : p ∈ zs := List.mem_of_getElem? q1
    have m1 : p.1 ∈ zAd zs := List.mem_flatMap.mpr ⟨p, hp, by simp⟩
    have m2 : p.2 ∈ zAd zs := List.mem_flatMap.mpr ⟨p, hp, by simp⟩
    exact ⟨dx, v', rr, ts, by rw [upd_ne (np _ m1)]; exact a1, a2, a3, a4, by rw [upd_ne (np _ m2)]; exact a5, a6⟩
/-- what a change asks: from the slot's object and the arguments -/
theorem ts_upd {ty : D → Bool} {g : D → List D → Option D} {D : Ends} {σ : L2.St} {H : Hp} (hi : i ∈ O) (h : TSk G E N rk O O (sUpd i ty g ms) D σ H) :
    ∃ a, σ[i]? = some (some (.ref a)) ∧ ∃ env st F zs d, Rel G N O σ H env st F zs ∧ ty d = true ∧ OwnAt G.K F (osOf zs) H a d ∧
      PostA G E .v F H zs (ms env st) fun vs H1 => ∃ F1 zs1 st1 ds d', Rel G N O σ H1 env st1 F1 zs1 ∧ RpAll G.K F1 (osOf zs1) vs ds ∧ OwnAt G.K F1 (osOf zs1) H1 a d ∧ g d ds = some d' ∧
        ∀ u, OwnAt G.K F1 (osOf zs1) (L2.upd H1 a u) a d' → D.nx σ (L2.upd H1 a u) := by
  obtain ⟨env, st, F, zs, r, h⟩ := h
  obtain ⟨d, a, k1, k2, k3, k4, k5, k6⟩ := r.own i hi
  unfold sUpd at h
  simp only [k1] at h
  by_cases ht : ty d = true
  · rw [if_pos ht] at h
    refine ⟨a, k2, env, st, F, zs, d, r, ht, k6, ?_⟩
    cases e : ms env st with
    | bad => rw [e] at h; exact h
    | exc c st1 => rw [e] at h; exact fun H' F' zs' x S => h H' F' zs' (r.ext.trans x) S
    | ok ds st1 =>
      rw [e] at h
      intro vs H1 F1 zs1 x1 S1 q1
      have r1 := r.step x1 S1
      cases e2 : g d ds with
      | none => simp only [e2] at h; exact h.elim
      | some d' =>
        simp only [e2] at h
        exact ⟨F1, zs1, st1, ds, d', r1, q1, k6.keep x1.f (os_pre x1.z) fun o ho nt => x1.h a o ho k5 nt, e2, fun u hu => h σ _ F1 zs1 (r1.upd hi k2 hu) x1.f x1.z⟩
  · rw [if_neg ht] at h; exact h.elim
theorem OwnAt.list {K : PySem.W.Frag} {F H : Hp} {os : List Addr} {a : Addr} {ds : List D} (h : OwnAt K F os H a (.list ds)) : ∃ vs, H a = some (.lst vs) ∧ RpAll K F os vs ds ∧ ds.length ≤ SZ := by
  rcases h with ⟨vs, ds', e, h1, h2, h3⟩ | ⟨_, _, e, _⟩
  · cases e; exact ⟨vs, h1, h2, h3⟩
  · cases e
theorem OwnAt.dict {K : PySem.W.Frag} {F H : Hp} {os : List Addr} {a : Addr} {ds : List (List Nat × D)} (h : OwnAt K F os H a (.dict ds)) : ∃ vs, H a = some (.dK vs) ∧ RpKv K F os vs ds ∧ ds.length ≤ SZ := by
  rcases h with ⟨_, _, e, _⟩ | ⟨vs, ds', e, h1, h2, h3⟩
  · cases e
  · cases e; exact ⟨vs, h1, h2, h3⟩
theorem post_a1 {F H : Hp} {zs : List (Addr × Addr)} {env : Env} {st : Sto} {Q : List V → Hp → Prop} (h : PostA G E .v F H zs (aCons m aNil env st) Q) : Post G E .v F H zs (m env st) fun v H1 => Q [v] H1 := by
  have h : PostA G E .v F H zs ((m env st).bind fun x st => R.ok [x] st) Q := h
  cases e : m env st with
  | bad => rw [e] at h; exact h
  | exc c st1 => rw [e] at h; exact h
  | ok d st1 => rw [e] at h; exact fun v H1 F1 zs1 x1 S1 q1 => h [v] H1 F1 zs1 x1 S1 (.cons q1 .nil)
/-- x.append(e) -/
theorem c_append (hK : X.K = G.K) (hi : i ∈ O) (he : PE X e (TEk G E N O .v m)) (hN : X.N[i]? = some x := by rfl) (hv : Vis X.env.scope x := by first | exact Or.inl rfl | exact Or.inr (Or.inl rfl) | exact Or.inr (Or.inr rfl)) (hd : (x == ("__debug__" : Str)) = false := by decide) (hcd : (x == ("__classdict__" : Str)) = false := by decide)
    (hbase : attributeBase (.Name x p) "append" X.env (eval (.Name x p) X.env) = eval (.Name x p) X.env := by rfl)
    (hfew : ((backTo cpos (starEach [e] X.env)).all (fun x => !x.1) && (backToKw cpos (keywordEach [] X.env)).all (fun x => x.1.isSome) && decide (([e] : List Expr).length + ([] : List Keyword).length + (if ([] : List Keyword).isEmpty then 0 else 1) < 30)) = true := by rfl)
    (hline : (apos.endLine == cpos.line) = true := by rfl) (hs : starEach [e] X.env = (false, eval e X.env) :: starEach [] X.env := by rfl) (hplain : (backTo cpos (starEach [] X.env)).any (·.1) = false := by rfl) (hsw : swapsWith (.Call (.Attribute (.Name x p) "append" apos) [e] [] cpos) none pos.line X.env = pure false := by rfl) :
    PS X (.Expr (.Call (.Attribute (.Name x p) "append" apos) [e] [] cpos) pos) (TSk G E N rk O O (sUpd i isListD appendD (aCons m aNil))) := by
  refine PS.imp (ps_expr (pe_bm PySem.F.plainAttrs_list PySem.F.slot_list_append PySem.F.type_list_append mt_append (pe_var hN hv hd hcd) (pa_cons he pa_nil hs) hbase hfew hline hs hplain) hsw) fun D σ H h => ?_
  obtain ⟨a, hσ, env, st, F, zs, d, r, ht, k6, h⟩ := ts_upd hi h
  cases d <;> first | (cases ht; done) | skip
  rename_i xs
  refine ⟨_, hσ, ?_, env, st, F, zs, r, ?_⟩
  · rw [hK]
    obtain ⟨vs, h1, _⟩ := k6.list
    exact .inl ⟨rfl, vs, .of h1⟩
  · have h := post_a1 h
    cases e1 : m env st with
    | bad => rw [e1] at h; exact h
    | exc c st1 => rw [e1] at h; exact h
    | ok d1 st1 =>
      rw [e1] at h
      intro v H1 F1 zs1 x1 S1 q1
      obtain ⟨F2, zs2, st2, ds2, d2, r2, q2, o2, g2, fin⟩ := h v H1 F1 zs1 x1 S1 q1
      cases q2 with
      | cons qa qb =>
        cases qb
        have g2 : (if xs.length < SZ then some (Dn.D.list (xs ++ [_])) else none) = some d2 := g2
        split at g2
        · rename_i hl
          cases g2
          obtain ⟨vs, w1, w2, w3⟩ := o2.list
          refine ⟨a, vs, v, rfl, rfl, w1, by rw [w2.length, szl]; exact hl, fin _ (.inl ⟨vs ++ [v], _, rfl, upd_same, w2.append (.cons qa .nil), by rw [List.length_append]; exact hl⟩)⟩
        · cases g2
theorem post_a2 {F H : Hp} {zs : List (Addr × Addr)} {σ : L2.St} {env : Env} {st : Sto} {Q : List V → Hp → Prop} (r : Rel G N O σ H env st F zs) (h : PostA G E .v F H zs (aCons ma (aCons mb aNil) env st) Q) : TEk G E N O .v ma σ H fun v H1 => TEk G E N O .v mb σ H1 fun w H2 => Q [v, w] H2 := by
  refine TEk.bind (PX := fun F H zs r => PostA G E .v F H zs r Q) r rfl (fun x h => h.back x) postA_exc (fun h => h) h fun d st1 v H1 F1 zs1 _ _ rel1 q1 p1 => ?_
  have p1 : PostA G E .v F1 H1 zs1 (((mb env st1).bind fun y st => R.ok [y] st).bind fun xs st => R.ok (d :: xs) st) Q := p1
  refine ⟨env, st1, F1, zs1, rel1, ?_⟩
  cases e : mb env st1 with
  | bad => rw [e] at p1; exact p1
  | exc c st2 => rw [e] at p1; exact p1
  | ok d2 st2 => rw [e] at p1; exact fun w H2 F2 zs2 x2 S2 q2 => p1 [v, w] H2 F2 zs2 x2 S2 (.cons (Rp.mono x2.f (os_pre x2.z) q1) (.cons q2 .nil))
/-- x[k] = e, a list -/
theorem c_putL {tpos : Pos} (hi : i ∈ O) (he : PE X e (TEk G E N O .v ma)) (hk : PE X b (TEk G E N O .v mb)) (hN : X.N[i]? = some x := by rfl) (hv : Vis X.env.scope x := by first | exact Or.inl rfl | exact Or.inr (Or.inl rfl) | exact Or.inr (Or.inr rfl)) (hd : (x == ("__debug__" : Str)) = false := by decide) (hcd : (x == ("__classdict__" : Str)) = false := by decide)
    (ha : ∀ v, assign (.Subscript (.Name x p) b tpos) X.env v = (do
      let ov ← holding [v] (eval (.Name x p) X.env)
      let iv ← holding [v, ov] (eval b X.env)
      standAt tpos
      holding [v, ov, iv] (setItem ov iv v)
      release [v, ov, iv] []) := by intro _; rfl) (hs : swapsWithSole [.Subscript (.Name x p) b tpos] e pos.line X.env = pure false := by rfl) (hw : swappedStores [.Subscript (.Name x p) b tpos] e X.env = pure none := by rfl)
    (h1 : (assignEach [.Subscript (.Name x p) b tpos] X.env).map (·.2) = [assign (.Subscript (.Name x p) b tpos) X.env] := by rfl) :
    PS X (.Assign [.Subscript (.Name x p) b tpos] e pos) (TSk G E N rk O O (sUpd i isListD putD (aCons ma (aCons mb aNil)))) := by
  refine PS.imp (ps_asg he (pg_sub (pe_var hN hv hd hcd) hk set_list ha) hs hw h1) fun D σ H h => ?_
  obtain ⟨a, hσ, env, st, F, zs, d, r, ht, k6, h⟩ := ts_upd hi h
  cases d <;> first | (cases ht; done) | skip
  rename_i xs
  obtain ⟨env', st', F', zs', r', h'⟩ := post_a2 r h
  refine ⟨env', st', F', zs', r', ?_⟩
  cases e1 : ma env' st' with
  | bad => rw [e1] at h'; exact h'
  | exc c st1 => rw [e1] at h'; exact h'
  | ok d1 st1 =>
    rw [e1] at h'
    intro v H1 F1 zs1 x1 S1 q1
    refine ⟨_, hσ, ?_⟩
    obtain ⟨env2, st2, F2, zs2, r2, h2⟩ := h' v H1 F1 zs1 x1 S1 q1
    refine ⟨env2, st2, F2, zs2, r2, ?_⟩
    cases e2 : mb env2 st2 with
    | bad => rw [e2] at h2; exact h2
    | exc c st3 => rw [e2] at h2; exact h2
    | ok d2 st3 =>
      rw [e2] at h2
      intro w H3 F3 zs3 x3 S3 q3
      obtain ⟨F4, zs4, st4, ds4, d4, r4, q4, o4, g4, fin⟩ := h2 w H3 F3 zs3 x3 S3 q3
      match ds4, q4, g4 with
      | [dv, .int k], .cons qa (.cons qb .nil), g4 =>
        cases qb
        have g4 : ((ixD xs.length k).map fun j => Dn.D.list (xs.set j dv)) = some d4 := g4
        cases ej : ixD xs.length k with
        | none => rw [ej] at g4; cases g4
        | some j =>
          rw [ej] at g4
          cases g4
          obtain ⟨vs, w1, w2, w3⟩ := o4.list
          refine ⟨a, vs, k, j, rfl, rfl, w1, by rw [w2.length]; exact ej, fin _ (.inl ⟨vs.set j v, _, rfl, upd_same, RpAll.set qa w2, by simpa using w3⟩)⟩
      | [dv, .str k], .cons qa (.cons qb .nil), g4 => cases g4
theorem RpKv.put {K : PySem.W.Frag} {F : Hp} {os : List Addr} {x : Str} {l : List Nat} {v : V} {d : D} (hx : x.cps.toList = l) (ho : StrOk l) (h : Rp K F os v d) {kvs : List (Key × V)} {ds : List (List Nat × D)} (r : RpKv K F os kvs ds) : RpKv K F os (putK kvs (.inr x) v) (putKD ds l d) := by
  have app : ∀ {kvs : List (Key × V)} {ds : List (List Nat × D)}, RpKv K F os kvs ds → RpKv K F os (kvs ++ [(.inr x, v)]) (ds ++ [(l, d)]) := by
    intro kvs ds r
    induction ds generalizing kvs with
    | nil => cases r; exact .cons hx ho h .nil
    | cons q ds ih => cases r with
      | cons h1 h2 h3 t => exact .cons h1 h2 h3 (ih t)
  have rep : ∀ {kvs : List (Key × V)} {ds : List (List Nat × D)}, RpKv K F os kvs ds → RpKv K F os (kvs.map fun kv => if kv.1 = .inr x then (kv.1, v) else kv) (ds.map fun p => if p.1 = l then (p.1, d) else p) := by
    intro kvs ds r
    induction ds generalizing kvs with
    | nil => cases r; exact .nil
    | cons q ds ih => cases r with
      | @cons y l' w kvs d' _ h1 h2 h3 t =>
        by_cases e : l' = l
        · have ey : y = x := TL.ext_tl (show y.cps.toList = x.cps.toList by rw [h1, hx, e])
          simp only [List.map_cons, e, ey, if_true]
          exact .cons hx ho h (ih t)
        · have ey : ¬ (Sum.inr y : Key) = Sum.inr x := fun z => e (by injection z with z; rw [← h1, ← hx, z])
          simp only [List.map_cons, e, ey, if_false]
          exact .cons h1 h2 h3 (ih t)
  unfold putK putKD
  rw [valV_any]
  rcases r.look hx with ⟨h1, h2⟩ | ⟨d', v', h1, h2, h3⟩
  · rw [h1, h2]; exact app r
  · rw [h1, h2]; exact rep r
theorem putKD_len (kvs : List (List Nat × D)) (k : List Nat) (d : D) : (putKD kvs k d).length ≤ kvs.length + 1 := by
  unfold putKD
  split <;> simp
/-- x[k] = e, a dict -/
theorem c_putD {tpos : Pos} (hu : X.A.units + 65 < cLine) (hi : i ∈ O) (he : PE X e (TEk G E N O .v ma)) (hk : PE X b (TEk G E N O .v mb)) (hN : X.N[i]? = some x := by rfl) (hv : Vis X.env.scope x := by first | exact Or.inl rfl | exact Or.inr (Or.inl rfl) | exact Or.inr (Or.inr rfl)) (hd : (x == ("__debug__" : Str)) = false := by decide) (hcd : (x == ("__classdict__" : Str)) = false := by decide)
    (hs : swapsWith e (some (.Subscript (.Name x p) b tpos)) pos.line X.env = pure false := by rfl) :
    PS X (.Assign [.Subscript (.Name x p) b tpos] e pos) (TSk G E N rk O O (sUpd i isDictD putD (aCons ma (aCons mb aNil)))) := by
  refine PS.imp (ps_dput (by omega) (pe_var hN hv hd hcd) hk he hs) fun D σ H h => ?_
  obtain ⟨a, hσ, env, st, F, zs, d, r, ht, k6, h⟩ := ts_upd hi h
  cases d <;> first | (cases ht; done) | skip
  rename_i xs
  obtain ⟨env', st', F', zs', r', h'⟩ := post_a2 r h
  refine ⟨env', st', F', zs', r', ?_⟩
  cases e1 : ma env' st' with
  | bad => rw [e1] at h'; exact h'
  | exc c st1 => rw [e1] at h'; exact h'
  | ok d1 st1 =>
    rw [e1] at h'
    intro v H1 F1 zs1 x1 S1 q1
    refine ⟨_, hσ, ?_⟩
    obtain ⟨env2, st2, F2, zs2, r2, h2⟩ := h' v H1 F1 zs1 x1 S1 q1
    refine ⟨env2, st2, F2, zs2, r2, ?_⟩
    cases e2 : mb env2 st2 with
    | bad => rw [e2] at h2; exact h2
    | exc c st3 => rw [e2] at h2; exact h2
    | ok d2 st3 =>
      rw [e2] at h2
      intro w H3 F3 zs3 x3 S3 q3
      obtain ⟨F4, zs4, st4, ds4, d4, r4, q4, o4, g4, fin⟩ := h2 w H3 F3 zs3 x3 S3 q3
      match ds4, q4, g4 with
      | [dv, .str k], .cons qa (.cons qb .nil), g4 =>
        cases qb with
        | @str z _ ez oz =>
          have g4 : (if xs.length < SZ then some (Dn.D.dict (putKD xs k dv)) else none) = some d4 := g4
          split at g4
          · rename_i hl
            cases g4
            obtain ⟨vs, w1, w2, w3⟩ := o4.dict
            refine ⟨a, _, rfl, DPut.k (k := .inr z) w1 (by rw [w2.length, szl]; exact hl), fin _ (.inr ⟨_, _, rfl, upd_same, RpKv.put ez oz qa w2, Nat.le_trans (putKD_len _ _ _) hl⟩)⟩
          · cases g4
      | [dv, .int k], .cons qa (.cons qb .nil), g4 => cases g4
theorem RpKv.drop {K : PySem.W.Frag} {F : Hp} {os : List Addr} {x : Str} {l : List Nat} (hx : x.cps.toList = l) {kvs : List (Key × V)} {ds : List (List Nat × D)} (r : RpKv K F os kvs ds) : RpKv K F os (dropK kvs (.inr x)) (dropKD ds l) := by
  unfold dropK dropKD
  induction ds generalizing kvs with
  | nil => cases r; exact .nil
  | cons q ds ih => cases r with
    | @cons y l' w kvs d' _ h1 h2 h3 t =>
      by_cases e : l' = l
      · have ey : y = x := TL.ext_tl (show y.cps.toList = x.cps.toList by rw [h1, hx, e])
        rw [List.filter_cons_of_neg (by simp [ey]), List.filter_cons_of_neg (by simp [e])]
        exact ih t
      · have ey : ¬ (Sum.inr y : Key) = Sum.inr x := fun z => e (by injection z with z; rw [← h1, ← hx, z])
        rw [List.filter_cons_of_pos (by simpa using ey), List.filter_cons_of_pos (by simpa using e)]
        exact .cons h1 h2 h3 (ih t)
/-- x.pop(k), a dict, as a statement -/
theorem c_popD (hi : i ∈ O) (he : PE X e (TEk G E N O .v m)) (hN : X.N[i]? = some x := by rfl) (hv : Vis X.env.scope x := by first | exact Or.inl rfl | exact Or.inr (Or.inl rfl) | exact Or.inr (Or.inr rfl)) (hd : (x == ("__debug__" : Str)) = false := by decide) (hcd : (x == ("__classdict__" : Str)) = false := by decide)
    (hb : attributeBase (.Name x p) "pop" X.env (eval (.Name x p) X.env) = eval (.Name x p) X.env := by rfl) (hw : ((backTo cpos (starEach [e] X.env)).all (fun x => !x.1) && (backToKw cpos (keywordEach [] X.env)).all (fun x => x.1.isSome) && decide (([e] : List Expr).length + ([] : List Keyword).length + (if ([] : List Keyword).isEmpty then 0 else 1) < 30)) = true := by rfl) (hl : (apos.endLine == cpos.line) = true := by rfl) (ht : backTo cpos (starEach [e] X.env) = [(false, eval e X.env)] := by rfl)
    (hsw : swapsWith (.Call (.Attribute (.Name x p) "pop" apos) [e] [] cpos) none pos.line X.env = pure false := by rfl) :
    PS X (.Expr (.Call (.Attribute (.Name x p) "pop" apos) [e] [] cpos) pos) (TSk G E N rk O O (sUpd i isDictD popKD (aCons m aNil))) := by
  refine PS.imp (ps_expr (pe_dpop1 (pe_var hN hv hd hcd) he ⟨hb, hw, hl, ht⟩) hsw) fun D σ H h => ?_
  obtain ⟨a, hσ, env, st, F, zs, d, r, ht, k6, h⟩ := ts_upd hi h
  cases d <;> first | (cases ht; done) | skip
  rename_i xs
  obtain ⟨vs0, h0, _⟩ := k6.dict
  refine ⟨_, hσ, a, rfl, .inl ⟨vs0, .inl h0⟩, env, st, F, zs, r, ?_⟩
  have h := post_a1 h
  cases e1 : m env st with
  | bad => rw [e1] at h; exact h
  | exc c st1 => rw [e1] at h; exact h
  | ok d1 st1 =>
    rw [e1] at h
    intro v H1 F1 zs1 x1 S1 q1
    obtain ⟨F2, zs2, st2, ds2, d2, r2, q2, o2, g2, fin⟩ := h v H1 F1 zs1 x1 S1 q1
    match ds2, q2, g2 with
    | [.str k], .cons qa .nil, g2 =>
      cases qa with
      | @str z _ ez oz =>
        have g2 : (if (lookD xs k).isSome then some (Dn.D.dict (dropKD xs k)) else none) = some d2 := g2
        obtain ⟨vs, w1, w2, w3⟩ := o2.dict
        rcases w2.look ez with ⟨j1, j2⟩ | ⟨d', v', j1, j2, j3⟩
        · rw [j1] at g2; cases g2
        · rw [j1] at g2
          cases g2
          refine ⟨vs, .inr z, v', w1, rfl, j2, fin _ (.inr ⟨_, _, rfl, upd_same, w2.drop ez, Nat.le_trans (List.length_filter_le _ _) w3⟩)⟩
end
end Dn

/-! Dn11: enumerate, zip. -/
namespace Dn
open PySem PySem.Spec PyProof.Rows L2

theorem zipL_get : ∀ {xs ys : List D} {i : Nat} {d : D}, (zipL xs ys)[i]? = some d → ∃ x y, xs[i]? = some x ∧ ys[i]? = some y ∧ d = .tup [x, y]
  | [], _, _, _, h => by simp [zipL] at h
  | _ :: _, [], _, _, h => by simp [zipL] at h
  | x :: xs, y :: ys, 0, d, h => by simp [zipL] at h; exact ⟨x, y, rfl, rfl, h.symm⟩
  | x :: xs, y :: ys, i + 1, d, h => zipL_get (xs := xs) (ys := ys) (by simpa [zipL] using h)
theorem zipL_len : ∀ (xs ys : List D), (zipL xs ys).length = min xs.length ys.length
  | [], ys => by simp [zipL]
  | _ :: _, [] => by simp [zipL]
  | x :: xs, y :: ys => by simp [zipL, zipL_len xs ys]
theorem enumL_get : ∀ {xs : List D} {k i : Nat} {d : D}, (enumL k xs)[i]? = some d → ∃ x, xs[i]? = some x ∧ d = .tup [.int ((k + i : Nat) : Int), x]
  | [], _, _, _, h => by simp [enumL] at h
  | x :: xs, k, 0, d, h => by simp [enumL] at h; exact ⟨x, rfl, h.symm⟩
  | x :: xs, k, i + 1, d, h => by
    obtain ⟨y, h1, h2⟩ := enumL_get (xs := xs) (k := k + 1) (i := i) (by simpa [enumL] using h)
    exact ⟨y, h1, by rw [h2]; congr 3; omega⟩
theorem enumL_len : ∀ (xs : List D) (k : Nat), (enumL k xs).length = xs.length
  | [], k => rfl
  | x :: xs, k => by simp [enumL, enumL_len xs]

/-- a new pair of frozen things -/
theorem rp_pair {K : PySem.W.Frag} {F H : Hp} {os : List Addr} {T : Addr} {x y : V} {dx dy : D} (s : Same F H) (hT : H T = none) (hx : Rp K F os x dx) (hy : Rp K F os y dy) : ∃ F3, Grw F H F3 (upd H T (.tup [x, y])) ∧ Rp K F3 os (.ref T) (.tup [dx, dy]) :=
  ⟨_, Grw.one s hT, .tup (.of upd_same) (.cons (hx.mono (Grw.one s hT).f (List.prefix_refl _)) (.cons (hy.mono (Grw.one s hT).f (List.prefix_refl _)) .nil)) (by show 2 ≤ SZ; decide)⟩

/-! ### any sequence: a list or a tuple -/
/-- the k-th kind: a list (false), a tuple (true) -/
def SqB (t : Bool) (K : PySem.W.Frag) (H : Hp) (a : Addr) (xs : List V) : Prop := if t then SqT K H a xs else SqL K H a xs
def IterB (t : Bool) (h : Heap) (it a : Addr) (i : Nat) : Prop := if t then h.IsTupleIter it a i else h.IsListIter it a i
def HeapB (t : Bool) (h : Heap) (a : Addr) (items : Array Value) : Prop := if t then h.IsTuple a items else h.IsList a items
def objB (t : Bool) (a : Addr) : Obj := { cls := .type (if t then "tuple_iterator" else "list_iterator"), data := .fields #[.ref a, .int 0 0] }
section
variable {X : Cx} {pins : List (Addr × Obj)} {σ : L2.St} {H : Hp} {s : Shared} {a it : Addr} {xs : List V} {t : Bool}
theorem seqB (I : Inv X pins σ H s) (h : SqB t X.K H a xs) : ∃ its : List Value, Vals xs its ∧ HeapB t s.heap a its.toArray ∧ xs.length ≤ sizeLine := by
  cases t with
  | true => obtain ⟨its, r, p, z⟩ := I.tuple h; exact ⟨its, r, p, z⟩
  | false => obtain ⟨its, r, p, z⟩ := I.list h; exact ⟨its, r, p.isList, z⟩
theorem seqB_inj {ys : List V} (I : Inv X pins σ H s) (h : SqB t X.K H a xs) (h' : SqB t X.K H a ys) : xs = ys := by
  cases t with
  | true => exact I.tuple_inj h h'
  | false => exact I.list_inj h h'
theorem drawsB {prog : Program} {w : World} {A : Around} (hh : A.handled = none) (hne : a ≠ it) (items : Array Value) : Draws prog w A it [it, a] items.size (fun i v => items[i]? = some v) (fun i h => IterB t h it a i ∧ HeapB t h a items) := by
  cases t with
  | true => exact Draws.tuple hh it a hne items
  | false => exact Draws.list hh it a hne items
theorem beginsB (items : Array Value) : Begins (.ref a) (objB t a) fun h => HeapB t h a items := by
  cases t with
  | true => exact begins_tuple a items
  | false => exact begins_list a items
theorem iterB_at {h h' : Heap} {i : Nat} (x : IterB t h it a i) (k : ∀ o, h.get? it = some o → h'.get? it = some o) : IterB t h' it a i := by
  cases t with
  | true => exact Heap.IsTupleIter.at x k
  | false => exact Heap.IsListIter.at x k
theorem iterB_obj {h : Heap} {i : Nat} (x : IterB t h it a i) : ∃ o, h.get? it = some o ∧ ∀ v, o.data ≠ .cell v := by
  cases t with
  | true => obtain ⟨o, ho, hc, hd⟩ := x; exact ⟨o, ho, fun v q => by rw [hd] at q; cases q⟩
  | false => obtain ⟨o, ho, hc, hd⟩ := x; exact ⟨o, ho, fun v q => by rw [hd] at q; cases q⟩
theorem iterB_new {h : Heap} (ho : h.get? it = some (objB t a)) : IterB t h it a 0 := by
  cases t with
  | true => exact ⟨_, ho, rfl, rfl⟩
  | false => exact ⟨_, ho, rfl, rfl⟩
end
theorem sqB_same {t : Bool} {K : PySem.W.Frag} {F H : Hp} {a : Addr} {xs : List V} (s : Same F H) (h : SqB t K F a xs) : SqB t K H a xs := by
  cases t with
  | true => exact same_seqT s h
  | false => exact s.seq h
/-- enumerate of it -/
def IteB (t : Bool) (K : PySem.W.Frag) (a : Addr) : It :=
  ⟨fun i H => ∃ (xs : List V) (x : V), SqB t K H a xs ∧ xs[i]? = some x, fun i H v H' => ∃ T x, v = .ref T ∧ H T = none ∧ H' = upd H T (.tup [.int (i : Nat), x]) ∧ ∀ xs, SqB t K H a xs → xs[i]? = some x, fun i H => ∃ xs : List V, SqB t K H a xs ∧ xs.length = i⟩
theorem turn_enumB {t : Bool} {P : Program} {w : World} {K : PySem.W.Frag} {elts : List Expr} {kk : Nat} {tpos : Pos} (a e it : Addr) :
    Turn P w K (.Tuple elts kk tpos) (IteB t K a) [e, it] e (fun i h => (∃ old, IsEnum h e it (0 + ((i : Nat) : Int)) old) ∧ IterB t h it a i ∧ e ≠ it ∧ a ≠ it ∧ e ≠ a) where
  mem := by simp
  obj := fun i h st b hb => by
    obtain ⟨⟨old, he⟩, hi, _⟩ := st
    have e' : b = e ∨ b = it := by simpa using hb
    rcases e' with z | z
    · rw [z]; exact ⟨_, he, fun v q => nomatch q⟩
    · rw [z]; exact iterB_obj hi
  keep := fun i h h' st k => let ⟨⟨old, he⟩, hi, hne⟩ := st; ⟨⟨old, k e (by simp) _ he⟩, iterB_at hi fun o q => k it (by simp) o q, hne⟩
  item := by
    intro X hP hw hK hc i pins s σ H E I hf st hg
    subst hP hw hK
    obtain ⟨he, hit, hne, hna, hnb⟩ := st
    obtain ⟨xs, x, hq, hx⟩ := hg
    obtain ⟨its, rv, hp, hz⟩ := seqB I hq
    obtain ⟨u, hu, ru⟩ := rv.get hx
    have W := GoesN.enumFrom (prog := X.prog) (w := X.w) (A := X.A) (elts := elts) (x1 := kk) (pos := tpos) 0 (drawsB (t := t) (A := X.A.in1) (I.ok.hd hc) hna its.toArray) e hne (by simp [hne, hnb]) (by simp)
    have hi : i < its.toArray.size := by have := (List.getElem?_eq_some_iff.mp hu).1; simpa using this
    refine W.goes i s _ E hi ⟨he, hit, hp⟩ fun v h' tk hY st' hk htk => ?_
    obtain ⟨T, tt, y, rfl, hT, hy, o, ho, hcls, n, hd⟩ := hY
    have ey : y = u := by
      have : its.toArray[i]? = some u := by simpa using hu
      rw [this] at hy; cases hy; rfl
    subst ey
    have new : ObjOk X.prog X.w (upd H T (.tup [.int (i : Nat), x])) h' T (.tup [.int (i : Nat), x]) :=
      ⟨by show 2 ≤ sizeLine; decide, [.int (0 + (i : Int)) tt, y], .cons ⟨tt, by rw [Int.zero_add]⟩ (.cons ru .nil), ⟨o, ho, hcls, n, hd⟩⟩
    have I1 : Inv X pins σ (upd H T (.tup [.int (i : Nat), x])) { s with heap := h', toks := tk } := I.turnedNew (ch := [e, it]) hk hf hT new
    have fr : H T = none := I.hok.fresh hT
    refine ⟨.ref T, _, I1, rfl, ⟨T, x, rfl, fr, rfl, fun ys hy => by rw [seqB_inj I hy hq]; exact hx⟩, ⟨?_, st'.2.1, hne, hna, hnb⟩, fun b hb => ?_⟩
    · have e1 : ((i + 1 : Nat) : Int) = (i : Int) + 1 := by omega
      have := st'.1
      simpa using this
    · have hb' : b < s.heap.objs.size := by
        have e' : b = e ∨ b = it := by simpa using hb
        obtain ⟨old, he⟩ := he
        obtain ⟨o2, ho2, _⟩ := iterB_obj hit
        rcases e' with z | z
        · rw [z]; exact Heap.lt_size he
        · rw [z]; exact Heap.lt_size ho2
      have nb : b ≠ T := Nat.ne_of_lt (Nat.lt_of_lt_of_le hb' hT)
      rw [upd_ne nb]
      exact (hf b hb).1
  done := by
    intro X hP hw hK hc i pins s σ H E I hf st hg
    subst hP hw hK
    obtain ⟨he, hit, hne, hna, hnb⟩ := st
    obtain ⟨xs, hq, hx⟩ := hg
    obtain ⟨its, rv, hp, hz⟩ := seqB I hq
    have W := GoesN.enumFrom (prog := X.prog) (w := X.w) (A := X.A) (elts := elts) (x1 := kk) (pos := tpos) 0 (drawsB (t := t) (A := X.A.in1) (I.ok.hd hc) hna its.toArray) e hne (by simp [hne, hnb]) (by simp)
    have hn : its.toArray.size = i := by rw [List.size_toArray, ← rv.length]; exact hx
    refine W.stops s (fun s1 => Inv X pins σ H s1) E (by rw [hn]; exact ⟨he, hit, hp⟩) fun h' tk hk htk => ?_
    exact I.turnedL (ch := [e, it]) hk hf
  self := fun A i s Q E st h => let ⟨⟨_, he⟩, _⟩ := st; wpAny_pyIter_enum he h
end Dn

/-! Dn12: set(list of texts), sorted of it. Turned from the set-of-ints proofs. -/
namespace Dn
open PySem PySem.Spec PyProof.Rows L2
theorem strs_len : ∀ {vs : List Value} {ys : List Str}, StrsAre vs ys → vs.length = ys.length
  | _, _, .nil => rfl
  | _, _, .cons y t h => congrArg Nat.succ (strs_len h)
theorem strs_get : ∀ {vs : List Value} {ys : List Str}, StrsAre vs ys → ∀ (i : Nat) (v : Value), vs[i]? = some v → ∃ k t, ys[i]? = some k ∧ v = .str k t
  | _, _, .nil, i, v, e => by simp at e
  | _, _, .cons y t h, 0, v, e => ⟨y, t, rfl, by simpa using e.symm⟩
  | _, _, .cons y t h, i + 1, v, e => strs_get h i v (by simpa using e)
def keyOfS (e : Int × Value) : Str := match e.2 with | .str k _ => k | _ => ⟨#[]⟩
def GoodS (P : Program) (w : World) (e : Int × Value) : Prop := ∃ k tk, e.2 = Value.str k tk ∧ e.1 = (PySem.strKind P w).hash k

/-- the set of ints at a: S its members, n their number; its table rises and can be walked -/
def SetX (P : Program) (w : World) (h : Heap) (a : Addr) (S : Str → Bool) (n : Nat) : Prop :=
  ∃ o es ep t, h.get? a = some o ∧ o.ExactSet ∧ o.data = .set es ep t ∧ (∀ e ∈ es.toList, GoodS P w e) ∧ (es.toList.map keyOfS).Nodup ∧ (∀ k, S k = true ↔ k ∈ es.toList.map keyOfS) ∧
    es.size < scanBound ∧ t.fits es.size = true ∧ es.size = n ∧ Ris t.place.toList ∧ (w.params.followText "set-order" = true ∨ t.led = true)

section
variable {P : Program} {w : World} {h h' : Heap} {a : Addr} {S : Str → Bool} {n : Nat}

theorem SetX.at (R : SetX P w h a S n) (k : ∀ o, h.get? a = some o → h'.get? a = some o) : SetX P w h' a S n := by
  obtain ⟨o, es, ep, t, ho, r⟩ := R
  exact ⟨o, es, ep, t, k o ho, r⟩
theorem SetX.lt (R : SetX P w h a S n) : a < h.objs.size := by
  obtain ⟨o, es, ep, t, ho, r⟩ := R
  exact Heap.lt_size ho
theorem SetX.congr {S' : Str → Bool} (R : SetX P w h a S n) (e : ∀ k, S' k = S k) : SetX P w h a S' n := by
  have q : S' = S := funext e
  rw [q]; exact R
theorem goodS_elems {l : List (Int × Value)} (g : ∀ e ∈ l, GoodS P w e) : ElemsOf (PySem.strKind P w) l := fun e he => by
  obtain ⟨k, tk, h1, h2⟩ := g e he
  exact ⟨⟨k, by rw [h1]; exact PySem.strKind_is P w k tk, h2⟩, by rw [h1] <;> rfl⟩
theorem goodS_is {e : Int × Value} (g : GoodS P w e) (k : Str) : (PySem.strKind P w).is k e.2 = true ↔ keyOfS e = k := by
  obtain ⟨k0, tk, h1, _⟩ := g
  unfold keyOfS
  rw [h1]
  show ((k0 == k) = true) ↔ k0 = k
  exact beq_iff_eq
theorem goodS_mem {l : List (Int × Value)} (g : ∀ e ∈ l, GoodS P w e) (k : Str) : k ∈ l.map keyOfS ↔ ∃ e ∈ l, (PySem.strKind P w).is k e.2 = true := by
  rw [List.mem_map]
  constructor
  · rintro ⟨e, he, q⟩
    exact ⟨e, he, (goodS_is (g e he) k).2 q⟩
  · rintro ⟨e, he, q⟩
    exact ⟨e, he, (goodS_is (g e he) k).1 q⟩
theorem SetX.setOf (R : SetX P w h a S n) : h.SetOf (PySem.strKind P w) a S n := by
  obtain ⟨o, es, ep, t, ho, hx, hd, g, nd, hm, hb, hf, hn, _⟩ := R
  exact ⟨o, es, ep, t, ho, hx, hd, goodS_elems g, fun k => (hm k).trans (goodS_mem g k), hb, hf, hn⟩
end

section
variable {P : Program} {w : World} {A : Around} {E : Value → Shared → Prop} {s : Shared} {a : Addr} {S : Str → Bool} {n : Nat}

/-! ### add -/
theorem store_at {h : Heap} {a : Addr} {o : Obj} {es es' : Array (Int × Value)} {ep : Nat} {t t' : SetTable} (ho : h.get? a = some o) (hd : o.data = .set es ep t) :
    (h.update a (Obj.putSet es' t')).get? a = some { o with data := .set es' (ep + 1) t' } := by
  have q := Heap.get?_update_self (Obj.putSet es' t') ho (by rw [putSet_of es' t' hd]; rfl)
  rw [putSet_of es' t' hd] at q
  exact q

theorem setX_add_tail {g : Bool → Sem Unit} (hg : ∀ (b : Bool) (s₁ : Shared) (Q' : Unit → Shared → Prop), Q' () s₁ → wpAny (model P w) A (g b) Q' E s₁)
    {o : Obj} {es : Array (Int × Value)} {ep : Nat} {t : SetTable} (ho : s.heap.get? a = some o) (hex : o.ExactSet) (hd : o.data = .set es ep t)
    {es1 : Array (Int × Value)} {t2 : SetTable} {S' : Str → Bool} (g1 : ∀ e ∈ es1.toList, GoodS P w e) (nd1 : (es1.toList.map keyOfS).Nodup) (m1 : ∀ k, S' k = true ↔ k ∈ es1.toList.map keyOfS)
    (hb1 : es1.size < scanBound) (hf2 : t2.fits es1.size = true) (hr : Ris t2.place.toList) (hl : w.params.followText "set-order" = true ∨ t2.led = true) {wasDummy : Bool} {R : Option Bool → Shared → Prop}
    (hR : ∀ h', Heap.SameBut a s.heap h' → SetX P w h' a S' es1.size → R (some true) { s with heap := h' }) :
    wpAny (model P w) A (do
        storeSet a es1 t2
        if (!wasDummy && t2.tooFull) = true then do
            g (relayAll t2 es1 (SetTable.grown es1.size)).2.2
            storeSet a (relayAll t2 es1 (SetTable.grown es1.size)).1 (relayAll t2 es1 (SetTable.grown es1.size)).2.1
            pure (some true)
          else pure (some true)) R E s := by
  refine wpAny_bind (wpAny_storeSet_of ho hd ?_ (fits_of_scanBound hb1))
  have ho1 := store_at (es' := es1) (t' := t2) ho hd
  have sb1 := Heap.SameBut.update s.heap a (Obj.putSet es1 t2)
  split
  · have pm := relayAll_perm t2 es1 (SetTable.grown es1.size)
    have hf3 := relayAll_fits t2 es1 (SetTable.grown es1.size)
    have hr3 := relayAll_ris t2 es1 (SetTable.grown es1.size)
    have hl3 := relayAll_led t2 es1 (SetTable.grown es1.size)
    generalize relayAll t2 es1 (SetTable.grown es1.size) = Z at pm hf3 hr3 hl3 ⊢
    obtain ⟨es2, t3, gave⟩ := Z
    dsimp only at pm hf3 hr3 hl3 ⊢
    have hsz : es2.size = es1.size := by rw [← Array.length_toList, pm.length_eq, Array.length_toList]
    have hb2 : es2.size < scanBound := by rw [hsz]; exact hb1
    refine wpAny_bind (hg _ _ _ ?_)
    refine wpAny_bind (wpAny_storeSet_of ho1 rfl ?_ (fits_of_scanBound hb2))
    have ho2 := store_at (es' := es2) (t' := t3) ho1 rfl
    refine wpAny_pure (hR _ (sb1.trans (Heap.SameBut.update _ a _)) ?_)
    exact ⟨_, es2, _, t3, ho2, hex, rfl, fun e he => g1 e (pm.mem_iff.mp he), (pm.map keyOfS).nodup_iff.mpr nd1, fun k => (m1 k).trans (pm.map keyOfS).mem_iff.symm, hb2, hf3, hsz, hr3,
      hl.imp id fun z => by rw [hl3]; exact z⟩
  · exact wpAny_pure (hR _ sb1 ⟨_, es1, _, t2, ho1, hex, rfl, g1, nd1, m1, hb1, hf2, rfl, hr, hl⟩)

theorem setX_add_hashed {k : Str} {tk : Tok} {Q : Bool → Shared → Prop} (R : SetX P w s.heap a S n) (room : n + 1 < scanBound)
    (hQ : ∀ h', Heap.SameBut a s.heap h' → SetX P w h' a (fun j => S j || decide (j = k)) (if S k = true then n else n + 1) → Q (!S k) { s with heap := h' }) :
    wpAny (model P w) A (setAddHashed a (.str k tk) ((PySem.strKind P w).hash k)) Q E s := by
  obtain ⟨o, es, ep, t, ho, hex, hd, g, nd, hm, hb, hf, hn, hr, hl⟩ := R
  have hkey : (PySem.strKind P w).is k (.str k tk) = true := PySem.strKind_is P w k tk
  have hsc : (Value.str k tk).scannable = true := rfl
  have hel : ElemsOf (PySem.strKind P w) es.toList := goodS_elems g
  unfold setAddHashed setAddHashedIn
  refine wpAny_holding (wpAny_bind (wpAny_setState_of ho hd hf ?_))
  dsimp only
  rw [byScan_of hsc hb hel]
  simp only [↓reduceIte]
  unfold setAddByScan
  refine wpAny_bind ?_
  refine wpAny_bind (wpAny_rule ?_)
  refine wpAny_bind (wpAny_setScan_of hkey ho hd hf hel ?_)
  cases hfi : List.findIdx? (fun e => (PySem.strKind P w).is k e.2) es.toList with
  | some j =>
    dsimp only
    obtain ⟨hj, pj, _⟩ := List.findIdx?_eq_some_iff_getElem.mp hfi
    have hSk : S k = true := (hm k).2 ((goodS_mem (P := P) (w := w) g k).2 ⟨es.toList[j], List.getElem_mem hj, pj⟩)
    refine wpAny_pure (wpAny_pure ?_)
    have q := hQ s.heap (Heap.SameBut.refl a s.heap) ⟨o, es, ep, t, ho, hex, hd, g, nd, fun i => by
      rw [Bool.or_eq_true, decide_eq_true_eq, ← hm i]
      exact ⟨fun z => z.elim id (fun e => e ▸ hSk), .inl⟩, hb, hf, by rw [if_pos hSk]; exact hn, hr, hl⟩
    rw [hSk] at q
    exact q
  | none =>
    dsimp only
    have hnk : k ∉ es.toList.map keyOfS := fun z => by
      obtain ⟨e, he, q⟩ := (goodS_mem (P := P) (w := w) g k).1 z
      have c := List.findIdx?_eq_none_iff.mp hfi e he
      rw [q] at c
      cases c
    have hSk : S k = false := by
      cases q : S k with
      | false => rfl
      | true => exact absurd ((hm k).1 q) hnk
    have hgw : ∀ (b : Bool) {s₁ : Shared} {Q' : Unit → Shared → Prop}, Q' () s₁ → wpAny (model P w) A (match b with | true => rule "set.scan.the-table-gave-way" | false => pure ()) Q' E s₁ :=
      fun b s₁ Q' q => by cases b <;> first | exact wpAny_pure q | exact wpAny_rule q
    have pm := layNew_perm t es ((PySem.strKind P w).hash k) (.str k tk)
    have hf1 := layNew_fits t es ((PySem.strKind P w).hash k) (.str k tk)
    have hr1 := layNew_ris t es ((PySem.strKind P w).hash k) (.str k tk) hr
    have hl1 := layNew_led t es ((PySem.strKind P w).hash k) (.str k tk)
    generalize layNew t es ((PySem.strKind P w).hash k) (.str k tk) = Z at pm hf1 hr1 hl1 ⊢
    obtain ⟨es1, t1, wasDummy, gave⟩ := Z
    dsimp only at pm hf1 hr1 hl1 ⊢
    rw [Array.toList_push] at pm
    have pc : es1.toList.Perm (((PySem.strKind P w).hash k, Value.str k tk) :: es.toList) := pm.trans (List.perm_append_singleton _ _)
    have pk : (es1.toList.map keyOfS).Perm (k :: es.toList.map keyOfS) := pc.map keyOfS
    have g1 : ∀ e ∈ es1.toList, GoodS P w e := fun e he => by
      rcases List.mem_cons.mp (pc.mem_iff.mp he) with z | z
      · rw [z]; exact ⟨k, tk, rfl, rfl⟩
      · exact g e z
    have nd1 : (es1.toList.map keyOfS).Nodup := pk.nodup_iff.mpr (List.nodup_cons.mpr ⟨hnk, nd⟩)
    have m1 : ∀ i, (S i || decide (i = k)) = true ↔ i ∈ es1.toList.map keyOfS := fun i => by
      rw [Bool.or_eq_true, decide_eq_true_eq, hm i, pk.mem_iff, List.mem_cons]
      exact Or.comm
    have hsz : es1.size = n + 1 := by rw [← Array.length_toList, pc.length_eq, List.length_cons, Array.length_toList, hn]
    have hb1 : es1.size < scanBound := by rw [hsz]; exact room
    have hled : w.params.followText "set-order" = true ∨ t1.led = true := hl.imp id fun z => by rw [hl1]; exact z
    have fin : ∀ h', Heap.SameBut a s.heap h' → SetX P w h' a (fun j => S j || decide (j = k)) es1.size → Q true { s with heap := h' } := fun h' sb r => by
      have q := hQ h' sb
      rw [hSk] at q
      rw [hsz] at r
      exact q r
    refine wpAny_bind (hgw _ ?_)
    split
    · refine wpAny_bind ?_
      rw [hashByValue_scannable 8 hsc]
      refine wpAny_pure ?_
      refine setX_add_tail ?_ ho hex hd g1 nd1 m1 hb1 ?_ ?_ ?_ ?_
      · intro b s₁ Q' q; cases b <;> first | exact wpAny_pure q | exact wpAny_rule q
      · first | (split <;> first | exact hf1 | exact SetTable.fits_plain_off hf1) | exact hf1
      · first | (split <;> exact hr1) | exact hr1
      · first | (split <;> exact hled) | exact hled
      · intro h' sb r; dsimp only; exact wpAny_pure (fin h' sb r)
    · refine wpAny_bind (wpAny_pure ?_)
      simp only [↓reduceIte]
      refine setX_add_tail ?_ ho hex hd g1 nd1 m1 hb1 hf1 hr1 hled ?_
      · intro b s₁ Q' q; cases b <;> first | exact wpAny_pure q | exact wpAny_rule q
      · intro h' sb r; dsimp only; exact wpAny_pure (fin h' sb r)

end
theorem setX_new_at {w : World} {h : Heap} {a : Addr} {ns : List Str} (ho : h.get? a = some { cls := .type "set", dict := none, data := .set #[] 0 (.fresh 0 0 (!w.params.followText "set-order")) }) : SetX P w h a (fun j => decide (j ∈ ns.take 0)) 0 :=
  ⟨_, #[], 0, _, ho, ⟨rfl, rfl, rfl⟩, rfl, (fun e he => by simp at he), (by simp), (fun k => by simp), (by decide), (by rfl), rfl, List.Pairwise.nil, by
    show _ ∨ (!w.params.followText "set-order") = true
    cases w.params.followText "set-order"
    · exact .inr rfl
    · exact .inl rfl⟩
section
variable {P : Program} {w : World} {A : Around} {E : Value → Shared → Prop} {s : Shared}
theorem set_update_strs {I : Addr} {fp wr : List Addr} {G : Array GenState → Array GenState → Prop} {n : Nat} {Pv : Nat → Value → Prop} {St : Nat → Shared → Prop} {R : Result → Shared → Prop}
    (W : WalksS P w A.in1 I fp wr G n Pv St) (S : Addr) (hSf : S ∉ fp) (ns : List Str) (hn : n = ns.length) (hb : ns.length + 1 < scanBound) (hval : ∀ i v, Pv i v → ∃ k t, ns[i]? = some k ∧ v = .str k t) :
    ∀ (k i : Nat) (s : Shared), n - i = k → i ≤ n → St i s → (∃ c, c ≤ i ∧ SetX P w s.heap S (fun j => decide (j ∈ ns.take i)) c) →
      (∀ s' c, Moved (S :: wr) G s s' → c ≤ n → SetX P w s'.heap S (fun j => decide (j ∈ ns)) c → R (.ok (.ret .none)) s') →
      codeAny (model P w) A (.builtin "set.update.loop" ⟨[.ref S, .ref I], []⟩) R s := by
  have hSw : S ∉ wr := fun h => hSf (W.sub _ h)
  have hsub : ∀ b ∈ wr, b ∈ S :: wr := fun b hb => List.mem_cons_of_mem _ hb
  intro k
  induction k with
  | zero =>
    intro i s hk' hi hst ⟨c, hc, hS⟩ hR
    have hin : i = n := by omega
    subst hin
    refine codeAny_builtin F.entry_set_update_loop ?_
    rw [Around.under_plainId F.plain_set_update_loop _]
    show wpAny _ A.in1 (pyNext (.ref I) >>= _) _ _ s
    refine wpAny_bind (W.done s _ _ hst fun s' hm => ?_)
    show wpAny _ A.in1 (ret Value.none) _ _ s'
    have e : ns.take i = ns := List.take_of_length_le (by omega)
    rw [e] at hS
    exact wpAny_pure (hR s' c (hm.mono hsub) hc (hS.at fun o e => hm.heap S o hSw e))
  | succ k ih =>
    intro i s hk' hi hst ⟨c, hc, hS⟩ hR
    have hlt : i < n := by omega
    refine codeAny_builtin F.entry_set_update_loop ?_
    rw [Around.under_plainId F.plain_set_update_loop _]
    show wpAny _ A.in1 (pyNext (.ref I) >>= _) _ _ s
    refine wpAny_bind (W.item i s _ _ hlt hst fun v s' hP hst' hm => ?_)
    obtain ⟨z, t, hz, rfl⟩ := hval i v hP
    have hS' : SetX P w s'.heap S (fun j => decide (j ∈ ns.take i)) c := hS.at fun o e => hm.heap S o hSw e
    show wpAny _ A.in1 (holding [Value.str z t] (setAdd S (.str z t)) >>= _) _ _ s'
    refine wpAny_bind (wpAny_holding ?_)
    unfold setAdd
    refine wpAny_holding ?_
    refine wpAny_bind ((PySem.strKind P w).pyHash (k := z) (PySem.strKind_is _ _ _ _) ?_)
    refine setX_add_hashed (s := { s' with toks := s'.toks + 1 }) hS' (by omega) fun h' hsb hS2 => ?_
    have hS3 : SetX P w h' S (fun j => decide (j ∈ ns.take (i + 1))) (if decide (z ∈ ns.take i) = true then c else c + 1) := hS2.congr fun j => by
      rw [List.take_add_one, hz]
      simp [List.mem_append]
    have hc3 : (if decide (z ∈ ns.take i) = true then c else c + 1) ≤ i + 1 := by
      split <;> omega
    refine wpAny_pure ⟨plainId_quiet F.plain_set_update_loop _, ih (i + 1) _ (by omega) hlt (W.frame _ s' _ _ hst' (Nat.le_succ _) fun b hb o e => ?_) ⟨_, hc3, hS3⟩ fun s'' c2 hm'' hc'' hS'' => ?_⟩
    · rw [hsb.2 b (fun h : b = S => hSf (by rw [← h]; exact hb))]; exact e
    · refine hR s'' c2 (Moved.trans W.gtrans ((hm.mono hsub).then_heap (Nat.le_succ _) fun b o hb e => ?_) hm'') hc'' hS''
      rw [hsb.2 b (fun h : b = S => hb (by rw [h]; exact List.mem_cons_self))]; exact e

set_option maxRecDepth 100000 in
set_option maxHeartbeats 3200000 in
theorem call_set_listS {l : Addr} {items : Array Value} (ns : List Str) {Q : Value → Shared → Prop} (hh : A.handled = none) (hl : s.heap.IsList l items) (hit : StrsAre items.toList ns) (hb : ns.length + 1 < scanBound)
    (h : ∀ (h' : Heap) (tk c : Nat), SetX P w h' s.heap.objs.size (fun j => decide (j ∈ ns)) c → c ≤ ns.length → (∀ b o, s.heap.get? b = some o → h'.get? b = some o) → Q (.ref s.heap.objs.size) { s with heap := h', toks := tk }) :
    wpAny (model P w) A (call (.type "set") [.ref l]) Q E s := by
  have hisz : items.size = ns.length := by
    have q := strs_len hit
    rw [Array.length_toList] at q
    exact q
  obtain ⟨c, tl, hmro⟩ := F.called_set.mro
  have hmade := F.called_set.made
  have hsub := F.called_set.sub
  refine wpAny_call (codeAny_of_tree ?_)
  show wpAny _ _ (callAny (.type "set") _) _ _ _
  refine wpAny_pure ⟨Code.quiet_builtin _ (by decide +kernel), codeAny_builtin F.entry_type_call ?_⟩
  rw [Around.under_plain (weight_type_call_type "set" [.ref l] []) rfl]
  have h1 := F.called_set.notType
  have h2 := F.called_set.canCreate
  have hct := F.typeCall_set_1 (.ref l)
  repeat (any_goals (first | assumption | wp_step))

  refine codeAny_mono (code_set_led1 (.ref l) (E := E) (Q₁ := fun obj s₁ => obj = .ref s.heap.objs.size ∧ s₁ = { s with heap := s.heap.push { cls := .type "set", dict := none, data := .set #[] 0 (.fresh 0 0 (!w.params.followText "set-order")) } }) ⟨rfl, rfl⟩) fun r s₁ hr => ?_
  cases r with
  | error e => exact hr
  | ok fl =>
    cases fl with
    | ret obj =>
      obtain ⟨rfl, rfl⟩ := hr
      have hS : (s.heap.push { cls := .type "set", dict := none, data := .set #[] 0 (.fresh 0 0 (!w.params.followText "set-order")) }).get? s.heap.objs.size = some { cls := .type "set", dict := none, data := .set #[] 0 (.fresh 0 0 (!w.params.followText "set-order")) } := Heap.get?_push_size _ rfl
      have hT : Shared.TypeIs { s with heap := s.heap.push { cls := .type "set", dict := none, data := .set #[] 0 (.fresh 0 0 (!w.params.followText "set-order")) } } (.ref s.heap.objs.size) "set" := ⟨_, hS, rfl⟩
      have hli := F.called_set.init.lookup
      have hbi := F.called_set.init.bind (.ref s.heap.objs.size)
      repeat (any_goals (first | assumption | wp_step))

      refine codeAny_mono (codeAny_call_builtin (R := wants (fun r s₂ => r = .none ∧ ∃ h' tk c, s₂ = { s with heap := h', toks := tk } ∧ SetX P w h' s.heap.objs.size (fun j => decide (j ∈ ns)) c ∧ c ≤ ns.length ∧
          (∀ b o, s.heap.get? b = some o → h'.get? b = some o)) E) F.called_set.init.plain F.entry_set_init (check_set_init_1 hT ?_)) fun r₂ s₂ hr₂ => ?_
      · obtain ⟨ol, hol, hcl, nl, hdl⟩ := hl
        obtain ⟨ocls, odict, odata, oslots⟩ := ol
        simp only at hcl hdl
        subst hcl; subst hdl
        have hol' : (s.heap.push { cls := .type "set", dict := none, data := .set #[] 0 (.fresh 0 0 (!w.params.followText "set-order")) }).get? l = some { cls := .type "list", dict := odict, data := .seq items nl, slots := oslots } := Heap.get?_push_of_some _ hol
        have hsls := F.sub_list_set
        have hslf := F.sub_list_frozenset
        have hne : (Value.type "list" == Value.type "dict") = false := by decide
        have hl1 : (s.heap.push { cls := .type "set", dict := none, data := .set #[] 0 (.fresh 0 0 (!w.params.followText "set-order")) }).IsList l items := ⟨_, hol', rfl, nl, rfl⟩
        unfold Builtin.«set.__init__» noKeywords Builtin.Frozenset.updateFrom
        generalize hPI : pyIter = PI
        wp_walk
        subst hPI

        refine wpAny_pyIter_list hl1 ?_
        refine wpAny_bind (wpAny_runValue ?_)
        have hlS : l < s.heap.objs.size := Heap.lt_size hol
        have hh3 : A.in1.in1.in1.handled = none := by simp [hh]
        have hz1 : (s.heap.push { cls := .type "set", dict := none, data := .set #[] 0 (.fresh 0 0 (!w.params.followText "set-order")) }).objs.size = s.heap.objs.size + 1 := Heap.size_push ..
        have hneI : l ≠ (s.heap.push { cls := .type "set", dict := none, data := .set #[] 0 (.fresh 0 0 (!w.params.followText "set-order")) }).objs.size := by
          rw [Heap.size_push]; exact Nat.ne_of_lt (Nat.lt_succ_of_lt hlS)
        have hSf : s.heap.objs.size ∉ [(s.heap.push { cls := .type "set", dict := none, data := .set #[] 0 (.fresh 0 0 (!w.params.followText "set-order")) }).objs.size, l] := by
          rw [Heap.size_push]; simp only [List.mem_cons, List.mem_singleton, List.not_mem_nil, or_false, not_or]
          exact ⟨Nat.ne_of_lt (Nat.lt_succ_self _), Nat.ne_of_gt hlS⟩
        have hval : ∀ (i : Nat) (v : Value), items[i]? = some v → ∃ k t, ns[i]? = some k ∧ v = .str k t := fun i v hv => by
          exact strs_get hit i v (by rw [Array.getElem?_toList]; exact hv)
        refine set_update_strs ((Walks.list hh3 _ l hneI items).toS) s.heap.objs.size
          hSf ns hisz hb hval (items.size - 0) 0 _ (by omega) (Nat.zero_le _)
          ⟨⟨_, Heap.get?_push_size _ rfl, rfl, rfl⟩, (hl1.push _)⟩ ?hS0 ?hR
        case hS0 =>
          have hget : ((s.heap.push { cls := .type "set", dict := none, data := .set #[] 0 (.fresh 0 0 (!w.params.followText "set-order")) }).push { cls := .type "list_iterator", data := .fields #[.ref l, .int 0 0] }).get? s.heap.objs.size
              = some { cls := .type "set", dict := none, data := .set #[] 0 (.fresh 0 0 (!w.params.followText "set-order")) } := Heap.get?_push_of_some _ hS
          exact ⟨0, Nat.le_refl 0, setX_new_at hget⟩
        case hR =>
          intro s' c' hm hc' hS'
          obtain ⟨h', g2, d', tk', os'⟩ := s'
          have eg : g2 = s.gens := hm.gens
          have ed : d' = s.drawn := hm.drawn
          have eo : os' = s.os := hm.os
          subst eg; subst ed; subst eo
          show wpAny _ _ _ _ _ _
          refine wpAny_pure ?_
          show wpAny _ _ (ret Value.none) _ _ _
          rw [hisz] at hc'
          refine wpAny_pure ⟨rfl, h', tk', c', rfl, hS', hc', fun b o e => ?_⟩
          have hb0 : b < s.heap.objs.size := Heap.lt_size e
          have hb1 : b ≠ s.heap.objs.size := Nat.ne_of_lt hb0
          have hb2 : b ≠ (s.heap.push { cls := .type "set", dict := none, data := .set #[] 0 (.fresh 0 0 (!w.params.followText "set-order")) }).objs.size := by
            rw [Heap.size_push]; exact Nat.ne_of_lt (Nat.lt_succ_of_lt hb0)
          exact hm.heap b o (by simp only [List.mem_cons, List.mem_singleton, List.not_mem_nil, or_false, not_or]; exact ⟨hb1, hb2⟩) (Heap.get?_push_of_some _ (Heap.get?_push_of_some _ e))

      · cases r₂ with
        | error e => exact hr₂
        | ok fl₂ =>
          cases fl₂ with
          | ret r =>
            obtain ⟨rfl, h', tk, c', rfl, hS', hc', hk'⟩ := hr₂
            repeat (any_goals (first | assumption | wp_step))
            exact h _ _ _ hS' hc' hk'
          | _ => exact hr₂.elim
    | _ => exact hr.elim

end

theorem strsX_of : ∀ (l : List Value), (∀ v ∈ l, ∃ k tk, v = Value.str k tk) → StrsAre l (l.map fun v => keyOfS (0, v))
  | [], _ => .nil
  | v :: l, h => by
    obtain ⟨k, tk, rfl⟩ := h v List.mem_cons_self
    exact .cons k tk (strsX_of l fun u hu => h u (List.mem_cons_of_mem _ hu))
section
variable {P : Program} {w : World} {A : Around} {E : Value → Shared → Prop} {s : Shared} {a : Addr}
theorem sorted_setS {S : Str → Bool} {n : Nat} {Q : Value → Shared → Prop} (R : SetX P w s.heap a S n) (hh : A.handled = none) (h64 : n < 64)
    (hQ : ∀ s' p (out : Array Value) (c : Nat) (ns : List Str), (∀ b o, s.heap.get? b = some o → s'.heap.get? b = some o) → s'.gens = s.gens → s'.os = s.os → s.heap.objs.size ≤ p →
      s'.heap.get? p = some (seqObj "list" out c) → StrsAre out.toList ns → sortedS ns = true → ns.Nodup → (∀ k, k ∈ ns ↔ S k = true) → ns.length = n → Q (.ref p) s') :
    wpAny (model P w) A (call (.builtin "sorted") [.ref a]) Q E s := by
  obtain ⟨o, es, ep, t, ho, hex, hd, g, nd, hm, hb, hf, hn, hr, hl⟩ := R
  refine Calls.call_function_entry kind_sorted plain_sorted entry_sorted (args_sorted1 _) ?_
  unfold Builtin.«sorted»
  refine wpAny_bind (m := checkCount "sorted" 1 1 _) (wpAny_pure ?_)
  refine wpAny_bind (collect_set (A := A.in1) hh ⟨o, ho, hex.1, hd⟩ hf hb hr hl fun s1 vs k1 hz g1 o1 pm => ?_)
  have hvl : vs.length = n := by rw [pm.length_eq, List.length_map, Array.length_toList]; exact hn
  have hS : StrsAre vs (vs.map fun v => keyOfS (0, v)) := strsX_of vs fun v hv => by
    obtain ⟨e, he, q⟩ := List.mem_map.mp (pm.mem_iff.mp hv)
    obtain ⟨k, tk, h1, _⟩ := g e he
    exact ⟨k, tk, by rw [← q]; exact h1⟩
  have pk : (vs.map fun v => keyOfS (0, v)).Perm (es.toList.map keyOfS) := by
    have q := pm.map fun v => keyOfS (0, v)
    rw [List.map_map] at q
    exact q
  refine wpAny_bind (wpAny_newList ?_ (by rw [hvl, sizeLine_eq]; omega))
  have hoL : (s1.heap.push (seqObj "list" vs.toArray 0)).get? s1.heap.objs.size = some (seqObj "list" vs.toArray 0) := Heap.get?_push_size _ rfl
  refine wpAny_bind (wpAny_holding (wpAny_call_entry slot_list_sort ⟨_, hoL, rfl⟩ entry_list_sort
    (list_sort_treeK strKind_oneLt (s := { s1 with heap := s1.heap.push (seqObj "list" vs.toArray 0) }) hoL hS.keysOf (fun v₁ v₂ rest e => keyKind_strs (by rw [← e]; exact hS)) (by rw [hvl]; exact h64) fun st' hp hs => ⟨_, rfl, ?_⟩)
    (args_list_sort _)))
  obtain ⟨ys, g1', g2, g3⟩ := sorted_out_str hS hp hs
  obtain ⟨c, hc⟩ := sortedHeap_at (vs := vs) (out := (arrOf st').map (·.2)) hoL
  have pn : ys.Perm (es.toList.map keyOfS) := g2.trans pk
  refine wpAny_pure ⟨_, rfl, hQ _ s1.heap.objs.size _ c ys (fun b u e => ?_) g1 o1 hz hc g1' g3 (pn.nodup_iff.mpr nd) (fun k => by rw [pn.mem_iff, ← hm k]) ?_⟩
  · have q := k1 b u e
    have hlt := Heap.lt_size q
    show (sortedHeap (s1.heap.push (seqObj "list" vs.toArray 0)) s1.heap.objs.size vs ((arrOf st').map (·.2))).get? b = some u
    rw [sortedHeap_old (Nat.ne_of_lt hlt) (by rw [size_push']; exact Nat.lt_succ_of_lt hlt)]
    exact Heap.get?_push_of_some _ q
  · rw [pn.length_eq, List.length_map, Array.length_toList]; exact hn
end
/-- the set of texts at a -/
def SetSO (P : Program) (w : World) (a : Addr) (S : Str → Bool) (n : Nat) : HO := .ext fun h => SetX P w h a S n
theorem setSO_new {w : World} {P : Program} {H : Hp} {h : Heap} {a : Addr} {S : Str → Bool} {n : Nat} (R : SetX P w h a S n) : ObjOk P w H h a (SetSO P w a S n) := by
  have ⟨o, es, ep, t, ho, r⟩ := R
  refine ⟨R, ⟨o, ho⟩, fun h1 h2 p k => ?_⟩
  exact SetX.at p k
section
variable {X : Cx}
/-- set(xs), xs a list of texts -/
def rSetOfS (K : PySem.W.Frag) (P : Program) (w : World) : List V → Hp → VK → Prop := fun xs H Q => ∃ (l : Addr) (ns : List Str), xs = [V.ref l] ∧ SqL K H l (ns.map V.str) ∧ ns.length + 1 < scanBound ∧
  ∀ a n, H a = none → n ≤ ns.length → Q (.ref a) (upd H a (SetSO P w a (fun j => decide (j ∈ ns)) n))
theorem cr_setOfS (hc : X.calm = true) : CallR X (.type "set") (rSetOfS X.K X.prog X.w) := by
  intro pins s σ H xs us Q I r h
  obtain ⟨l, ns, rfl, hl, hf, q⟩ := h
  rw [Vals.ref1 r]
  obtain ⟨its, rv, pl, hz⟩ := I.list hl
  have hn : H s.heap.objs.size = none := I.hok.fresh (Nat.le_refl _)
  refine call_set_listS (P := X.prog) (w := X.w) ns (I.ok.hd hc) pl.isList (by simpa using rv.strs) hf fun h' tk c R hc k => ?_
  exact ⟨.ref s.heap.objs.size, _, I.laid (t' := tk) k (Nat.le_refl _) (setSO_new R), rfl, q _ c hn hc⟩
def rSortedSet (P : Program) (w : World) : List V → Hp → VK → Prop := fun vs H Q => ∃ (a : Addr) (S : Str → Bool) (n : Nat), vs = [V.ref a] ∧ H a = some (SetSO P w a S n) ∧ n < 64 ∧
  ∀ (ns : List Str) (p : Addr), sortedS ns = true → ns.Nodup → (∀ k : Str, k ∈ ns ↔ S k = true) → ns.length = n → H p = none → Q (.ref p) (upd H p (.lst (ns.map V.str)))
theorem cr_sortedSetS (hc : X.calm = true) : CallR X (.builtin "sorted") (rSortedSet X.prog X.w) := by
  intro pins s σ H vs us Q I r h
  obtain ⟨a, S, n, rfl, ha, h64, q⟩ := h
  have R : SetX X.prog X.w s.heap a S n := (I.hok a _ ha).1
  rw [Vals.ref1 r]
  refine sorted_setS R (I.ok.hd hc) h64 fun s' p out c ns k g o hp hg hi hs hd hm hl => ?_
  have hlen : (ns.map V.str).length ≤ sizeLine := by rw [List.length_map, hl, sizeLine_eq]; omega
  have hn : H p = none := I.hok.fresh hp
  have J : Inv X pins σ (upd H p (.lst (ns.map V.str))) { s with heap := s'.heap, gens := s'.gens, drawn := s'.drawn, toks := s'.toks } :=
    I.call (ch := []) (Un.laid k hp hn) (I.hok.laid k hp ⟨hlen, out.toList, c, vals_of_strs hi, hg⟩) (by rw [g]; exact I.bare) (fun _ z => nomatch z)
  have e : s' = { s with heap := s'.heap, gens := s'.gens, drawn := s'.drawn, toks := s'.toks } := by
    cases s'
    cases s
    cases o
    rfl
  rw [e]
  exact ⟨.ref p, _, J, rfl, q ns p hs hd hm hl hn⟩
end
end Dn

/-! DnO: order of texts, sorting (pure). -/
namespace Dn
theorem ltS_irrefl : ∀ x : List Nat, ltS x x = false
  | [] => rfl
  | a :: r => by unfold ltS; rw [if_pos rfl]; exact ltS_irrefl r
theorem ltS_trans : ∀ {x y z : List Nat}, ltS x y = true → ltS y z = true → ltS x z = true
  | [], [], _, h, _ => by simp [ltS] at h
  | _ :: _, [], _, h, _ => by simp [ltS] at h
  | [], b :: y, z, _, h => by cases z with
    | nil => simp [ltS] at h
    | cons c z => rfl
  | a :: x, b :: y, [], _, h => by simp [ltS] at h
  | a :: x, b :: y, c :: z, h1, h2 => by
    unfold ltS at h1 h2 ⊢
    by_cases e1 : a = b
    · subst e1
      rw [if_pos rfl] at h1
      by_cases e2 : a = c
      · subst e2; rw [if_pos rfl] at h2 ⊢; exact ltS_trans h1 h2
      · rw [if_neg e2] at h2 ⊢; exact h2
    · rw [if_neg e1] at h1
      by_cases e2 : b = c
      · subst e2; rw [if_neg e1]; exact h1
      · rw [if_neg e2] at h2
        have h1 := of_decide_eq_true h1
        have h2 := of_decide_eq_true h2
        rw [if_neg (by omega)]; exact decide_eq_true (by omega)
theorem ltS_tri : ∀ {x y : List Nat}, ltS x y = false → ltS y x = false → x = y
  | [], [], _, _ => rfl
  | [], _ :: _, h, _ => by simp [ltS] at h
  | _ :: _, [], _, h => by simp [ltS] at h
  | a :: x, b :: y, h1, h2 => by
    unfold ltS at h1 h2
    by_cases e : a = b
    · subst e; rw [if_pos rfl] at h1 h2; rw [ltS_tri h1 h2]
    · rw [if_neg e] at h1; rw [if_neg (Ne.symm e)] at h2
      have h1 := of_decide_eq_false h1
      have h2 := of_decide_eq_false h2
      omega
theorem ltS_asym {x y : List Nat} (h : ltS x y = true) : ltS y x = false := by
  cases e : ltS y x with
  | false => rfl
  | true => have := ltS_trans h e; rw [ltS_irrefl] at this; cases this
/-- not falling -/
def leS (x y : List Nat) : Prop := ltS y x = false
theorem leS_trans {x y z : List Nat} (h1 : leS x y) (h2 : leS y z) : leS x z := by
  unfold leS at *
  cases e : ltS z x with
  | false => rfl
  | true =>
    cases e2 : ltS x y with
    | true => have := ltS_trans e e2; rw [h2] at this; cases this
    | false => have := ltS_tri e2 h1; subst this; rw [h2] at e; cases e
theorem leS_of_lt {x y : List Nat} (h : ltS x y = true) : leS x y := ltS_asym h
def SortedT (l : List (List Nat)) : Prop := l.Pairwise leS
theorem sorted_eq {l m : List (List Nat)} (h1 : SortedT l) (h2 : SortedT m) (p : l.Perm m) : l = m :=
  List.Perm.eq_of_pairwise (le := leS) (fun a b _ _ h k => ltS_tri k h) h1 h2 p
theorem insS_perm {α : Type} (lt : α → α → Bool) (x : α) : ∀ l : List α, (insS lt x l).Perm (x :: l)
  | [] => .refl _
  | y :: r => by
    unfold insS
    split
    · exact .refl _
    · exact ((insS_perm lt x r).cons y).trans (List.Perm.swap x y r)
theorem insS_sorted (x : List Nat) : ∀ {l : List (List Nat)}, SortedT l → SortedT (insS ltS x l)
  | [], _ => List.pairwise_singleton ..
  | y :: r, h => by
    obtain ⟨h1, h2⟩ := List.pairwise_cons.mp h
    unfold insS
    split
    · rename_i e
      refine List.pairwise_cons.mpr ⟨fun z hz => ?_, h⟩
      rcases List.mem_cons.mp hz with rfl | hz
      · exact leS_of_lt e
      · exact leS_trans (leS_of_lt e) (h1 z hz)
    · rename_i e
      refine List.pairwise_cons.mpr ⟨fun z hz => ?_, insS_sorted x h2⟩
      rcases List.mem_cons.mp ((insS_perm ltS x r).mem_iff.mp hz) with rfl | hz
      · show ltS _ _ = false; simpa using e
      · exact h1 z hz
theorem sortB_go {l acc : List (List Nat)} : SortedT acc → SortedT (l.foldl (fun acc x => insS ltS x acc) acc) ∧ (l.foldl (fun acc x => insS ltS x acc) acc).Perm (l ++ acc) := by
  induction l generalizing acc with
  | nil => exact fun h => ⟨h, .refl _⟩
  | cons x r ih =>
    intro h
    obtain ⟨h1, h2⟩ := ih (insS_sorted x h)
    exact ⟨h1, h2.trans (((insS_perm ltS x acc).append_left r).trans List.perm_middle)⟩
theorem sortB_sorted (l : List (List Nat)) : SortedT (sortB ltS l) := (sortB_go List.Pairwise.nil).1
theorem sortB_perm (l : List (List Nat)) : (sortB ltS l).Perm l := by have := (sortB_go (l := l) (acc := []) List.Pairwise.nil).2; rwa [List.append_nil] at this
theorem sortB_of {l m : List (List Nat)} (h : SortedT m) (p : m.Perm l) : m = sortB ltS l := sorted_eq h (sortB_sorted l) (p.trans (sortB_perm l).symm)
theorem nubS_go {l acc : List (List Nat)} : SortedT acc → acc.Nodup → let r := l.foldl (fun acc x => if x ∈ acc then acc else insS ltS x acc) acc
    SortedT r ∧ r.Nodup ∧ ∀ x, x ∈ r ↔ x ∈ l ∨ x ∈ acc := by
  induction l generalizing acc with
  | nil => exact fun h n => ⟨h, n, fun x => by simp⟩
  | cons y r ih =>
    intro h n
    by_cases e : y ∈ acc
    · obtain ⟨h1, h2, h3⟩ := ih h n
      simp only [List.foldl_cons, if_pos e]
      refine ⟨h1, h2, fun x => ?_⟩
      rw [h3 x, List.mem_cons]
      constructor
      · rintro (z | z)
        · exact .inl (.inr z)
        · exact .inr z
      · rintro ((z | z) | z)
        · rw [z]; exact .inr e
        · exact .inl z
        · exact .inr z
    · have p := insS_perm ltS y acc
      obtain ⟨h1, h2, h3⟩ := ih (insS_sorted y h) (p.nodup_iff.mpr (List.nodup_cons.mpr ⟨e, n⟩))
      simp only [List.foldl_cons, if_neg e]
      refine ⟨h1, h2, fun x => ?_⟩
      rw [h3 x, p.mem_iff, List.mem_cons, List.mem_cons]
      constructor
      · rintro (z | z | z)
        · exact .inl (.inr z)
        · exact .inl (.inl z)
        · exact .inr z
      · rintro ((z | z) | z)
        · exact .inr (.inl z)
        · exact .inl z
        · exact .inr (.inr z)
theorem nubS_ok (l : List (List Nat)) : SortedT (nubS l) ∧ (nubS l).Nodup ∧ ∀ x, x ∈ nubS l ↔ x ∈ l := by
  obtain ⟨h1, h2, h3⟩ := nubS_go (l := l) (acc := []) List.Pairwise.nil List.nodup_nil
  exact ⟨h1, h2, fun x => (h3 x).trans (by simp)⟩
theorem nubS_of {l m : List (List Nat)} (h : SortedT m) (n : m.Nodup) (e : ∀ x, x ∈ m ↔ x ∈ l) : m = nubS l := by
  obtain ⟨h1, h2, h3⟩ := nubS_ok l
  exact sorted_eq h h1 ((List.perm_ext_iff_of_nodup n h2).mpr fun x => by rw [e x, h3 x])
/-- sorted(list of texts), sorted(dict) -/
def sortD : List D → Option D
  | [.list xs] => (strsD xs).bind fun ls => if ls.length < 64 then some (.list ((sortB ltS ls).map D.str)) else none
  | [.dict kvs] => if kvs.length < 64 then some (.list ((sortB ltS (kvs.map (·.1))).map D.str)) else none
  | _ => none
/-- sorted(set(list of texts)) -/
def sortSetD : List D → Option D
  | [.list xs] => (strsD xs).bind fun ls => if ls.length < 63 then some (.list ((nubS ls).map D.str)) else none
  | _ => none
/-- d.update(e) -/
def updateD : D → List D → Option D
  | .dict kvs, [.dict more] => if kvs.length + more.length ≤ SZ then some (.dict (mergeD kvs more)) else none
  | _, _ => none
end Dn
namespace Dn
/-- the word of a deed: told, or refused and f of its class -/
def eTry (f : Nat → D) (m : ME) : ME := fun env st => match m env st with
  | .ok d st1 => .ok (.tup [.str [116, 111, 108, 100], d]) st1
  | .exc c st1 => if c < 3 then .ok (.tup [.str [114, 101, 102, 117, 115, 101, 100], f c]) st1 else .bad
  | .bad => .bad
def fWord (c : Nat) : D := .int (c : Nat)
def fTold (j c : Nat) : D := .bool (decide (c = j))
def fTwice (_ : Nat) : D := .non
/-- a walk over a built-in of several values -/
def iA (g : List D → Option (List D)) (ms : MA) : MI := fun env st => (ms env st).bind fun xs st => ofOpt (g xs) st
def enumA : List D → Option (List D)
  | [.list xs] => some (enumL 0 xs)
  | [.tup xs] => some (enumL 0 xs)
  | _ => none
def zipA : List D → Option (List D)
  | [.list xs, .list ys] => some (zipL xs ys)
  | [.tup xs, .tup ys] => some (zipL xs ys)
  | [.tup xs, .list ys] => some (zipL xs ys)
  | _ => none
theorem enumGet : ∀ (xs : List D) (k i : Nat), (enumL k xs)[i]? = (xs[i]?).map fun d => D.tup [.int ((k + i : Nat) : Int), d]
  | [], k, i => by simp [enumL]
  | x :: xs, k, 0 => by simp [enumL]
  | x :: xs, k, i + 1 => by
    have := enumGet xs (k + 1) i
    simp only [enumL, List.getElem?_cons_succ]
    rw [this, show k + 1 + i = k + (i + 1) by omega]
theorem enumLen : ∀ (xs : List D) (k : Nat), (enumL k xs).length = xs.length
  | [], _ => rfl
  | x :: xs, k => by simp [enumL, enumLen xs (k + 1)]
theorem zipGet : ∀ (xs ys : List D) (i : Nat) (d : D), (zipL xs ys)[i]? = some d → ∃ x y, xs[i]? = some x ∧ ys[i]? = some y ∧ d = .tup [x, y]
  | [], ys, i, d, h => by simp [zipL] at h
  | x :: xs, [], i, d, h => by simp [zipL] at h
  | x :: xs, y :: ys, 0, d, h => by simp [zipL] at h; exact ⟨x, y, rfl, rfl, h.symm⟩
  | x :: xs, y :: ys, i + 1, d, h => by
    simp only [zipL, List.getElem?_cons_succ] at h ⊢
    exact zipGet xs ys i d h
theorem zipLen : ∀ (xs ys : List D), (zipL xs ys).length = min xs.length ys.length
  | [], ys => by simp [zipL]
  | x :: xs, [] => by simp [zipL]
  | x :: xs, y :: ys => by simp [zipL, zipLen xs ys]
/-- a sequence times a number -/
def repD : D → D → Option D
  | .list xs, .int k => if 0 ≤ k ∧ k ≤ 1000 ∧ xs.length ≤ 1000 then some (.list (List.replicate k.toNat xs).flatten) else none
  | .tup xs, .int k => if xs ≠ [] ∧ 0 ≤ k ∧ k ≤ 1000 ∧ xs.length ≤ 1000 then some (.tup (List.replicate k.toNat xs).flatten) else none
  | _, _ => none
end Dn

/-! Dn13: sorted, dict of pairs, update, reversed slices. -/
namespace Dn
open PySem PySem.Spec PyProof.Rows L2
theorem ltCps_ltS : ∀ (x y : List Nat), ltCps x y = ltS x y
  | [], [] => rfl
  | [], _ :: _ => rfl
  | _ :: _, [] => rfl
  | a :: x, b :: y => by
    unfold ltCps ltS
    by_cases h : a = b
    · subst h; rw [if_pos rfl, ← ltCps_ltS x y]; simp
    · rw [if_neg h]; simp [h]
theorem sortedS_T : ∀ {l : List Str}, sortedS l = true → SortedT (l.map fun x => x.cps.toList)
  | [], _ => List.Pairwise.nil
  | x :: l, h => by
    have go : ∀ (l : List Str) (x : Str), risingS x l = true → SortedT ((x :: l).map fun x => x.cps.toList) := by
      intro l
      induction l with
      | nil => intro x _; exact List.pairwise_singleton ..
      | cons y r ih =>
        intro x h
        simp only [risingS, Bool.and_eq_true] at h
        have h2 := ih y h.2
        have le : leS x.cps.toList y.cps.toList := by
          show ltS _ _ = false
          rw [← ltCps_ltS]; simpa using h.1
        refine List.pairwise_cons.mpr ⟨fun z hz => ?_, h2⟩
        rcases List.mem_cons.mp hz with rfl | hz
        · exact le
        · exact leS_trans le ((List.pairwise_cons.mp h2).1 z hz)
    exact go l x h
section
variable {G : Gc} {E : XK} {N : En} {O : List Nat} {X : Cx} {e a b c f : Expr} {es : List Expr} {m ma mb mc : ME} {ms : MA} {kd rk : Kd} {pos p p2 q1 apos cpos : Pos} {x : Str} {i : Nat}
theorem RpAll.strsV {K : PySem.W.Frag} {F : Hp} {os : List Addr} : ∀ {vs : List V} {ls : List (List Nat)}, RpAll K F os vs (ls.map D.str) → ∃ xs : List Str, vs = xs.map V.str ∧ xs.map (fun x => x.cps.toList) = ls ∧ ∀ l ∈ ls, StrOk l
  | _, [], .nil => ⟨[], rfl, rfl, fun _ h => nomatch h⟩
  | _, l :: ls, .cons h t => by
    obtain ⟨xs, rfl, h2, h3⟩ := RpAll.strsV t
    cases h with
    | @str z _ ez oz => exact ⟨z :: xs, rfl, by simp [ez, h2], fun l' hl => (List.mem_cons.mp hl).elim (fun z => z ▸ oz) (h3 l')⟩
theorem rp_strs {K : PySem.W.Frag} {F : Hp} {os : List Addr} : ∀ {xs : List Str}, (∀ x ∈ xs, StrOk x.cps.toList) → RpAll K F os (xs.map V.str) ((xs.map fun x => x.cps.toList).map D.str)
  | [], _ => .nil
  | x :: xs, h => .cons (.str rfl (h x List.mem_cons_self)) (rp_strs fun y hy => h y (List.mem_cons_of_mem _ hy))
theorem RpKv.keysV {K : PySem.W.Frag} {F : Hp} {os : List Addr} : ∀ {kvs : List (Key × V)} {ds : List (List Nat × D)}, RpKv K F os kvs ds → ∃ xs : List Str, kvs.map (·.1) = xs.map Sum.inr ∧ xs.map (fun x => x.cps.toList) = ds.map (·.1) ∧ ∀ x ∈ xs, StrOk x.cps.toList
  | _, _, .nil => ⟨[], rfl, rfl, fun _ h => nomatch h⟩
  | _, _, .cons h1 h2 h3 t => by
    obtain ⟨xs, e1, e2, e3⟩ := RpKv.keysV t
    rename_i x l v kvs d ds
    exact ⟨x :: xs, by simp [e1], by simp [e2, h1], fun y hy => (List.mem_cons.mp hy).elim (fun z => z ▸ h1 ▸ h2) (e3 y)⟩
def rSortA (K : PySem.W.Frag) : List V → Hp → VK → Prop := fun xs H Q => rSortedS K xs H Q ∨ (∃ (a : Addr) (kvs : List (Key × V)) (ks : List Str), xs = [.ref a] ∧ Rd H a (.dK kvs) ∧ kvs.map (·.1) = ks.map Sum.inr ∧ ks.length < 64 ∧
    ∀ ys p, ys.Perm ks → sortedS ys = true → H p = none → Q (.ref p) (upd H p (.lst (ys.map V.str))))
theorem perm_ok {ys xs : List Str} (h : ys.Perm xs) (ho : ∀ x ∈ xs, StrOk x.cps.toList) : ∀ x ∈ ys, StrOk x.cps.toList := fun x hx => ho x (h.mem_iff.mp hx)
theorem small_sz {n : Nat} (h : n < 64) : n ≤ SZ := Nat.le_trans (Nat.le_of_lt h) (by decide)
theorem v_sort : VA G .o (rSortA G.K) sortD := by
  intro F H zs st xs ds d Q s S hx hg k
  match ds, hx, hg with
  | [.list ys], hx, hg =>
    obtain ⟨x, rfl, h⟩ := sh1 hx
    obtain ⟨a, vs, rfl, q, r, _⟩ := h.list s
    have hg : ((strsD ys).bind fun ls => if ls.length < 64 then some (Dn.D.list ((sortB ltS ls).map Dn.D.str)) else none) = some d := hg
    cases e : strsD ys with
    | none => rw [e] at hg; cases hg
    | some ls =>
      rw [e] at hg
      have hg : (if ls.length < 64 then some (Dn.D.list ((sortB ltS ls).map Dn.D.str)) else none) = some d := hg
      split at hg
      · rename_i h64
        cases hg
        rw [strs_of e] at r
        obtain ⟨ss, rfl, e2, e3⟩ := r.strsV
        have hl : ss.length = ls.length := by rw [← e2, List.length_map]
        refine .inl ⟨a, ss, rfl, .of q, by rw [hl]; exact h64, fun zs' p' pm so hp => ?_⟩
        have eq : zs'.map (fun x => x.cps.toList) = sortB ltS ls := sortB_of (sortedS_T so) (e2 ▸ pm.map _)
        have ok : ∀ x ∈ zs', StrOk x.cps.toList := fun x hx => e3 _ (by rw [← e2]; exact List.mem_map.mpr ⟨x, pm.mem_iff.mp hx, rfl⟩)
        refine k_newLst s S k (eq ▸ rp_strs ok) ?_ hp
        rw [List.length_map, (sortB_perm ls).length_eq]; exact small_sz h64
      · cases hg
  | [.dict kvs], hx, hg =>
    obtain ⟨x, rfl, h⟩ := sh1 hx
    obtain ⟨a, kv, rfl, q, r, _⟩ := h.dict s
    have hg : (if kvs.length < 64 then some (Dn.D.list ((sortB ltS (kvs.map (·.1))).map Dn.D.str)) else none) = some d := hg
    split at hg
    · rename_i h64
      cases hg
      obtain ⟨ss, e1, e2, e3⟩ := r.keysV
      have hl : ss.length = kvs.length := by
        have := congrArg List.length e2
        simpa using this
      refine .inr ⟨a, kv, ss, rfl, .inl q, e1, by rw [hl]; exact h64, fun zs' p' pm so hp => ?_⟩
      have eq : zs'.map (fun x => x.cps.toList) = sortB ltS (kvs.map (·.1)) := sortB_of (sortedS_T so) (e2 ▸ pm.map _)
      refine k_newLst s S k (eq ▸ rp_strs (perm_ok pm e3)) ?_ hp
      rw [List.length_map, (sortB_perm _).length_eq, List.length_map]; exact small_sz h64
    · cases hg
theorem c_sorted (hK : X.K = G.K) (hc : X.calm = true) (hg : Gl X "sorted") (hm : X.mg "sorted" = none) (ha : PE X a (TEk G E N O .b ma)) (h1 : starEach [a] X.env = (false, eval a X.env) :: starEach [] X.env := by rfl) : PE X (.Call (.Name "sorted" p) [a] [] pos) (TEk G E N O .o (eA sortD (aCons ma aNil))) :=
  c_blt (by rw [← hK]; exact CallR.or cr_sortedS (call_sortedD hc)) v_sort hg hm PyProof.Rows.boot_sorted (c_acons ha c_anil (hs := h1)) (he := h1) (hpl := by rfl)
/-- sorted(set(a)) -/
theorem c_sortSet (hK : X.K = G.K) (hc : X.calm = true) (hg : Gl X "sorted") (hm : X.mg "sorted" = none) (hg2 : Gl X "set") (hm2 : X.mg "set" = none) (ha : PE X a (TEk G E N O .b ma)) (h1 : starEach [a] X.env = (false, eval a X.env) :: starEach [] X.env := by rfl)
    (h2 : starEach [.Call (.Name "set" p2) [a] [] q1] X.env = (false, eval (.Call (.Name "set" p2) [a] [] q1) X.env) :: starEach [] X.env := by rfl) : PE X (.Call (.Name "sorted" p) [.Call (.Name "set" p2) [a] [] q1] [] pos) (TEk G E N O .o (eA sortSetD (aCons ma aNil))) := by
  have inner : PE X (.Call (.Name "set" p2) [a] [] q1) (tCB (rSetOfS G.K X.prog X.w) (TAk G E N O .b (aCons ma aNil))) :=
    pe_callTy (by rw [← hK]; exact cr_setOfS hc) hg2 hm2 PyProof.Rows.boot_set (c_acons ha c_anil (hs := h1)) (he := h1) (hpl := by rfl)
  refine PE.imp (pe_callB (cr_sortedSetS hc) hg hm PyProof.Rows.boot_sorted (pa_cons inner pa_nil (hs := h2)) (he := h2) (hpl := by rfl)) fun σ H Q ⟨env, st, F, zs, rel, p⟩ => ?_
  refine ⟨env, st, F, zs, rel, ?_⟩
  have p : Post G E .o F H zs ((aCons ma aNil env st).bind fun xs st => ofOpt (sortSetD xs) st) Q := p
  cases e : aCons ma aNil env st with
  | exc c st1 => rw [e] at p; exact p
  | bad => rw [e] at p; exact p
  | ok ds st1 =>
    rw [e] at p
    refine fun vs H1 F1 zs1 x1 S1 q1 => ?_
    obtain ⟨d, e1, k⟩ := post_ofOpt S1 (p.back x1)
    have s := x1.sub
    have hx : Paired (Sh G.K F1 H1 zs1) vs ds := q1
    match ds, hx, e1 with
    | [.list ys], hx, hg =>
      obtain ⟨x, rfl, h⟩ := sh1 hx
      obtain ⟨a, vs, rfl, q, r, _⟩ := h.list s
      have hg : ((strsD ys).bind fun ls => if ls.length < 63 then some (Dn.D.list ((nubS ls).map Dn.D.str)) else none) = some d := hg
      cases e : strsD ys with
      | none => rw [e] at hg; cases hg
      | some ls =>
        rw [e] at hg
        have hg : (if ls.length < 63 then some (Dn.D.list ((nubS ls).map Dn.D.str)) else none) = some d := hg
        split at hg
        · rename_i h64
          cases hg
          rw [strs_of e] at r
          obtain ⟨ss, rfl, e2, e3⟩ := r.strsV
          have hl : ss.length = ls.length := by rw [← e2, List.length_map]
          refine ⟨a, ss, rfl, .of q, by rw [hl]; unfold scanBound; omega, fun b n hb hn => ?_⟩
          refine ⟨b, _, n, rfl, upd_same, by omega, fun ns p' so nd mem hlen hp => ?_⟩
          have inj : ∀ x y : Str, x.cps.toList = y.cps.toList → x = y := fun x y z => TL.ext_tl z
          have eq : ns.map (fun x => x.cps.toList) = nubS ls := by
            refine nubS_of (sortedS_T so) (List.pairwise_map.mpr (nd.imp fun hne z => hne (inj _ _ z))) fun l => ?_
            rw [← e2]
            constructor
            · rintro hl
              obtain ⟨x, hx, rfl⟩ := List.mem_map.mp hl
              exact List.mem_map.mpr ⟨x, of_decide_eq_true ((mem x).mp hx), rfl⟩
            · rintro hl
              obtain ⟨x, hx, rfl⟩ := List.mem_map.mp hl
              exact List.mem_map.mpr ⟨x, (mem x).mpr (decide_eq_true hx), rfl⟩
          have ok : ∀ x ∈ ns, StrOk x.cps.toList := fun x hx => e3 _ (by rw [← e2]; exact List.mem_map.mpr ⟨x, of_decide_eq_true ((mem x).mp hx), rfl⟩)
          have hlt : (nubS ls).length ≤ SZ := by
            rw [← eq, List.length_map, hlen]; exact small_sz (by omega)
          have hbp : b ≠ p' := fun z => by rw [z, upd_same] at hp; cases hp
          have g1 : Grw F1 H1 F1 (upd H1 b (SetSO X.prog X.w b (fun j => decide (j ∈ ss)) n)) := Grw.oneH s hb
          refine k_newLst g1.sub (S1.grow g1) (fun v H' F' g2 r => k v H' F' (g1.trans g2) ?_) (eq ▸ rp_strs ok) (by rw [List.length_map]; exact hlt) hp
          obtain ⟨a', rfl, r1, r2, r3, r4⟩ := r
          exact ⟨a', rfl, fun o e n => r1 o (g1.h _ _ e) n, r2, r3, r4⟩
        · cases hg
/-! ### dict of pairs -/
theorem RpKv.merge {K : PySem.W.Frag} {F : Hp} {os : List Addr} : ∀ {more : List (Key × V)} {dm : List (List Nat × D)} {kvs : List (Key × V)} {ds : List (List Nat × D)}, RpKv K F os more dm → RpKv K F os kvs ds → RpKv K F os (mergeK kvs more) (mergeD ds dm)
  | [], _, _, _, .nil, r => r
  | _ :: more, _ :: dm, _, _, .cons h1 h2 h3 t, r => RpKv.merge (more := more) (dm := dm) t (RpKv.put h1 h2 h3 r)
theorem mergeD_len : ∀ (more kvs : List (List Nat × D)), (mergeD kvs more).length ≤ kvs.length + more.length
  | [], kvs => Nat.le_refl _
  | (k, d) :: r, kvs => by
    have h1 := mergeD_len r (putKD kvs k d)
    have h2 := putKD_len kvs k d
    show (mergeD (putKD kvs k d) r).length ≤ _
    rw [List.length_cons]; omega
theorem pairsV {K : PySem.W.Frag} {F : Hp} {os : List Addr} : ∀ {vs : List V} {ds : List D} {ps : List (List Nat × D)}, RpAll K F os vs ds → pairsD ds = some ps → ∃ (as : List Addr) (kvs : List (Key × V)), vs = as.map V.ref ∧ Paired (fun p kv => SqT K F p [kV kv.1, kv.2]) as kvs ∧ RpKv K F os kvs ps
  | _, [], _, .nil, h => by cases h; exact ⟨[], [], rfl, .nil, .nil⟩
  | _, .tup [.str k, d] :: r, ps, .cons h t, e => by
    simp only [pairsD] at e
    cases e2 : pairsD r with
    | none => rw [e2] at e; cases e
    | some ps2 =>
      rw [e2] at e
      cases e
      obtain ⟨as, kvs, rfl, h2, h3⟩ := pairsV t e2
      cases h with
      | @tup a vs _ hq hr hz =>
        cases hr with
        | cons hk hr =>
          cases hr with
          | cons hv hn =>
            cases hn
            cases hk with
            | @str z _ ez oz => exact ⟨a :: as, (.inr z, _) :: kvs, rfl, .cons hq h2, .cons ez oz hv h3⟩
theorem paired_imp {α β : Type} {P Q : α → β → Prop} (h : ∀ a b, P a b → Q a b) : ∀ {as : List α} {bs : List β}, Paired P as bs → Paired Q as bs
  | _, _, .nil => .nil
  | _, _, .cons x t => .cons (h _ _ x) (paired_imp h t)
theorem pairsD_len : ∀ {ds : List D} {ps : List (List Nat × D)}, pairsD ds = some ps → ps.length = ds.length
  | [], _, h => by cases h; rfl
  | .tup [.str k, d] :: r, ps, e => by
    simp only [pairsD] at e
    cases e2 : pairsD r with
    | none => rw [e2] at e; cases e
    | some ps2 => rw [e2] at e; cases e; simp [pairsD_len e2]
theorem v_dict : VA G .o (fun xs H Q => ∃ (a : Addr) (ps : List Addr) (kvs : List (Key × V)), xs = [.ref a] ∧ SqL G.K H a (ps.map V.ref) ∧ Paired (fun p kv => SqT G.K H p [kV kv.1, kv.2]) ps kvs ∧
    ∀ p, H p = none → Q (.ref p) (upd H p (.dK (mergeK [] kvs)))) dictD := by
  intro F H zs st xs ds d Q s S hx hg k
  match ds, hx, hg with
  | [.list ys], hx, hg =>
    obtain ⟨x, rfl, h⟩ := sh1 hx
    obtain ⟨a, vs, rfl, q, r, z⟩ := h.list s
    have hg : ((pairsD ys).map fun ps => Dn.D.dict (mergeD [] ps)) = some d := hg
    cases e : pairsD ys with
    | none => rw [e] at hg; cases hg
    | some ps =>
      rw [e] at hg
      cases hg
      obtain ⟨as, kvs, rfl, h2, h3⟩ := pairsV r e
      refine ⟨a, as, kvs, rfl, .of q, paired_imp (fun _ _ h => same_seqT s h) h2, fun p hp => ?_⟩
      refine k_newDct s S k (RpKv.merge h3 .nil) ?_ hp
      refine Nat.le_trans (mergeD_len _ _) ?_
      rw [List.length_nil, Nat.zero_add, pairsD_len e]; exact z
theorem c_dict (hK : X.K = G.K) (hc : X.calm = true) (hg : Gl X "dict") (hm : X.mg "dict" = none) (ha : PE X a (TEk G E N O .b ma)) (h1 : starEach [a] X.env = (false, eval a X.env) :: starEach [] X.env := by rfl) : PE X (.Call (.Name "dict" p) [a] [] pos) (TEk G E N O .o (eA dictD (aCons ma aNil))) :=
  c_typ (by rw [← hK]; exact call_dictP hc) v_dict hg hm PyProof.Rows.boot_dict (c_acons ha c_anil (hs := h1)) (he := h1) (hpl := by rfl)

/-! ### d.update(e) -/
theorem d_update {X : Cx} {pins : List (Addr × Obj)} {σ : L2.St} {H : Hp} {s : Shared} {a o : Addr} {kvs more : List (Key × V)} {A : Around} {E : Value → Shared → Prop} {Q : Value → Shared → Prop} (I : Inv X pins σ H s) (e : H a = some (.dK kvs)) (eo : H o = some (.dK more)) (hne : a ≠ o) (hz : kvs.length + more.length ≤ sizeLine)
    (h : ∀ s', Inv X pins σ (upd H a (.dK (mergeK kvs more))) s' → Q .none s') : wpAny (model X.prog X.w) A (call (.builtin "dict.update") [.ref a, .ref o]) Q E s := by
  obtain ⟨z, hd, vs, rel, dd⟩ := dk_of I.hok e
  obtain ⟨z2, hd2, vs2, rel2, dd2⟩ := dk_of I.hok eo
  refine call_meetsIn PySem.F.slot_dict_update dd.typeIs PySem.F.entry_dict_update (PySem.F.args_dict_update_2 _ _) (meets_dict_update (mixKind X.prog X.w) a o hne hd2)
    ⟨vs, vs2, dd, dd2, by rw [← rel.length, ← rel2.length]; exact hz, fun h' dd' _ hs => h _ ?_⟩
  have he : ∃ q, h'.get? a = some q := let ⟨q, _, _, hq, _⟩ := dd'; ⟨q, hq⟩
  exact d_write I (by rw [e]; exact True.intro) hs he (dk_new (Nat.le_trans (length_mergeK _ _) hz) hd (KV.merge rel2 rel) dd')
def tDUpd (td ty : TE) : TE := fun σ H Q => td σ H fun x H1 => ∃ a, x = .ref a ∧ IsD H1 a ∧ ty σ H1 fun y H2 => ∃ (o : Addr) (kvs more : List (Key × V)), y = .ref o ∧ H2 a = some (.dK kvs) ∧ H2 o = some (.dK more) ∧ a ≠ o ∧ kvs.length + more.length ≤ sizeLine ∧ Q .non (upd H2 a (.dK (mergeK kvs more)))
theorem pe_dupd {td ty : TE} {o : Expr} (ho : PE X o td) (he : PE X e ty) (m : M1 X o "update" apos e cpos) : PE X (.Call (.Attribute o "update" apos) [e] [] cpos) (tDUpd td ty) := by
  refine ⟨fun pins s σ H Q I h => ?_⟩
  refine wpAny_Call_method m.base m.few m.line PySem.F.plainAttrs_dict PySem.F.slot_dict_update PySem.F.type_dict_update (thn (ho.run pins s σ H _ I h) fun u s1 ⟨x, H1, I1, rx, a, ex, d, q1⟩ => ?_)
  subst ex
  obtain rfl : u = Value.ref a := rx
  obtain ⟨t1, t2, _⟩ := isD_at I1 d
  refine ⟨t1, t2, ?_⟩
  rw [m.trees]
  refine Calls.callWith_builtin rfl (Calls.evalArgs_plain (Calls.spliced_cons (thn (he.run pins s1 σ H1 _ I1 q1) fun iv s2 ⟨y, H2, I2, ry, o2, kvs, more, ey, ea, eo, hne, hz, q2⟩ => Calls.spliced_nil ?_)))
  subst ey
  obtain rfl : iv = Value.ref o2 := ry
  exact d_update I2 ea eo hne hz fun s3 I3 => ⟨.non, _, I3, rfl, q2⟩
/-- x.update(e), as a statement -/
theorem c_updD (hi : i ∈ O) (he : PE X e (TEk G E N O .v m)) (hN : X.N[i]? = some x := by rfl) (hv : Vis X.env.scope x := by first | exact Or.inl rfl | exact Or.inr (Or.inl rfl) | exact Or.inr (Or.inr rfl)) (hd : (x == ("__debug__" : Str)) = false := by decide) (hcd : (x == ("__classdict__" : Str)) = false := by decide)
    (hb : attributeBase (.Name x p) "update" X.env (eval (.Name x p) X.env) = eval (.Name x p) X.env := by rfl) (hw : ((backTo cpos (starEach [e] X.env)).all (fun x => !x.1) && (backToKw cpos (keywordEach [] X.env)).all (fun x => x.1.isSome) && decide (([e] : List Expr).length + ([] : List Keyword).length + (if ([] : List Keyword).isEmpty then 0 else 1) < 30)) = true := by rfl) (hl : (apos.endLine == cpos.line) = true := by rfl) (ht : backTo cpos (starEach [e] X.env) = [(false, eval e X.env)] := by rfl)
    (hsw : swapsWith (.Call (.Attribute (.Name x p) "update" apos) [e] [] cpos) none pos.line X.env = pure false := by rfl) :
    PS X (.Expr (.Call (.Attribute (.Name x p) "update" apos) [e] [] cpos) pos) (TSk G E N rk O O (sUpd i isDictD updateD (aCons m aNil))) := by
  refine PS.imp (ps_expr (pe_dupd (pe_var hN hv hd hcd) he ⟨hb, hw, hl, ht⟩) hsw) fun D σ H h => ?_
  obtain ⟨a, hσ, env, st, F, zs, d, r, ht, k6, h⟩ := ts_upd hi h
  cases d <;> first | (cases ht; done) | skip
  rename_i xs
  obtain ⟨vs0, h0, _⟩ := k6.dict
  refine ⟨_, hσ, a, rfl, .inl ⟨vs0, .inl h0⟩, env, st, F, zs, r, ?_⟩
  obtain ⟨_, a0, _, k2, _, k4, _⟩ := r.own i hi
  have ea : a0 = a := by rw [hσ] at k2; cases k2; rfl
  subst ea
  have h := post_a1 h
  cases e1 : m env st with
  | bad => rw [e1] at h; exact h
  | exc c st1 => rw [e1] at h; exact h
  | ok d1 st1 =>
    rw [e1] at h
    intro v H1 F1 zs1 x1 S1 q1
    obtain ⟨F2, zs2, st2, ds2, d2, r2, q2, o2, g2, fin⟩ := h v H1 F1 zs1 x1 S1 q1
    match ds2, q2, g2 with
    | [.dict more], .cons qa .nil, g2 =>
      cases qa with
      | @dct b kv2 _ hb2 rb2 hz2 =>
        have g2 : (if xs.length + more.length ≤ SZ then some (Dn.D.dict (mergeD xs more)) else none) = some d2 := g2
        split at g2
        · rename_i hz
          cases g2
          obtain ⟨vs, w1, w2, w3⟩ := o2.dict
          obtain ⟨_, a1, _, j2, _, j4, _⟩ := r2.own i hi
          have ea1 : a1 = a0 := by rw [hσ] at j2; cases j2; rfl
          subst ea1
          exact ⟨b, vs, kv2, rfl, w1, r2.sub _ _ hb2, (fun z => by rw [z, hb2] at j4; cases j4), by rw [w2.length, rb2.length, szl]; exact hz, fin _ (.inr ⟨_, _, rfl, upd_same, RpKv.merge rb2 w2, Nat.le_trans (mergeD_len _ _) hz⟩)⟩
        · cases g2
end
end Dn

/-! Dn14: parallel assignment, unpacking a list, defs by name. -/
namespace Dn
open PySem PySem.Spec PyProof.Rows L2
theorem gSetAll_len : ∀ (is : List Nat) (ds : List D) (env : Env), gSetAll is ds env ≠ none → ds.length = is.length := by
  intro is
  induction is with
  | nil => intro ds env hn; cases ds with
    | nil => rfl
    | cons _ _ => exact absurd rfl hn
  | cons j js ih => intro ds env hn; cases ds with
    | nil => exact absurd rfl hn
    | cons d ds =>
      unfold gSetAll at hn
      split at hn
      · exact congrArg Nat.succ (ih ds _ hn)
      · exact absurd rfl hn
section
variable {G : Gc} {E : XK} {N : En} {O is : List Nat} {X : Cx} {e a b c f : Expr} {es : List Expr} {m ma mb mc : ME} {ms : MA} {kd rk : Kd} {pos p p2 q1 apos cpos : Pos} {x y z : Str} {i j l : Nat}
theorem g_lst {k : Nat} (hK : X.K = G.K) (hc : X.calm = true) (h : PGs X es (TGsk G N O is is)) (hl : (assignEach es X.env).length = is.length := by rfl) (hst : (assignEach es X.env).findIdx? (·.1) = none := by rfl) : PG X (.Tuple es k pos) (TGk G N O is (gL is)) := by
  refine PG.imp (pg_lst hc h hl hst) fun v σ H Q ⟨env, st, F, zs, d, r, h, k⟩ => ?_
  cases d with
  | list ds =>
    cases h with
    | @lst a vs _ h1 h2 h3 =>
      refine ⟨a, vs, rfl, by rw [hK]; exact .of (r.sub _ _ h1), ?_, env, st, F, zs, ds, r, h2, k⟩
      rw [h2.length]
      refine gSetAll_len is ds env fun z => ?_
      have k : (match gSetAll is ds env with | some env' => ∀ σ', Rel G N O σ' H env' st F zs → SameBut is σ σ' → Q σ' H | none => False) := k
      rw [z] at k
      exact k
  | _ => exact k.elim
theorem paV {K : PySem.W.Frag} {F : Hp} {os : List Addr} : ∀ {vs : List V} {ds : List D}, RpAll K F os vs ds → ds.length = vs.length := fun h => h.length.symm
/-- a, b = e, f: plain names -/
theorem c_par {px py pt pt2 : Pos} {kt k2 : Nat} (hc : X.calm = true) (hN : X.N.Nodup) (ha : PA X [a, b] (TAk G E N O .v ms)) (hi : X.N[i]? = some x := by rfl) (hj : X.N[j]? = some y := by rfl) (hij : i ≠ j := by decide) (hiO : i ∉ O := by decide) (hjO : j ∉ O := by decide)
    (hx : X.env.scope.names.lookup x = some .local := by rfl) (hy : X.env.scope.names.lookup y = some .local := by rfl)
    (hw : swappedStores [.Tuple [.Name x px, .Name y py] kt pt] (.Tuple [a, b] k2 pt2) X.env = pure (some [x, y]) := by rfl)
    (hs : swapsWithSole [.Tuple [.Name x px, .Name y py] kt pt] (.Tuple [a, b] k2 pt2) pos.line X.env = pure false := by rfl) :
    PS X (.Assign [.Tuple [.Name x px, .Name y py] kt pt] (.Tuple [a, b] k2 pt2) pos) (TSk G E N rk O O (sAsg (gT [i, j]) (eA dispT ms))) := by
  refine PS.imp (ps_par hc hN hi hj hij hx hy ha hw hs) fun D σ H ⟨env, st, F, zs, r, h⟩ => ⟨env, st, F, zs, r, ?_⟩
  have h : PostS G E N O rk F zs (match (ms env st).bind fun xs st => ofOpt (dispT xs) st with | .ok d st1 => (match gT [i, j] d env with | some env1 => .nx env1 st1 | none => .bad) | .exc c st1 => .exc c st1 | .bad => .bad) D := h
  cases e : ms env st with
  | bad => rw [e] at h; exact h
  | exc c st1 => rw [e] at h; exact fun H' F' zs' x S => h H' F' zs' (r.ext.trans x) S
  | ok ds st1 =>
    rw [e] at h
    intro vs H1 F1 zs1 x1 S1 q1
    have q1 : RpAll G.K F1 (osOf zs1) vs ds := q1
    simp only [R.bind_ok] at h
    unfold dispT at h
    by_cases hl : ds.length ≤ SZ
    · rw [if_pos hl] at h
      simp only [ofOpt_some] at h
      have hlen : ds.length = 2 := by
        refine gSetAll_len [i, j] ds env fun z => ?_
        have h : PostS G E N O rk F zs (match gSetAll [i, j] ds env with | some env1 => RS.nx env1 st1 | none => RS.bad) D := h
        rw [z] at h; exact h
      match ds, hlen, q1, h with
      | [d1, d2], _, .cons r1 (.cons r2 .nil), h =>
        refine ⟨_, _, rfl, ?_⟩
        simp only [gT, gSetAll] at h
        by_cases h1 : i < env.length
        · by_cases h2 : j < env.length
          · simp only [h1, h2, List.length_set, if_true] at h
            have s1 := (r.step x1 S1).set hiO r1
            exact h _ H1 F1 zs1 (s1.set hjO r2) x1.f x1.z
          · simp only [h1, h2, List.length_set, if_true, if_false] at h; exact h.elim
        · simp only [h1, if_false] at h; exact h.elim
    · rw [if_neg hl] at h; exact h.elim
end

/-! ### defs by name -/
def IsFn (K : PySem.W.Frag) (x : Str) (fd : FuncData) : Prop := ∃ oc od osl, K.lookup (He.ga K x) = some ⟨oc, od, .func fd, osl⟩
theorem IsFn.one {K : PySem.W.Frag} {x : Str} {fd fd' : FuncData} (h : IsFn K x fd) (h' : IsFn K x fd') : fd = fd' := by
  obtain ⟨_, _, _, e⟩ := h
  obtain ⟨_, _, _, e'⟩ := h'
  rw [e] at e'; cases e'; rfl
theorem isFn_of {K : PySem.W.Frag} {x q : Str} {params : Arguments} {body : List Stmt} {scope : Scope} {dvs : List V} {kws : List (Str × V)} {fd : FuncData} (F : FunD K x q params body scope dvs kws (He.ga K x) fd) : IsFn K x fd := by
  obtain ⟨oc, od, dV, kV, doc, pm, an, cdv, ct, osl, _, lk, _⟩ := F.ex
  exact ⟨_, _, _, lk⟩
/-- the def x keeps the promise g -/
structure Fd (G : Gc) (P : Program) (w : World) (mg : Str → Option Value) (base : Heap) (x : Str) (kd : Kd) (k : Nat) (ps : List Str) (g : List D → Sto → R D) : Prop where
  ok : ∃ fd, IsFn G.K x fd ∧ FnOk P w G.K mg base (L2N.CX P w) k (He.ga G.K x) fd ps (spOf G kd ps.length g) ∧ L2.Binds G.K fd ps []
  glo : mg x = some (.ref (He.ga G.K x))
  kp : PySem.W.keepIn G.K (.ref (He.ga G.K x)) = true
  len : ∀ ds st, ds.length ≠ ps.length → g ds st = .bad
/-- a def as the head tells it -/
def Fh (K : PySem.W.Frag) (x : Str) (st : Stmt) : Prop := ∃ fd, FunD K x x (defArgs st) (defBody st) (defScope st) [] [] (He.ga K x) fd
abbrev cx (G : Gc) (P : Program) (w : World) (mg : Str → Option Value) (base : Heap) (Nm : List Str) (x : Str) (st : Stmt) (cdv : Value) (A : Around) (outer : List PySem.Env) (s : Shared) (H : Hp) (E : XK) : Cx :=
  cxOf (L2N.CX P w) P w G.K mg base Nm x (defScope st) (He.ga G.K x) cdv A outer s H E
abbrev rm (G : Gc) (k : Nat) (x : Str) (st : Stmt) (cdv : Value) (A : Around) (s : Shared) : Prop := Room k (A.deeper (envOfC x (defScope st) s.heap.objs.size (He.ga G.K x) cdv))
section
variable {G : Gc} {P : Program} {w : World} {mg : Str → Option Value} {base : Heap} {x : Str} {st : Stmt} {Nm ps : List Str} {k : Nat} {m : MS} {O' : List Nat}
theorem Fd.of (F : Fh G.K x st) (hm : mg x = some (.ref (He.ga G.K x))) (S : FnScope Nm ps (defScope st))
    (hbi : ∀ (kV doc pm : Value) (an : Option Addr) (cdv ct : Value) (us : List Value), us.length = ps.length → bindArgs (PySem.W.fnOf x x (defArgs st) (defBody st) (defScope st) .none kV doc pm an cdv ct) ⟨us, []⟩ = pure (ps.zip us))
    (hb : ∀ (cdv : Value) (A : Around) (outer : List PySem.Env) (s : Shared) (H : Hp) (E : XK) (N : En), rm G k x st cdv A s → PSs (cx G P w mg base Nm x st cdv A outer s H E) (defBody st) (TSk G E N .v [] O' m))
    (hl : ps.length ≤ Nm.length := by decide) : Fd G P w mg base x .v (k + 1) ps (runDef ps.length Nm.length m) := by
  obtain ⟨fd, F⟩ := F
  exact ⟨⟨fd, isFn_of F, c_def F S hb hl, F.bindsN hbi⟩, hm, F.kp, runDef_len⟩
theorem Fd.ofO (F : Fh G.K x st) (hm : mg x = some (.ref (He.ga G.K x))) (S : FnScope Nm ps (defScope st))
    (hbi : ∀ (kV doc pm : Value) (an : Option Addr) (cdv ct : Value) (us : List Value), us.length = ps.length → bindArgs (PySem.W.fnOf x x (defArgs st) (defBody st) (defScope st) .none kV doc pm an cdv ct) ⟨us, []⟩ = pure (ps.zip us))
    (hb : ∀ (cdv : Value) (A : Around) (outer : List PySem.Env) (s : Shared) (H : Hp) (E : XK) (N : En), rm G k x st cdv A s → PSs (cx G P w mg base Nm x st cdv A outer s H E) (defBody st) (TSk G E N .o [] O' m))
    (hl : ps.length ≤ Nm.length := by decide) : Fd G P w mg base x .o (k + 1) ps (runDefO ps.length Nm.length m) := by
  obtain ⟨fd, F⟩ := F
  exact ⟨⟨fd, isFn_of F, c_defO F S hb hl, F.bindsN hbi⟩, hm, F.kp, runDefO_len⟩
theorem pas {cdv : Value} {A : Around} {outer : List PySem.Env} {s : Shared} {H : Hp} {E : XK} : Passes (L2N.CX P w) (cx G P w mg base Nm x st cdv A outer s H E) E :=
  L2N.passes_call (L2N.takes_of rfl rfl rfl rfl) (fun _ _ _ _ h => h)
theorem pasO {cdv : Value} {A : Around} {outer : List PySem.Env} {s : Shared} {H : Hp} {E : XK} : PassesOwn (model (cx G P w mg base Nm x st cdv A outer s H E).prog (cx G P w mg base Nm x st cdv A outer s H E).w) (cx G P w mg base Nm x st cdv A outer s H E).A (cx G P w mg base Nm x st cdv A outer s H E).env (cx G P w mg base Nm x st cdv A outer s H E).xe :=
  passes_of rfl
end
theorem huR {k : Nat} {A : Around} (r : Room k A) : A.units + 65 < cLine := by have := r.un; omega
section
variable {G : Gc} {E : XK} {N : En} {O : List Nat} {X : Cx} {e : Expr} {es : List Expr} {kd : Kd} {pos p : Pos} {x : Str} {ps : List Str} {g : List D → Sto → R D} {ms : MA} {k j : Nat}
theorem c_callG (F : Fd G X.prog X.w X.mg X.base x kd k ps g) (hr : Room j X.A) (hx : Passes (L2N.CX X.prog X.w) X E) (ha : PA X (e :: es) (TAk G E N O .v ms)) (hK : X.K = G.K := by rfl) (hg : Gl X x := by rfl) (hkj : k ≤ j := by decide)
    (hdb : (x == ("__debug__" : Str)) = false := by decide) (he : starEach (e :: es) X.env = (false, eval e X.env) :: starEach es X.env := by rfl) (hpl : (backTo pos (starEach es X.env)).any (·.1) = false := by rfl) : PE X (.Call (.Name x p) (e :: es) [] pos) (TEk G E N O kd (eCall g ms)) := by
  obtain ⟨fd, _, h1, h2⟩ := F.ok
  rw [← hK] at h1 h2
  exact c_call h1 (hr.mono hkj) hg (by rw [hK]; exact F.glo) (by rw [hK]; exact F.kp) h2 hx F.len ha hdb he hpl
end
/-! ### own error classes -/
structure Xf (G : Gc) (mg : Str → Option Value) (k : Nat) (x : Str) : Prop where
  q : PySem.W.excIn G.K (He.ga G.K x) He.veBase "ValueError.__new__" = true
  kp : PySem.W.keepIn G.K (.ref (He.ga G.K x)) = true
  sub : PySem.W.subIn G.K (.ref (He.ga G.K x)) (.type "BaseException") = some true
  ty : PySem.W.typeIn G.K (.ref (He.ga G.K x)) = some (.type "type")
  glo : mg x = some (.ref (He.ga G.K x))
  ex : G.ex k = .ref (He.ga G.K x)
section
variable {G : Gc} {E : XK} {N : En} {O O' : List Nat} {X : Cx} {rk : Kd} {pos p p2 p3 : Pos} {x m : Str} {k j : Nat}
theorem c_raiseX (F : Xf G X.mg k x) (tk : L2N.Takes X (fun cls d _ H => E cls d H)) (hc : X.calm = true := by rfl) (hK : X.K = G.K := by rfl) (hg : Gl X x := by rfl) (hdb : (x == ("__debug__" : Str)) = false := by decide) :
    PS X (.Raise (some (.Call (.Name x p) [.Constant (.str m) j p2] [] p3)) none pos) (TSk G E N rk O O' (sRaise k)) :=
  c_raise hc tk (L2N.pmk_own PySem.F.excBase_ValueError (by rw [hK]; exact F.q) F.glo (by rw [hK]; exact F.kp) (raises_own (by rw [hK]; exact F.sub) (by rw [hK]; exact F.ty)) hg hdb) (fun _ _ _ _ h => h) F.ex
end
/-! ### comprehension blocks, by a look -/
def blkB (N : List Str) (sc scope : Scope) (own : List (Str × Nat)) : Bool :=
  (scope.kind == .function) && (scope.names.all fun y => scope.names.lookup y.1 == some y.2) && (own.all fun p => N[p.2]? == some p.1) &&
  (scope.names.all fun y => y.2 != .free || (sc.names.lookup y.1 == some .cell || sc.names.lookup y.1 == some .free)) &&
  (scope.names.all fun y => (y.2 != .local && y.2 != .cell) || ((own.map (·.1)).contains y.1 || !N.contains y.1))
theorem blk_ok {N : List Str} {sc scope : Scope} {own : List (Str × Nat)} (h : blkB N sc scope own = true) : BlkOk N sc scope own := by
  unfold blkB at h
  simp only [Bool.and_eq_true, List.all_eq_true, beq_iff_eq, Bool.or_eq_true, bne_iff_ne, ne_eq, List.contains_iff_mem, Bool.not_eq_true'] at h
  obtain ⟨⟨⟨⟨h1, h2⟩, h3⟩, h4⟩, h5⟩ := h
  refine ⟨h1, fun y hy => h2 y hy, fun p hp => h3 p hp, fun y hy e => (h4 y hy).resolve_left (fun z => z e), fun y hy e => ?_⟩
  rcases h5 y hy with z | z
  · exact absurd e (by rintro (k | k) <;> simp_all)
  · refine z.imp id fun z => ?_
    intro q
    have : N.contains y.1 = true := List.contains_iff_mem.mpr q
    rw [this] at z; cases z
end Dn

/-! Dn15: a law's end. -/
namespace Dn
open PySem PySem.Spec PyProof.Rows L2
/-- all but the tables of code objects -/
def noTbl (H : Hp) : Hp := fun b => match H b with
  | some (.tbl _) => none
  | o => o
theorem noTbl_same (H : Hp) : Same (noTbl H) H := fun b o e => by
  unfold noTbl at e
  split at e
  · cases e
  · exact e
theorem noTbl_sqL {K : PySem.W.Frag} {H : Hp} {a : Addr} {vs : List V} (h : SqL K H a vs) : SqL K (noTbl H) a vs := by
  rcases h with (h | ⟨o, h⟩) | h
  · exact .inl (.inl (by unfold noTbl; rw [h]))
  · exact .inl (.inr ⟨o, by unfold noTbl; rw [h]⟩)
  · exact .inr h
theorem ints_rp {K : PySem.W.Frag} {F : Hp} {os : List Addr} : ∀ ns : List Int, RpAll K F os (ns.map V.int) (ns.map D.int)
  | [] => .nil
  | n :: ns => .cons (.int n) (ints_rp ns)
theorem lawAt {l : PySem.W.OpenLaw} {w : World} {k n : Nat} {x : Str} {mg : Str → Option Value} {h : Heap} {st : Stmt} {g : List D → Sto → R D} (G : Gc) (cs : List (Addr × Addr))
    (h1 : ∀ p ∈ cs, h.get? p.2 = some { cls := .none, data := .fields #[] }) (h2 : ∀ p ∈ cs, G.K.lookup p.2 = none) (h3 : ∀ p ∈ cs, PySem.W.CodeHd h p.1 p.2) (hT : ∀ p ∈ G.T, p.1 ∈ cs.map (·.2))
    (F : Fh G.K "law" st) (hbi : ∀ (kV doc pm : Value) (an : Option Addr) (cdv ct : Value) (us : List Value), us.length = [x].length → bindArgs (PySem.W.fnOf "law" "law" (defArgs st) (defBody st) (defScope st) .none kV doc pm an cdv ct) ⟨us, []⟩ = pure ([x].zip us))
    (ok : ∀ base : Heap, G.K.In base → base.Ns mainGlobals mg → (∀ p ∈ cs, LamX.TabB base mg p.1 p.2) → Fd G l.prog w mg base "law" .v k [x] g) (hn : n ≤ SZ)
    (pure_ : ∀ ns : List Int, ns.length ≤ n → ∃ st, g [.ro (ns.map D.int)] [] = .ok (.bool true) st) : LamX.LawAtS l w G.K (L2N.CX l.prog w) k n x mg (He.ga G.K "law") h := by
  obtain ⟨fd, F⟩ := F
  refine ⟨fd, cs, spOf G .v 1 g, h1, h2, h3, fun s u => FunD.bindsA (ps := [x]) F hbi s [u] rfl, fun H a ns hl _ ht hS => ?_, fun base b1 b2 b3 => ?_⟩
  · refine ⟨noTbl H, [], [.ro (ns.map D.int)], [], noTbl_same H, ⟨rfl, fun k p i e => by simp at e, List.nodup_nil, fun a ha => (by cases ha), fun p hp => ?_, fun a ps e => ?_⟩, .cons (.ro (noTbl_sqL hS) (ints_rp ns) (by rw [List.length_map]; omega)) .nil, rfl, ?_⟩
    · obtain ⟨q, hq, e⟩ := List.mem_map.mp (hT p hp)
      exact ⟨#[], by rw [← e]; exact ht q hq, by first | trivial | exact .nil | simp [TriplesOk], fun pos cv z => by cases z⟩
    · unfold noTbl at e
      split at e
      · cases e
      · rename_i hx; exact hx ps e
    · obtain ⟨st1, e⟩ := pure_ ns hl
      rw [e]
      intro v H' F' zs' _ _ q
      cases q; rfl
  · obtain ⟨fd', i, f, _⟩ := (ok base b1 b2 b3).ok
    have e := (isFn_of F).one i
    subst e
    exact f
theorem nocx {P : Program} {w : World} {o : List PySem.Env} {H : Hp} {s : Shared} {e : Value} {s' : Shared} (h : L2N.CX P w o H s (fun _ _ _ => False) e s') : False := by
  obtain ⟨_, _, _, _, _, _, _, _, _, _, _, _, z⟩ := h
  exact z
end Dn

/-! Dn16: x[::-1] of tuples and lists. -/
namespace Dn
open PySem PySem.Spec PyProof.Rows L2
theorem fm_congr {α β : Type} {f g : α → Option β} : ∀ {l : List α}, (∀ x ∈ l, f x = g x) → l.filterMap f = l.filterMap g
  | [], _ => rfl
  | x :: l, h => by rw [List.filterMap_cons, List.filterMap_cons, h x List.mem_cons_self, fm_congr fun y hy => h y (List.mem_cons_of_mem _ hy)]
theorem pick_back (xs : Array Value) : ((List.range xs.size).filterMap fun (m : Nat) => xs[(((xs.size : Int) - 1) + (m : Int) * (-1)).toNat]?).toArray = xs.toList.reverse.toArray := by
  congr 1
  have key : ∀ l : List Value, (List.range l.length).filterMap (fun (m : Nat) => l[(((l.length : Int) - 1) + (m : Int) * (-1)).toNat]?) = l.reverse := by
    intro l
    refine List.ext_getElem? fun i => ?_
    have e : (List.range l.length).filterMap (fun (m : Nat) => l[(((l.length : Int) - 1) + (m : Int) * (-1)).toNat]?) = (List.range l.length).filterMap (fun m => if h : m < l.length then some l[l.length - 1 - m] else none) := by
      refine fm_congr fun m hm => ?_
      have hm := List.mem_range.mp hm
      have e1 : ((((l.length : Int) - 1) + (m : Int) * (-1)).toNat) = l.length - 1 - m := by omega
      rw [e1, dif_pos hm, List.getElem?_eq_getElem (by omega)]
    rw [e]
    have e2 : (List.range l.length).filterMap (fun m => if h : m < l.length then some l[l.length - 1 - m] else none) = (List.range l.length).map (fun m => l.getD (l.length - 1 - m) .none) := by
      rw [← List.filterMap_eq_map]
      refine fm_congr fun m hm => ?_
      have hm := List.mem_range.mp hm
      rw [dif_pos hm]
      simp only [Function.comp, List.getD_eq_getElem?_getD, List.getElem?_eq_getElem (show l.length - 1 - m < l.length by omega), Option.getD_some]
    rw [e2, List.getElem?_map]
    by_cases hi : i < l.length
    · rw [List.getElem?_range hi, List.getElem?_reverse hi]
      simp only [Option.map_some, List.getD_eq_getElem?_getD, List.getElem?_eq_getElem (show l.length - 1 - i < l.length by omega), Option.getD_some]
    · rw [List.getElem?_eq_none (by simpa using hi), List.getElem?_eq_none (by simpa using hi)]; rfl
  have := key xs.toList
  simp only [Array.length_toList, Array.getElem?_toList] at this
  exact this
section
variable {prog : Program} {w : World} {A : Around} {E : Value → Shared → Prop} {s : Shared}
theorem applied_back {sl : Addr} {n : Nat} {t : Tok} {Q : Int × Int × Nat → Shared → Prop} (hs : s.heap.IsSliceOf sl .none .none (.int (-1) t)) (h : Q ((n : Int) - 1, -1, n) s) : wpAny (model prog w) A (Builtin.Slice.sliceApplied (.ref sl) (pure (n : Int))) Q E s := by
  obtain ⟨os, hos, hcs, hds⟩ := id hs
  unfold Builtin.Slice.sliceApplied Builtin.Slice.sliceFields
  refine wpAny_bind (wpAny_bind (wpAny_field hos hds (x := .none) rfl (wpAny_bind (wpAny_field hos hds (x := .none) rfl (wpAny_bind (wpAny_field hos hds (x := .int (-1) t) rfl (wpAny_pure ?_)))))))
  refine wpAny_bind (HT.slicePart_ (IsPart.int (-1) t) ?_)
  show wpAny _ _ (if ((-1 : Int) == 0) = true then _ else _) _ _ s
  rw [if_neg (by decide)]
  refine wpAny_bind (HT.slicePart_ IsPart.none (wpAny_bind (HT.slicePart_ IsPart.none (wpAny_bind (wpAny_pure ?_)))))
  have e : Builtin.Slice.slicePlaces ((n : Int) - 1) (-1) (-1) = n := by
    unfold Builtin.Slice.slicePlaces
    simp only [show ¬ ((-1 : Int) > 0) by omega, if_false, Int.neg_neg, Int.ediv_one]
    split <;> omega
  show wpAny _ _ (pure ((n : Int) - 1, (-1 : Int), Builtin.Slice.slicePlaces ((n : Int) - 1) (-1) (-1))) _ _ s
  rw [e]
  exact wpAny_pure h
theorem getItem_back {t sl : Addr} {items : Array Value} {u : Tok} {Q : Value → Shared → Prop} (ht : IsTup s.heap t items) (hs : s.heap.IsSliceOf sl .none .none (.int (-1) u))
    (h : Q (.ref s.heap.objs.size) { s with heap := s.heap.push { cls := .type "tuple", data := .seq items.toList.reverse.toArray } }) (hsz : items.size ≤ sizeLine) : wpAny (model prog w) A (getItem (.ref t) (.ref sl)) Q E s := by
  have fits : sizeOk (.seq items.toList.reverse.toArray) := by
    show items.toList.reverse.toArray.size ≤ sizeLine
    rw [List.size_toArray, List.length_reverse, Array.length_toList]; exact hsz
  obtain ⟨os, hos, hcs, hds⟩ := id hs
  have hTs : s.TypeIs (.ref sl) "slice" := ⟨os, hos, hcs⟩
  unfold getItem
  try with_reducible refine wpAny_holding ?_
  first | refine wpAny_bind (wpAny_pure ?_) | skip
  refine wpAny_bind (wpAny_sequenceKey ht.typeIs (by decide) (wpAny_bind (wpAny_callSpecial?_slot (name := Str.ofString "__getitem__") ht.typeIs slot_tuple_getitem (wpAny_call_entry slot_tuple_getitem ht.typeIs entry_tuple_getitem ?_ (args_tuple_getitem _ _)))))
  show wpAny _ _ (Builtin.Tuple.tupleItemsOf (.ref t) >>= _) _ _ s
  refine wpAny_bind (tupleItemsOf_ ht (wpAny_bind (wpAny_typeOf hTs ?_)))
  rw [if_pos (by decide)]
  refine wpAny_bind (applied_back hs ?_)
  have hno : ¬ ((((items.size : Int) - 1) == 0 && (-1 : Int) == 1 && items.size == items.size) = true) := by simp
  show wpAny _ _ (if (((items.size : Int) - 1) == 0 && (-1 : Int) == 1 && items.size == items.size) = true then _ else _) _ _ s
  rw [if_neg hno, pick_back]
  first
    | exact wpAny_bind (m := Builtin.Tuple.tupleExact _) (wpAny_newObj_type (wpAny_pure ⟨_, rfl, wpAny_pure h⟩) fits)
    | exact wpAny_bind (wpAny_bind (m := Builtin.Tuple.tupleExact _) (wpAny_newObj_type (wpAny_pure (wpAny_pure ⟨_, rfl, wpAny_pure h⟩)) fits))
    | exact wpAny_bind (wpAny_bind (m := Builtin.Tuple.tupleExact _) (wpAny_newObj_type (wpAny_pure ⟨_, rfl, wpAny_pure h⟩) fits))
end
/-- x[::-1], by values -/
def rRev (K : PySem.W.Frag) : V → Hp → VK → Prop := fun x H Q => ∃ a xs, x = .ref a ∧ ((SqL K H a xs ∧ ∀ p, H p = none → Q (.ref p) (upd H p (.lst xs.reverse))) ∨ (SqT K H a xs ∧ ∀ p, H p = none → Q (.ref p) (upd H p (.tup xs.reverse))))
section
variable {X : Cx} {e : Expr} {te : TE} {k : Nat} {p1 p2 p3 pos : Pos}
theorem pe_revT (he : PE X e te) : PE X (.Subscript e (.Slice none none (some (.UnaryOp .USub (.Constant (.int 1) k p1) p2)) p3) pos) (fun σ H Q => te σ H fun x H1 => ∃ a xs, x = .ref a ∧ SqT X.K H1 a xs ∧ ∀ p, H1 p = none → Q (.ref p) (upd H1 p (.tup xs.reverse))) := by
  refine ⟨fun pins s σ H Q I h => ?_⟩
  refine Subscript_ (thn (he.run pins s σ H _ I h) fun v s1 ⟨x, H1, I1, r1, a, xs, ex, hx, q⟩ => ?_)
  subst ex
  obtain rfl : v = Value.ref a := r1
  have hst : PO X (some (.UnaryOp .USub (.Constant (.int 1) k p1) p2)) (tPart (tUn (rU fun i => .int (-i)) (tC (.int 1)))) := po_some (pe_un un_neg pe_int)
  refine wpAny_Slice (thn (po_none.run pins s1 σ H1 (fun o H2 => o = none ∧ H1 = H2) I1 ⟨rfl, rfl⟩) fun vl s2 ⟨l, H2, I2, pl, el, e2⟩ => ?_)
  subst el e2
  refine thn (po_none.run pins s2 σ H1 (fun o H3 => o = none ∧ H1 = H3) I2 ⟨rfl, rfl⟩) fun vu s3 ⟨u, H3, I3, pu, eu, e3⟩ => ?_
  subst eu e3
  refine thn (hst.run pins s3 σ H1 (fun o H4 => o = some (-1) ∧ H1 = H4) I3 ⟨1, rfl, -1, rfl, rfl, rfl⟩) fun vs s4 ⟨o, H4, I4, ps, eo, e4⟩ => ?_
  subst eo e4
  cases pl
  cases pu
  obtain ⟨t, rfl⟩ : ∃ t, vs = Value.int (-1) t := by cases ps; exact ⟨_, rfl⟩
  have I5 : Inv X pins σ H1 { s4 with heap := s4.heap.push { cls := .type "slice", data := .fields #[.none, .none, .int (-1) t] } } := I4.kept (t' := s4.toks) fun b ob z => Heap.get?_push_of_some _ z
  obtain ⟨its, r, ht, hz⟩ := I5.tuple hx
  have hlen := r.length
  show wpAny (model X.prog X.w) X.A (subscriptTail e (.Slice none none (some (.UnaryOp .USub (.Constant (.int 1) k p1) p2)) p3) (.ref a) (.ref s4.heap.objs.size)) (EP X pins σ Q) X.xe { s4 with heap := s4.heap.push { cls := .type "slice", data := .fields #[.none, .none, .int (-1) t] } }
  refine tail_any (ops := [.ref a, .ref s4.heap.objs.size]) ht.typeIs slot_tuple_getitem.lookup ?_ (by with_unfolding_all rfl)
  refine getItem_back ht (Heap.IsSliceOf.new ..) ?_ (by rw [List.size_toArray]; omega)
  refine ⟨.ref _, _, I5.laid (t' := s4.toks) (o := .tup xs.reverse) (fun b ob z => Heap.get?_push_of_some _ z) (Nat.le_refl _) ?_, rfl, q _ (I5.hok.fresh (Nat.le_refl _))⟩
  exact ⟨by rw [List.length_reverse]; exact hz, _, r.reverse, IsTup.new _ _⟩
end
section
variable {G : Gc} {E : XK} {N : En} {O : List Nat} {X : Cx} {e a : Expr} {m ma : ME} {k : Nat} {p1 p2 p3 pos : Pos}
theorem c_rev (hK : X.K = G.K) (ha : PE X a (TEk G E N O .b ma)) : PE X (.Subscript a (.Slice none none (some (.UnaryOp .USub (.Constant (.int 1) k p1) p2)) p3) pos) (TEk G E N O .v (e1 revD ma)) := by
  refine PE.imp (PE.or (pe_revL ha) (pe_revT ha)) fun σ H Q ⟨env, st, F, zs, rel, p⟩ => ?_
  have p : Post G E .v F H zs ((ma env st).bind fun x st => ofOpt (revD x) st) Q := p
  rw [hK]
  cases e : ma env st with
  | bad => rw [e] at p; exact p.elim
  | exc c st1 => rw [e] at p; exact .inl ⟨env, st, F, zs, rel, by rw [e]; exact p⟩
  | ok d st1 =>
    rw [e] at p
    cases d <;> first | exact p.elim | skip
    · rename_i ds
      refine .inl ⟨env, st, F, zs, rel, ?_⟩
      rw [e]
      intro v H1 F1 zs1 x1 S1 q1
      have p : Post G E .v F H zs (ofOpt (revD (.list ds)) st1) Q := p
      obtain ⟨d2, e2, k⟩ := post_ofOpt S1 (p.back x1)
      cases e2
      have q1 : Sh G.K F1 H1 zs1 v (.list ds) := q1
      obtain ⟨a, vs, rfl, hq, r, z⟩ := q1.list x1.sub
      exact ⟨a, vs, rfl, .of hq, fun q hq => k_newLst x1.sub S1 (k_ov k) r.reverse (by rw [List.length_reverse]; exact z) hq⟩
    · rename_i ds
      refine .inr ⟨env, st, F, zs, rel, ?_⟩
      rw [e]
      intro v H1 F1 zs1 x1 S1 q1
      have p : Post G E .v F H zs (ofOpt (revD (.tup ds)) st1) Q := p
      obtain ⟨d2, e2, k⟩ := post_ofOpt S1 (p.back x1)
      cases e2
      have q1 : Sh G.K F1 H1 zs1 v (.tup ds) := q1
      obtain ⟨a, vs, rfl, hq, r, z⟩ := q1.tup
      exact ⟨a, vs, rfl, same_seqT x1.sub hq, fun q hq => k_newTup x1.sub k r.reverse (by rw [List.length_reverse]; exact z) hq⟩
end
/-! ### constants of the modules -/
section
variable {G : Gc} {E : XK} {N : En} {O : List Nat} {X : Cx} {x z : Str} {l : List Nat} {i : Int} {pos : Pos}
theorem c_gstr (h : ∃ t, X.mg x = some (.str z t)) (hz : z.cps.toList = l := by rfl) (hl : StrOk l := by decide) (hg : Gl X x := by rfl) (hd : (x == ("__debug__" : Str)) = false := by decide) : PE X (.Name x pos) (TEk G E N O .v (eC (.str l))) := by
  obtain ⟨t, e⟩ := h
  exact c_glob (v := .str z) hg e ⟨t, rfl⟩ (fun _ _ => .str hz hl) hd
theorem c_gint (h : ∃ t, X.mg x = some (.int i t)) (hg : Gl X x := by rfl) (hd : (x == ("__debug__" : Str)) = false := by decide) : PE X (.Name x pos) (TEk G E N O .v (eC (.int i))) := by
  obtain ⟨t, e⟩ := h
  exact c_glob (v := .int i) hg e ⟨t, rfl⟩ (fun _ _ => .int i) hd
end
end Dn

/-! DnH: all(list of bools) while an error is handled. -/
namespace Dn
open PySem PySem.Spec PyProof.Rows L2 HotX
section
variable {P : Program} {w : World} {A : Around} {E : Value → Shared → Prop} {s : Shared}
theorem next_end_hot {J l x1 : Addr} {i : Nat} {its : Array Value} {Q : Option Value → Shared → Prop} (hot : HotAt A x1 s.heap) (hn : x1 ≠ J) (hJ : s.heap.IsListIter J l i) (hl : s.heap.IsList l its) (hx : its[i]? = none)
    (hQ : ∀ h', (∀ b o, b ≠ J → s.heap.get? b = some o → h'.get? b = some o) → Q none { s with heap := h' }) : wpAny (model P w) A (pyNext (.ref J)) Q E s := by
  obtain ⟨o, ho, hc, hd⟩ := id hJ
  obtain ⟨ol, hol, _, nl, hdl⟩ := hl
  obtain ⟨hh, o1, v1, g1, d1, c1⟩ := hot
  have nt : (Value.ref l == Value.none) = false := rfl
  unfold pyNext
  refine wpAny_bind (wpAny_attempt (wpAny_callSpecial?_slot (name := Str.ofString "__next__") hJ.typeIs slot_listiter_next (wpAny_call_entry slot_listiter_next hJ.typeIs
    entry_listiter_next ?_ (args_listiter_next _))))
  show wpAny (model P w) _ (field (.ref J) 0 >>= _) _ _ s
  refine wpAny_bind (wpAny_field ho hd (x := .ref l) rfl ?_)
  show wpAny (model P w) _ (if (Value.ref l == Value.none) = true then _ else _) _ _ s
  rw [nt, if_neg Bool.false_ne_true]
  show wpAny (model P w) _ (field (.ref J) 1 >>= _) _ _ s
  refine wpAny_bind (wpAny_field ho hd (x := .int i 0) rfl ?_)
  show wpAny (model P w) _ (seqItems? (.ref l) >>= _) _ _ s
  refine wpAny_bind (wpAny_seqItems hol hdl ?_)
  simp only [Int.toNat_natCast, hx]
  refine wpAny_bind (wpAny_rule (wpAny_bind (wpAny_setField ho hd (by simp) ?_)))
  have g2 : (s.heap.update J (Obj.mapFields (·.setIfInBounds 0 Value.none))).get? x1 = some o1 := (Heap.get?_update_other _ _ (Ne.symm hn)).trans g1
  show wpAny (model P w) _ (newExc (.type "StopIteration") [] >>= _) _ _ _
  refine wpAny_bind ?_
  simp only [newExc, newTuple]
  refine wpAny_bind (wpAny_newObj_type ?_ (by size_fits))
  refine wpAny_bind (m := firstArgMember _ _) (wpAny_of_eq (a := Value.none) ?_ ?_)
  · first
    | rfl
    | (simp only [firstArgMember]; rfl)
  refine wpAny_newObj_type ?_ (by size_fits)
  have g3 := fun (a b : Obj) => Heap.get?_push_of_some b (Heap.get?_push_of_some a g2)
  refine raiseNew_hot (x1 := x1) ⟨hh, o1, v1, g3 _ _, d1, c1⟩ (Nat.ne_of_lt (Heap.lt_size (Heap.get?_push_of_some _ g2))) (Heap.get?_push_size _ rfl) rfl ?_ ?_
  · first
    | (simp; done)
    | (simp; omega)
    | (simp only [Array.size_append]; simp; omega)
  refine wpAny_bind (wpAny_isInstance (T := "StopIteration") (b := true) ⟨_, Heap.get?_update_self _ (Heap.get?_push_size _ rfl) rfl, rfl⟩ isSubtype_stop ?_)
  refine wpAny_pure (hQ _ fun b u hb e => ?_)
  have e2 : (s.heap.update J (Obj.mapFields (·.setIfInBounds 0 Value.none))).get? b = some u := (Heap.get?_update_other _ _ (Ne.symm hb)).trans e
  rw [Heap.get?_update_other _ _ (Nat.ne_of_gt (Heap.lt_size (Heap.get?_push_of_some _ e2)))]
  exact Heap.get?_push_of_some _ (Heap.get?_push_of_some _ e2)
theorem walk_hot (x1 J ax : Addr) (hh : A.handled = some (.ref x1)) (n1 : ax ≠ J) (n2 : x1 ≠ J) (its : Array Value) :
    Walks P w A J [J, ax, x1] [J] its.size (fun i v => its[i]? = some v) (fun i h => (h.IsListIter J ax i ∧ h.IsList ax its) ∧ HotAt A x1 h) where
  sub := fun b hb => by simp at hb; simp [hb]
  frame := fun _ _ _ st hk => ⟨⟨st.1.1.at fun o e => hk J (by simp) o e, st.1.2.at fun o e => hk ax (by simp) o e⟩, by
    obtain ⟨_, o, vs, g, d, c⟩ := st.2
    exact ⟨hh, o, vs, hk x1 (by simp) o g, d, c⟩⟩
  item := fun i s Q E hi st hQ => by
    refine wpAny_pyNext_list_item st.1.1 st.1.2 (x := its[i]) (by simp [hi]) fun h' hit hs => ?_
    obtain ⟨_, o, vs, g, d, c⟩ := st.2
    exact hQ _ h' s.toks (by simp [hi]) ⟨⟨hit, st.1.2.extBut hs.extBut n1⟩, hh, o, vs, hs.extBut x1 o n2 g, d, c⟩ fun b u hb e => hs.extBut b u (fun z => hb (by simp [z])) e
  done := fun s Q E st hQ => next_end_hot st.2 n2 st.1.1 st.1.2 (by simp) fun h' he => hQ h' s.toks fun b o hb e => he b o (fun z => hb (by simp [z])) e
  self := fun _ _ _ _ st hQ => wpAny_pyIter_listiter st.1.1 hQ
end
section
variable {X : Cx}
theorem cr_allH (hot : L2H.HotC X) : CallR X (.builtin "all") (rAll X.K) := by
  intro pins s σ H vs us Q I r h
  obtain ⟨a, bs, rfl, hs, q⟩ := h
  obtain ⟨its, rv, hl, _⟩ := I.list hs
  obtain ⟨x1, hh, o1, v1, g1, d1, c1⟩ := hot.at I
  rw [Vals.ref1 r]
  have hb := rv.bls
  refine call_all_walk (iter_any hl.isList fun s2 e2 st hne => ?_)
  subst e2
  have n2 : x1 ≠ s.heap.objs.size := Nat.ne_of_lt (Heap.lt_size g1)
  refine ⟨_, _, _, _, _, _, _, rfl, walk_hot (A := X.A.in1) x1 _ a hh hne n2 its.toArray, ⟨st, hh, o1, v1, Heap.get?_push_of_some _ g1, d1, c1⟩, truth_bools hb, fun h' tk hk => ?_⟩
  refine ⟨.bl _, H, I.kept fun b o eo => hk b o (fun hm => ?_) (Heap.get?_push_of_some _ eo), ?_, q⟩
  · have e1 := List.mem_singleton.mp hm
    exact Nat.lt_irrefl _ (e1 ▸ Heap.lt_size eo)
  · show Value.bool _ = Value.bool _
    rw [← L2.all_range bs, hb, List.size_toArray, List.length_map]
end
end Dn

/-! DnL: a lambda handed to a def, over errors whose context is None (turned from the layer's own rule for other errors). -/
namespace Dn
open PySem PySem.Spec PyProof.Rows L2 LamX
/-- the context of the lambda's body -/
def lamN (Y : Cx) (A : Around) (out : List PySem.Env) (s : Shared) (H : Hp) (E : XK) (sc : Scope) (f c : Addr) : Cx :=
  (lamCx Y A out s H E sc f c).wish fun e s' => wpAny (model Y.prog Y.w) (A.deeper (lamEnv Y sc s.heap.objs.size f c)) (leaving (lamEnv Y sc s.heap.objs.size f c) e) (fun _ s2 => L2N.CX Y.prog Y.w out H s E e s2) (fun e2 s2 => L2N.CX Y.prog Y.w out H s E e2 s2) s'
section
variable {Y : Cx} {pins : List (Addr × Obj)} {σ : L2.St} {H0 : Hp} {s0 : Shared}
/-- the call of what was handed over -/
theorem act_n {CXg : CXT} {Eg : XK} {Ng : List Str} {qg : Str} {sg : Scope} {g f c : Addr} {cdg pmv ctv : Value} {ar : Arguments} {bd : Expr} {sc : Scope} {n i : Nat} {a : Str} {pn : List (Addr × Obj)} {xe : Value → Shared → Prop} {W : WX} {E : XK} {t : TE} {p1 p2 : Pos}
    (I : Inv Y pins σ H0 s0) (L : LamS Y.env.scope sc) (ho : s0.heap.get? f = some (PySem.W.kla_obj "<lambda>" (Y.env.qual ++ "<lambda>") ar bd sc (cloFrom Y.env.cells sc.names []) pmv c ctv)) (h1 : H0 f = none) (h2 : f ∉ frs Y.stack)
    (hbi : bindArgs (PySem.W.kla_fn "<lambda>" (Y.env.qual ++ "<lambda>") ar bd sc (cloFrom Y.env.cells sc.names []) pmv (.ref c) ctv) ⟨[], []⟩ = pure [])
    (tk : L2N.Takes ((cxOf CXg Y.prog Y.w Y.K Y.mg Y.base Ng qg sg g cdg Y.A Y.stack s0 H0 Eg).tr pn xe) W) (hW : ∀ cls d σ' H', E cls d H' → W cls d σ' H') (room : Room (n + 1) (Y.A.deeper (envOfC qg sg s0.heap.objs.size g cdg)))
    (hbd : ∀ (A : Around) (out : List PySem.Env) (s : Shared) (H : Hp), Room n (A.deeper (lamEnv Y sc s.heap.objs.size f c)) → PE (lamN Y A out s H E sc f c) bd t)
    (hN : Ng[i]? = some a) (hv : Vis sg a) (hd : (a == ("__debug__" : Str)) = false := by decide) (hcd : (a == ("__classdict__" : Str)) = false := by decide) :
    PE ((cxOf CXg Y.prog Y.w Y.K Y.mg Y.base Ng qg sg g cdg Y.A Y.stack s0 H0 Eg).tr pn xe) (.Call (.Name a p1) [] [] p2)
      (fun τ HZ Q => τ[i]? = some (some (.ref f)) ∧ HZ c = some (CodeO c (Y.env.qual ++ "<lambda>")) ∧ t σ HZ Q) := by
  refine ⟨fun pz sz τ HZ Q IZ h => ?_⟩
  obtain ⟨hs, hc, ht⟩ := h
  refine wpAny_Call_Name_kw (thn ((pe_var (pos := p1) (i := i) hN hv hd hcd).run pz sz τ HZ (fun v H1 => v = .ref f ∧ H1 = HZ) IZ ⟨.ref f, hs, rfl, rfl⟩) fun u s1 ⟨v, H1, I1, r1, q1⟩ => ?_)
  obtain ⟨ev, eH⟩ := q1
  subst ev
  rw [eH] at I1
  have eu : u = Value.ref f := r1
  subst eu
  have o1 : s1.heap.get? f = some (PySem.W.kla_obj "<lambda>" (Y.env.qual ++ "<lambda>") ar bd sc (cloFrom Y.env.cells sc.names []) pmv c ctv) := I1.base.keep f _ ho h1 h2 (fun z => by cases (show f ∈ ([] : List Addr) from z))
  refine PySem.W.callWith_F0 ⟨_, _, _, _, o1⟩ ?_
  have un : Un (frs Y.stack) [] H0 HZ s0.heap s1.heap := I1.base
  obtain ⟨⟨oc, vs, tt, hoc, hdc, hvc⟩, _, _⟩ := I1.hok c _ hc
  have run : codeAny (model Y.prog Y.w) (Y.A.deeper (envOfC qg sg s0.heap.objs.size g cdg)) (.call (.ref f) ⟨[], []⟩) (CR (L2N.CX Y.prog Y.w) (envOfC qg sg s0.heap.objs.size g cdg :: Y.stack) Y.prog Y.w HZ s1 Q E) s1 := by
    refine PySem.W.kla_callFunE room.depth o1 rfl L.co L.gen rfl ⟨c, oc, vs, tt, rfl, hoc, hdc, hvc⟩ ?_
    rw [hbi]
    refine wpAny_pure (wpAny_newFunctionEnv (fun y hy => (L.own y hy).2) (fun y hy => by cases hy) (fun hp hns hsb => ⟨I1.nolimit.fresh _ hsb, ?_⟩) L.kind)
    show codeAny _ _ (.expr bd (lamEnv Y sc s1.heap.objs.size f c)) _ _
    have kp : ∀ b o, s1.heap.get? b = some o → hp.get? b = some o := fun b o e => hsb.extBut b o (Nat.ne_of_lt (Heap.lt_size e)) (Heap.get?_push_of_some _ e)
    have J0 := lam_start2 (E := E) (f := f) (c' := c) (tk := s1.toks + ([] : List (Str × Value)).length) I L I1.env0 room.hd un hns kp
    have J := J0.wish fun e s' => wpAny (model Y.prog Y.w) ((Y.A.deeper (envOfC qg sg s0.heap.objs.size g cdg)).deeper (lamEnv Y sc s1.heap.objs.size f c)) (leaving (lamEnv Y sc s1.heap.objs.size f c) e) (fun _ s2 => L2N.CX Y.prog Y.w (envOfC qg sg s0.heap.objs.size g cdg :: Y.stack) HZ s1 E e s2) (fun e2 s2 => L2N.CX Y.prog Y.w (envOfC qg sg s0.heap.objs.size g cdg :: Y.stack) HZ s1 E e2 s2) s'
    refine PySem.W.kla_codeExpr (wpAny_mono ((hbd _ _ s1 HZ (room.deeper _)).run [] _ _ HZ Q J ht) (fun v s' hq => ?_) fun e s' hq => hq)
    obtain ⟨w2, H2, J2, rv, q⟩ := hq
    exact ⟨w2, H2, J2.os, J2.bare, J2.base, J2.hok, rv, q⟩
  have hx : Passes (L2N.CX Y.prog Y.w) ((cxOf CXg Y.prog Y.w Y.K Y.mg Y.base Ng qg sg g cdg Y.A Y.stack s0 H0 Eg).tr pn xe) E := L2N.passes_call tk hW
  refine wpAny_call (codeAny_mono run fun r s' hq => ?_)
  match r, hq with
  | .error e, hq => exact hx pz τ HZ s1 e s' I1 hq
  | .ok (.ret u), hq => exact I1.after hq
  | .ok .next, hq => exact False.elim hq
  | .ok .brk, hq => exact False.elim hq
  | .ok .cont, hq => exact False.elim hq
end
/-- what a def makes of what it was handed -/
def GivesN (Y : Cx) (Ng : List Str) (x : Str) (sg : Scope) (g : Addr) (cdg : Value) (bg : List Stmt) (a : Str) (q : Str) (TT : (XK → Hp → VK → Prop) → Hp → VK → Prop) : Prop :=
  ∀ (f c : Addr) (s : Shared) (H : Hp) (Q : VK) (tl : XK → Hp → VK → Prop),
    (∀ (W : WX) (pn : List (Addr × Obj)) (xe : Value → Shared → Prop) (E : XK) (p1 p2 : Pos), L2N.Takes ((cxOf C8.CX0 Y.prog Y.w Y.K Y.mg Y.base Ng x sg g cdg Y.A Y.stack s H C8.E0).tr pn xe) W → (∀ cls d σ' H', E cls d H' → W cls d σ' H') →
      PE ((cxOf C8.CX0 Y.prog Y.w Y.K Y.mg Y.base Ng x sg g cdg Y.A Y.stack s H C8.E0).tr pn xe) (.Call (.Name a p1) [] [] p2) (fun τ HZ Q => τ[0]? = some (some (.ref f)) ∧ HZ c = some (CodeO c q) ∧ tl E HZ Q)) →
    H c = some (CodeO c q) → TT tl H Q →
    ∃ t, PSs (cxOf C8.CX0 Y.prog Y.w Y.K Y.mg Y.base Ng x sg g cdg Y.A Y.stack s H C8.E0).nox bg t ∧ t { nx := fun _ H2 => Q .non H2, rt := Q } (L2.start Ng [.ref f]) H
section
variable {Y : Cx}
/-- x(lambda: body) -/
theorem lamcall_n {T : List (Addr × Str)} {TT : (XK → Hp → VK → Prop) → Hp → VK → Prop} {x a : Str} {g c P : Addr} {n : Nat} {pg : Arguments} {bg : List Stmt} {sg : Scope} {dV kV doc pm cdv ct oc : Value} {an od : Option Addr} {osl : Array (Option Value)} {Ng : List Str}
    {ar : Arguments} {bd : Expr} {sc : Scope} {t : XK → TE} {p lp pos : Pos} (hg : Gl Y x) (hm : Y.mg x = some (.ref g)) (hk : PySem.W.keepIn Y.K (.ref g) = true)
    (lk : Y.K.lookup g = some ⟨oc, od, .func (PySem.W.fnOf x x pg bg sg dV kV doc pm an cdv ct), osl⟩) (hcg : PySem.W.codeIn Y.K cdv x = true) (hb : L2.Binds Y.K (PySem.W.fnOf x x pg bg sg dV kV doc pm an cdv ct) [a] []) (Sg : FnScope Ng [a] sg) (hNg : Ng[0]? = some a) (hva : Vis sg a)
    (hG : GivesN Y Ng x sg g cdv bg a (Y.env.qual ++ "<lambda>") TT)
    (TB : TabB Y.base Y.mg c P) (hco : Y.env.code = .ref c) (hmT : (P, Y.env.qual ++ "<lambda>") ∈ T) (hu : ∀ p ∈ T, p.1 = P → p.2 = Y.env.qual ++ "<lambda>") (room : Room (n + 2) Y.A) (L : LamS Y.env.scope sc) (hdf : defaultsOf ar Y.env = ([], []))
    (hbi : ∀ (q : Str) (cl : List (Str × Addr)) (pm cv ctv : Value), bindArgs (PySem.W.kla_fn "<lambda>" q ar bd sc cl pm cv ctv) ⟨[], []⟩ = pure [])
    (hbd : ∀ (A : Around) (out : List PySem.Env) (s : Shared) (H : Hp) (E : XK) (f c : Addr), Room n (A.deeper (lamEnv Y sc s.heap.objs.size f c)) → PE (lamN Y A out s H E sc f c) bd (t E))
    (hdb : (x == ("__debug__" : Str)) = false := by decide) (hd : (a == ("__debug__" : Str)) = false := by decide) (hcd : (a == ("__classdict__" : Str)) = false := by decide) :
    PE Y (.Call (.Name x p) [.Lambda ar bd sc lp] [] pos) (tLam T TT t) := by
  refine ⟨fun pins s σ H Q I ⟨hT, h⟩ => ?_⟩
  refine wpAny_Call_Name_kw (ld_glob I hg hm ?_ hdb)
  refine PySem.W.callWith_K (h₀ := Y.base) I.ok.mod.kin hk ?_ (by rfl) (by rfl)
  show wpAny _ _ (spliced ((false, eval (.Lambda ar bd sc lp) Y.env) :: backTo pos (starEach [] Y.env))) _ _ s
  refine Calls.spliced_cons (lam_make2 I TB hco hmT hu hT hdf (L.has I.ok) fun f c2 pm2 ct2 H1 s1 I1 eN T1 hf hfn hfr hc2 => Calls.spliced_nil ⟨I1.kIn, ?_⟩)
  have run : codeAny (model Y.prog Y.w) Y.A (.call (.ref g) ⟨[.ref f], []⟩) (CR C8.CX0 Y.stack Y.prog Y.w H1 s1 Q C8.E0) s1 := by
    refine run_ofS (N := Ng) (ps := [a]) (us := [.ref f]) (vs := [.ref f]) lk hcg Sg room I1.env0 (hb s1 [.ref f] I1.kIn rfl) (.cons rfl .nil) rfl fun room2 => ?_
    have act := fun W pn xe E p1 p2 tk hW => act_n (p1 := p1) (p2 := p2) (pn := pn) (xe := xe) (W := W) (E := E) (CXg := C8.CX0) (Eg := C8.E0) (i := 0) I1 L hf hfn hfr (hbi _ _ _ _ _) tk hW room2 (fun A out s H r2 => hbd A out s H E f c2 r2) hNg hva hd hcd
    obtain ⟨t2, ht2, hq2⟩ := hG f c2 s1 H1 Q (fun E H2 Q2 => t E σ H2 Q2) act hc2 (h H1 eN T1)
    exact ⟨t2, ht2.nox, hq2⟩
  refine wpAny_call (codeAny_mono run fun r s2 hq => ?_)
  match r, hq with
  | .error e, hq => exact (show False from hq).elim
  | .ok (.ret u), hq => exact I1.after hq
  | .ok .next, hq => exact False.elim hq
  | .ok .brk, hq => exact False.elim hq
  | .ok .cont, hq => exact False.elim hq
theorem takes0N : L2N.Takes Y (fun _ _ _ _ => False) := fun _ _ x => by
  obtain ⟨_, _, _, _, _, _, _, _, _, _, _, _, _, _, _, _, z⟩ := x
  exact z.elim
end
end Dn

/-! Dn17: the laws' word of a deed: try, except, a lambda. -/
namespace Dn
open PySem PySem.Spec PyProof.Rows L2
def nmX : Nat → Str
  | 0 => "NoText"
  | 1 => "NoRow"
  | _ => "Unlike"
/-- what is known of the three error classes -/
structure Xw (G : Gc) (mg : Str → Option Value) : Prop where
  he : mg "HeapError" = some (.ref (He.ga G.K "HeapError"))
  isi : mg "isinstance" = none
  ve : mg "ValueError" = none
  glo : ∀ k, k < 3 → mg (nmX k) = some (.ref (He.ga G.K (nmX k)))
  ex : ∀ k, k < 3 → G.ex k = .ref (He.ga G.K (nmX k))
  exm : ∀ k, k < 3 → PySem.W.exmOne G.K (.ref (He.ga G.K (nmX k))) (.ref (He.ga G.K "HeapError")) = some true
  exc : ∀ k, k < 3 → ExcC G.K (He.ga G.K (nmX k))
  kit : ∀ j k, j < 3 → k < 3 → PySem.W.kitOne G.K (.ref (He.ga G.K (nmX j))) (.ref (He.ga G.K (nmX k))) = some (decide (j = k))
  kve : ∀ k, k < 3 → PySem.W.kitOne G.K (.ref (He.ga G.K (nmX k))) (.type "ValueError") = some true
def bl3 (k : Nat) : List V := [.bl (decide (k = 0)), .bl (decide (k = 1)), .bl (decide (k = 2))]
/-- told, or refused and which -/
def EW (G : Gc) (f : Nat → V) (Q : VK) : XK := fun cls d H' => ∃ k, k < 3 ∧ cls = G.ex k ∧ d = none ∧ ∀ p H2, Same H' H2 → H' p = none → H2 p = some (.tup [.str "refused", f k]) → Q (.ref p) H2
def QW (Q : VK) : VK := fun v H' => ∀ p, H' p = none → Q (.ref p) (upd H' p (.tup [.str "told", v]))
def TTword (G : Gc) (f : Nat → V) : (XK → Hp → VK → Prop) → Hp → VK → Prop := fun tl H Q => ∀ (E' : XK) (Q' : VK), (∀ cls d H', EW G f Q cls d H' → E' cls d H') → (∀ v H', QW Q v H' → Q' v H') → tl E' H Q'
section
variable {G : Gc} {X Z : Cx}
/-- isinstance(e, C) in the suite -/
theorem pe_isX {a : Addr} {oe : Obj} {pn : List (Addr × Obj)} {k j : Nat} {p1 p2 p3 pos : Pos} (hK : Z.K = G.K) (W : Xw G Z.mg) (hk : k < 3) (hj : j < 3) (hz : Zc (.ref (He.ga G.K (nmX k))) none oe) (hf : ∃ vs, oe.data = .fields vs)
    (hg : Gl Z "isinstance") (hgc : Gl Z (nmX j)) (hN : Z.N[2]? = some ("e" : Str)) (hv : Vis Z.env.scope "e") :
    PE (Z.suite a ((a, oe) :: pn)) (.Call (.Name "isinstance" p1) [.Name "e" p2, .Name (nmX j) p3] [] pos) (fun σ H Q => σ[2]? = some (some (.ref a)) ∧ Q (.bl (decide (k = j))) H) := by
  have hd : (nmX j == ("__debug__" : Str)) = false := by
    match j, hj with
    | 0, _ => rfl
    | 1, _ => rfl
    | 2, _ => rfl
  have C : ExcC Z.K (He.ga G.K (nmX k)) := by rw [hK]; exact W.exc k hk
  refine PE.imp (pe_callB (call_isE (X := Z) (a := a) (D := He.ga G.K (nmX k)) (oe := oe) (pn := pn) C hz hf) hg W.isi (by decide +kernel) (pa_cons (pe_var (i := 2) hN hv (by decide) (by decide)) (pa_cons (pe_glob (v := .ref (He.ga G.K (nmX j))) hgc (W.glo j hj) rfl hd) pa_nil))) fun σ H Q ⟨h1, h2⟩ => ?_
  refine ⟨.ref a, h1, .ref (He.ga G.K (nmX j)), .ref (He.ga G.K (nmX j)), decide (k = j), rfl, fun u r => r, ?_, h2⟩
  rw [hK]; exact W.kit k j hk hj
theorem pe_isV {a : Addr} {oe : Obj} {pn : List (Addr × Obj)} {k : Nat} {p1 p2 p3 pos : Pos} (hK : Z.K = G.K) (W : Xw G Z.mg) (hk : k < 3) (hz : Zc (.ref (He.ga G.K (nmX k))) none oe) (hf : ∃ vs, oe.data = .fields vs)
    (hg : Gl Z "isinstance") (hgc : Gl Z "ValueError") (hN : Z.N[2]? = some ("e" : Str)) (hv : Vis Z.env.scope "e") :
    PE (Z.suite a ((a, oe) :: pn)) (.Call (.Name "isinstance" p1) [.Name "e" p2, .Name "ValueError" p3] [] pos) (fun σ H Q => σ[2]? = some (some (.ref a)) ∧ Q (.bl true) H) := by
  have C : ExcC Z.K (He.ga G.K (nmX k)) := by rw [hK]; exact W.exc k hk
  refine PE.imp (pe_callB (call_isE (X := Z) (a := a) (D := He.ga G.K (nmX k)) (oe := oe) (pn := pn) C hz hf) hg W.isi (by decide +kernel) (pa_cons (pe_var (i := 2) hN hv (by decide) (by decide)) (pa_cons (pe_bltn (v := .ty "ValueError") hgc W.ve (by decide +kernel) rfl) pa_nil))) fun σ H Q ⟨h1, h2⟩ => ?_
  refine ⟨.ref a, h1, .ty "ValueError", .type "ValueError", true, rfl, fun u r => r, ?_, h2⟩
  rw [hK]; exact W.kve k hk
end
/-! ### the suite -/
section
variable {G : Gc} {Z : Cx}
/-- a list of bools in the heap, as data -/
theorem bl_heap {K : PySem.W.Frag} {H : Hp} {p : Addr} {bs : List Bool} (hp : H p = some (.lst (bs.map V.bl))) (hb : bs.length ≤ 10) : ∃ F, Same F H ∧ StoRel ⟨K, [], fun _ => .none, 0⟩ F H [] [] ∧ Rp K F (osOf []) (.ref p) (.list (bs.map D.bool)) ∧ okDs 39 (bs.map D.bool) = true := by
  refine ⟨fun b => if b = p then some (.lst (bs.map V.bl)) else none, fun b o e => ?_, ⟨rfl, fun k p i e => by simp at e, List.nodup_nil, fun a ha => (by cases ha), fun p hp => (by cases hp), fun a ps e => ?_⟩, Rp.lst (vs := bs.map V.bl) (by simp) ?_ (by rw [List.length_map]; exact Nat.le_trans hb (by decide)), ?_⟩
  · by_cases hb : b = p
    · simp only [hb, if_true] at e; cases e; rw [hb]; exact hp
    · simp only [hb, if_false] at e; cases e
  · by_cases hb : a = p <;> simp [hb] at e
  · have : ∀ (F : Hp) (cs : List Bool), RpAll K F (osOf []) (cs.map V.bl) (cs.map D.bool) := fun F cs => by
      induction cs with
      | nil => exact .nil
      | cons c cs ih => exact .cons (.bl c) ih
    exact this _ bs
  · clear hp hb
    induction bs with
    | nil => rfl
    | cons b bs ih => simp [okDs, okD, ih]
theorem cnt_bl {K : PySem.W.Frag} {H : Hp} {p : Addr} {bs : List Bool} {n : Nat} {Q : VK} (hp : H p = some (.lst (bs.map V.bl))) (hb : bs.length ≤ 10) (hn : (bs.map D.bool).countP (fun z => eqB z (.bool true)) = n) (k : ∀ H', Same H H' → Q (.int n) H') : rCntD K (.ref p) [.bl true] H Q := by
  obtain ⟨F, s, S, r, ok⟩ := bl_heap (K := K) hp hb
  have g : countD (.list (bs.map D.bool)) [.bool true] = some (.int n) := by
    simp only [countD]
    rw [if_pos (by simp [okD, ok]), hn]
  refine v_count (G := ⟨K, [], fun _ => .none, 0⟩) F H [] [] (.ref p) [.bl true] _ _ _ Q s S (.inl r) (.cons (.inl (.bl true)) .nil) g fun v H' F' gr r => ?_
  cases r; exact k H' gr.h
theorem idx_bl {K : PySem.W.Frag} {H : Hp} {p : Addr} {bs : List Bool} {n : Nat} {Q : VK} (hp : H p = some (.lst (bs.map V.bl))) (hb : bs.length ≤ 10) (hn : findIx (.bool true) (bs.map D.bool) 0 = some n) (k : ∀ H', Same H H' → Q (.int n) H') : rIndexD K (.ref p) [.bl true] H Q := by
  obtain ⟨F, s, S, r, ok⟩ := bl_heap (K := K) hp hb
  have g : indexD (.list (bs.map D.bool)) [.bool true] = some (.int n) := by
    simp only [indexD]
    rw [if_pos (by simp [okD, ok]), hn]; rfl
  refine v_index (G := ⟨K, [], fun _ => .none, 0⟩) F H [] [] (.ref p) [.bl true] _ _ _ Q s S (.inl r) (.cons (.inl (.bl true)) .nil) g fun v H' F' gr r => ?_
  cases r; exact k H' gr.h
/-- what the suite leads to -/
def fInt : Nat → V := fun k => .int (k : Nat)
def tsW (G : Gc) (f : Nat → V) : Addr → Value → Option Addr → TS := fun a cls d D σ H => ∃ k, k < 3 ∧ cls = .ref (He.ga G.K (nmX k)) ∧ d = none ∧ σ[2]? = some (some (.ref a)) ∧ σ.length = 4 ∧
  ∀ p q H2, Same H H2 → H p = none → H2 p = some (.tup [.str "refused", f k]) → D.nx ((σ.set 3 (some (.ref q))).set 1 (some (.ref p))) H2
def sui (p : Nat → Pos) (k1 k2 j1 j2 j3 j4 j5 j6 : Nat) : List Stmt :=
  [.Assign [.Name "kinds" (p 0)] (.List [.Call (.Name "isinstance" (p 1)) [.Name "e" (p 2), .Name "NoText" (p 3)] [] (p 4), .Call (.Name "isinstance" (p 5)) [.Name "e" (p 6), .Name "NoRow" (p 7)] [] (p 8), .Call (.Name "isinstance" (p 9)) [.Name "e" (p 10), .Name "Unlike" (p 11)] [] (p 12)] (p 13)) (p 14),
   .Assign [.Name "found" (p 15)] (.Tuple [.Constant (.str "refused") j1 (p 16), .UnaryOp .USub (.Constant (.int 1) j2 (p 17)) (p 18)] k1 (p 19)) (p 20),
   .If (.BoolOp .And [.Call (.Name "isinstance" (p 21)) [.Name "e" (p 22), .Name "ValueError" (p 23)] [] (p 24), .Compare (.Call (.Attribute (.Name "kinds" (p 25)) "count" (p 26)) [.Constant (.bool true) j3 (p 27)] [] (p 28)) [.Eq] [.Constant (.int 1) j4 (p 29)] (p 30)] (p 31))
     [.Assign [.Name "found" (p 32)] (.Tuple [.Constant (.str "refused") j5 (p 33), .Call (.Attribute (.Name "kinds" (p 34)) "index" (p 35)) [.Constant (.bool true) j6 (p 36)] [] (p 37)] k2 (p 38)) (p 39)] [] (p 40)]
theorem cnt3 : ∀ k, k < 3 → (([decide (k = 0), decide (k = 1), decide (k = 2)] : List Bool).map D.bool).countP (fun z => eqB z (.bool true)) = 1 := by decide
theorem idx3 : ∀ k, k < 3 → findIx (.bool true) (([decide (k = 0), decide (k = 1), decide (k = 2)] : List Bool).map D.bool) 0 = some k := by decide
theorem suite_ok {a : Addr} {oe : Obj} {pn : List (Addr × Obj)} {cls : Value} {d : Option Addr} {p : Nat → Pos} {k1 k2 j1 j2 j3 j4 j5 j6 : Nat} (hK : Z.K = G.K) (W : Xw G Z.mg) (hu : Z.A.units + 65 < cLine) (hN : Z.N = (["deed", "found", "e", "kinds"] : List Str)) (hz : Zc cls d oe) (hf : ∃ vs, oe.data = .fields vs)
    (g1 : Gl Z "isinstance") (g2 : ∀ j, j < 3 → Gl Z (nmX j)) (g3 : Gl Z "ValueError") (l1 : Z.env.scope.names.lookup ("found" : Str) = some .local) (l2 : Z.env.scope.names.lookup ("e" : Str) = some .local) (l3 : Z.env.scope.names.lookup ("kinds" : Str) = some .local)
    (q1 : ((p 26).endLine == (p 28).line) = true) (q2 : ((p 35).endLine == (p 37).line) = true) :
    PSs (Z.suite a ((a, oe) :: pn)) (sui p k1 k2 j1 j2 j3 j4 j5 j6) (tsW G fInt a cls d) := by
  by_cases hcl : ∃ k, k < 3 ∧ cls = .ref (He.ga G.K (nmX k)) ∧ d = none
  · obtain ⟨k, hk, rfl, rfl⟩ := hcl
    have nd : Z.N.Nodup := by rw [hN]; decide
    have i1 : Z.N[1]? = some ("found" : Str) := by rw [hN]; rfl
    have i2 : Z.N[2]? = some ("e" : Str) := by rw [hN]; rfl
    have i3 : Z.N[3]? = some ("kinds" : Str) := by rw [hN]; rfl
    have hu' : (Z.suite a ((a, oe) :: pn)).A.units + 65 < cLine := hu
    have s1 := ps_set (X := Z.suite a ((a, oe) :: pn)) (i := 3) (pos := p 14) (pos' := p 0) nd i3 (.inl l3) (pe_lst (pos := p 13) (pa_cons (pe_isX (p1 := p 1) (p2 := p 2) (p3 := p 3) (pos := p 4) (pn := pn) hK W hk (show 0 < 3 by decide) hz hf g1 (g2 0 (by decide)) i2 (.inl l2)) (pa_cons (pe_isX (p1 := p 5) (p2 := p 6) (p3 := p 7) (pos := p 8) (pn := pn) hK W hk (show 1 < 3 by decide) hz hf g1 (g2 1 (by decide)) i2 (.inl l2)) (pa_cons (pe_isX (p1 := p 9) (p2 := p 10) (p3 := p 11) (pos := p 12) (pn := pn) hK W hk (show 2 < 3 by decide) hz hf g1 (g2 2 (by decide)) i2 (.inl l2)) pa_nil)))) rfl (.inr l3)
    have es : ∀ (j : Nat) (q : Pos), PE (Z.suite a ((a, oe) :: pn)) (.Constant (.str "refused") j q) (tC (.str "refused")) := fun _ _ => pe_str
    have e1 : ∀ (j : Nat) (q : Pos), PE (Z.suite a ((a, oe) :: pn)) (.Constant (.int 1) j q) (tC (.int 1)) := fun _ _ => pe_int
    have eb : ∀ (j : Nat) (q : Pos), PE (Z.suite a ((a, oe) :: pn)) (.Constant (.bool true) j q) (tC (.bl true)) := fun _ _ => pe_bl
    have ek : ∀ q : Pos, PE (Z.suite a ((a, oe) :: pn)) (.Name "kinds" q) (tVar 3) := fun _ => pe_var i3 (.inl l3) (by decide) (by decide)
    have s2 := ps_set (X := Z.suite a ((a, oe) :: pn)) (i := 1) (pos := p 20) (pos' := p 15) nd i1 (.inl l1) (pe_tup (x1 := k1) (pos := p 19) (pa_cons (es j1 (p 16)) (pa_cons (pe_un (pos := p 18) un_neg (e1 j2 (p 17))) pa_nil))) rfl (.inr l1)
    have ec := pe_bm (X := Z.suite a ((a, oe) :: pn)) (apos := p 26) (cpos := p 28) PySem.F.plainAttrs_list PySem.F.slot_list_count PySem.F.type_list_count (mt_countD hu') (ek (p 25)) (pa_cons (eb j3 (p 27)) pa_nil) rfl rfl q1 rfl rfl
    have ei := pe_bm (X := Z.suite a ((a, oe) :: pn)) (apos := p 35) (cpos := p 37) PySem.F.plainAttrs_list PySem.F.slot_list_index PySem.F.type_list_index (mt_indexD hu') (ek (p 34)) (pa_cons (eb j6 (p 36)) pa_nil) rfl rfl q2 rfl rfl
    have s4 := ps_set (X := Z.suite a ((a, oe) :: pn)) (i := 1) (pos := p 39) (pos' := p 32) nd i1 (.inl l1) (pe_tup (x1 := k2) (pos := p 38) (pa_cons (es j5 (p 33)) (pa_cons ei pa_nil))) rfl (.inr l1)
    have ev := pe_isV (Z := Z) (a := a) (p1 := p 21) (p2 := p 22) (p3 := p 23) (pos := p 24) (pn := pn) hK W hk hz hf g1 g3 i2 (.inl l2)
    have s3 := ps_if (pos := p 40) (PW.pt (pw_and (pos := p 31) (pt_val ev) (pw_and1 (pos := p 31) (pt_cmpR (pos := p 30) op_eq ec (e1 j4 (p 29)) (nomark _))))) (pss_one s4) pss_nil
    refine PSs.imp (pss_cons s1 (pss_cons s2 (pss_one s3))) fun D σ H h => ?_
    obtain ⟨k', hk', ec', _, h2, hl, h⟩ := h
    have ek2 : k = k' := by
      have x1 := W.kit k k hk hk
      have x2 := W.kit k k' hk hk'
      have ea : He.ga G.K (nmX k) = He.ga G.K (nmX k') := by injection ec'
      rw [← ea, x1] at x2
      have := Option.some.inj x2
      simpa using this.symm
    subst ek2
    refine ⟨h2, h2, h2, by show 3 ≤ sizeLine; decide, fun p1 hp1 => ?_⟩
    have n1 : H p1 = none := hp1
    refine ⟨1, rfl, by show 2 ≤ sizeLine; decide, fun p2 hp2 => ?_⟩
    have hp1' : (upd (upd H p1 (.lst (([decide (k = 0), decide (k = 1), decide (k = 2)] : List Bool).map V.bl))) p2 (.tup [.str "refused", .int (-1)])) p1 = some (.lst (([decide (k = 0), decide (k = 1), decide (k = 2)] : List Bool).map V.bl)) := by
      rw [upd_ne (fun z => by rw [← z] at hp2; have hp2 : (upd H p1 _) p1 = none := hp2; rw [upd_same] at hp2; cases hp2), upd_same]
    have l3' : ((σ.set 3 (some (.ref p1))).set 1 (some (.ref p2)))[3]? = some (some (V.ref p1)) := by
      rw [List.getElem?_set_ne (by decide), List.getElem?_set_self (by omega)]
    have l2' : ((σ.set 3 (some (.ref p1))).set 1 (some (.ref p2)))[2]? = some (some (V.ref a)) := by
      rw [List.getElem?_set_ne (by decide), List.getElem?_set_ne (by decide)]; exact h2
    have hp2n : p2 ≠ p1 := fun z => by rw [z] at hp2; have hp2 : (upd H p1 _) p1 = none := hp2; rw [upd_same] at hp2; cases hp2
    have sm : ∀ H2, Same (upd (upd H p1 (.lst (([decide (k = 0), decide (k = 1), decide (k = 2)] : List Bool).map V.bl))) p2 (.tup [.str "refused", .int (-1)])) H2 → Same H H2 := fun H2 z b o e => by
      have b1 : b ≠ p1 := fun q => by rw [q, n1] at e; cases e
      have b2 : b ≠ p2 := fun q => by
        have hp2 : (upd H p1 _) p2 = none := hp2
        rw [upd_ne hp2n] at hp2
        rw [q, hp2] at e; cases e
      exact z b o (by rw [upd_ne b2, upd_ne b1]; exact e)
    refine ⟨l2', true, rfl, ?_⟩
    generalize hH2 : (upd (upd H p1 (.lst (([decide (k = 0), decide (k = 1), decide (k = 2)] : List Bool).map V.bl))) p2 (.tup [.str "refused", .int (-1)])) = H2 at hp1' sm
    generalize hσ : ((σ.set 3 (some (V.ref p1))).set 1 (some (V.ref p2))) = σ2 at l3' l2'
    show (if true = true then _ else _)
    rw [if_pos rfl]
    show tTest _ _ (upd (upd H p1 (.lst (([decide (k = 0), decide (k = 1), decide (k = 2)] : List Bool).map V.bl))) p2 (.tup [.str "refused", .int (-1)])) _
    rw [hH2]
    refine ⟨.ref p1, l3', .inl ⟨rfl, _, .of hp1'⟩, ?_⟩
    simp only [tCons, tC, tNil]
    refine cnt_bl (n := 1) hp1' (by show 3 ≤ 10; decide) (cnt3 k hk) fun H3 s3 => ?_
    refine ⟨rfl, true, by rw [decide_eq_true (show V.int ((1 : Nat) : Int) = V.int 1 from rfl)], ?_⟩
    show (if true = true then _ else _)
    rw [if_pos rfl]
    refine ⟨.ref p1, l3', .inl ⟨rfl, _, .of (s3 _ _ hp1')⟩, ?_⟩
    simp only [tCons, tC, tNil]
    refine idx_bl (n := k) (s3 _ _ hp1') (by show 3 ≤ 10; decide) (idx3 k hk) fun H4 s4 => ?_
    refine ⟨by show 2 ≤ sizeLine; decide, fun p3 hp3 => ?_⟩
    have s5 : Same H2 H4 := fun b o e => s4 b o (s3 b o e)
    have s6 : Same H4 (upd H4 p3 (.tup [.str "refused", .int (k : Nat)])) := fun b o e => by rw [upd_ne (ne_of_none e hp3)]; exact e
    have fin := h p3 p1 (upd H4 p3 (.tup [.str "refused", .int (k : Nat)])) (sm _ fun b o e => s6 b o (s5 b o e)) ?_ upd_same
    · show D.nx (σ2.set 1 (some (.ref p3))) _
      rw [← hσ, List.set_set]
      exact fin
    · cases q : H p3 with
      | none => rfl
      | some o =>
        have := sm H4 s5 p3 o q
        rw [hp3] at this; cases this
  · exact ⟨fun pins s σ H D I h => by
      obtain ⟨k, h1, h2, h3, _⟩ := h
      exact absurd ⟨k, h1, h2, h3⟩ hcl⟩
end
theorem takes_len {X : Cx} {W : WX} (t : L2N.Takes X W) : L2N.Takes X (fun cls d σ H => σ.length = X.N.length → W cls d σ H) := fun u s' ⟨a, B, sI, pins, σ, H, cls, d, e, I, nb, up, sky, na, os, ag, w⟩ =>
  t u s' ⟨a, B, sI, pins, σ, H, cls, d, e, I, nb, up, sky, na, os, ag, w I.len⟩
def wordB (q p : Nat → Pos) (k j k1 k2 j1 j2 j3 j4 j5 j6 : Nat) : List Stmt :=
  [.Try [.Assign [.Name "found" (q 0)] (.Tuple [.Constant (.str "told") j (q 1), .Call (.Name "deed" (q 2)) [] [] (q 3)] k (q 4)) (q 5)] [.ExceptHandler (some (.Name "HeapError" (q 6))) (some "e") (sui p k1 k2 j1 j2 j3 j4 j5 j6) (q 7)] [] [] (q 8),
   .Return (some (.Name "found" (q 9))) (q 10)]
section
variable {G : Gc} {X : Cx}
theorem word_gives {x qn : Str} {sg : Scope} {g : Addr} {cdg : Value} {q p : Nat → Pos} {k j k1 k2 j1 j2 j3 j4 j5 j6 : Nat} (hK : X.K = G.K) (W : Xw G X.mg) (hu : X.A.units + 80 < cLine)
    (g1 : sg.names.lookup ("isinstance" : Str) = some .globalImplicit) (g2 : ∀ j, j < 3 → sg.names.lookup (nmX j) = some .globalImplicit) (g3 : sg.names.lookup ("ValueError" : Str) = some .globalImplicit) (g4 : sg.names.lookup ("HeapError" : Str) = some .globalImplicit)
    (l0 : sg.names.lookup ("deed" : Str) = some .local) (l1 : sg.names.lookup ("found" : Str) = some .local) (l2 : sg.names.lookup ("e" : Str) = some .local) (l3 : sg.names.lookup ("kinds" : Str) = some .local)
    (q1 : ((p 26).endLine == (p 28).line) = true) (q2 : ((p 35).endLine == (p 37).line) = true) :
    GivesN X ["deed", "found", "e", "kinds"] x sg g cdg (wordB q p k j k1 k2 j1 j2 j3 j4 j5 j6) "deed" qn (TTword G fInt) := by
  intro f c' s H Q tl act hc h
  have i1 : (["deed", "found", "e", "kinds"] : List Str)[1]? = some ("found" : Str) := rfl
  have nd : (["deed", "found", "e", "kinds"] : List Str).Nodup := by decide
  refine ⟨_, pss_cons (L2N.ps_try_as (X := (cxOf C8.CX0 X.prog X.w X.K X.mg X.base ["deed", "found", "e", "kinds"] x sg g cdg X.A X.stack s H C8.E0).nox) (i := 2) (n := "e") (c := .ref (He.ga G.K "HeapError")) (Wout := fun _ _ _ _ => False) (ts := tsW G fInt)
      (tb := fun Wx D σ H => ∃ Ech : XK, (∀ cls d σ' H', Ech cls d H' → σ'.length = 4 → Wx cls d σ' H') ∧ σ[0]? = some (some (.ref f)) ∧ H c' = some (LamX.CodeO c' qn) ∧ tl Ech H fun v H1 => ([.str "told", v] : List V).length ≤ sizeLine ∧ ∀ p, H1 p = none → D.nx (σ.set 1 (some (.ref p))) (upd H1 p (.tup [.str "told", v])))
      rfl rfl nd rfl l2 ⟨g4, by decide, .inl W.he⟩ takes0N (fun Wx pn xe tk _ => ?_) (fun a oe cls d pn hz hf => ?_)) (pss_one (ps_ret (pe_var (i := 1) i1 (.inl l1) (by decide) (by decide)))), ?_⟩
  · refine ⟨fun pins s' σ H' D I h' => ?_⟩
    obtain ⟨Ech, hW, h1, h2, h3⟩ := h'
    have hp := act _ pn xe Ech (q 2) (q 3) (takes_len tk) (fun cls d σ' H' e el => hW cls d σ' H' e el)
    have hq := pss_one (ps_set (i := 1) (pos := q 5) (pos' := q 0) nd i1 (.inl l1) (pe_tup (x1 := k) (pos := q 4) (pa_cons (pe_str (x := "told") (j := j) (pos := q 1)) (pa_cons hp pa_nil))) rfl (.inr l1))
    exact hq.run pins s' σ H' D I ⟨h1, h2, h3⟩
  · exact suite_ok hK W (by show X.A.units + 3 + 65 < cLine; omega) rfl hz.zc hf g1 g2 g3 l1 l2 l3 q1 q2
  · refine ⟨EW G fInt Q, fun cls d σ' H' hE hl => ?_, rfl, hc, h _ _ (fun _ _ _ z => z) fun v H' z => ⟨by show 2 ≤ sizeLine; decide, fun p hp => ⟨.ref p, rfl, z p hp⟩⟩⟩
    obtain ⟨k, hk, rfl, rfl, hQ⟩ := hE
    refine ⟨true, by rw [W.ex k hk]; show PySem.W.exmOne X.K _ _ = _; rw [hK]; exact W.exm k hk, fun _ a ha => ?_, fun z => by cases z⟩
    refine ⟨k, hk, W.ex k hk, rfl, by rw [List.getElem?_set_self (by omega)], by simpa using hl, fun p q H2 s2 hp h2 => ?_⟩
    refine ⟨.ref p, ?_, hQ p H2 s2 hp h2⟩
    rw [List.getElem?_set_ne (by decide), List.getElem?_set_self (by simp; omega)]
end
section
variable {G : Gc} {E : XK} {N : En} {O : List Nat} {X : Cx} {m : ME}
theorem TEk.mono {kd : Kd} {E' : XK} {σ : L2.St} {H : Hp} {Q Q' : VK} (h : TEk G E N O kd m σ H Q) (he : ∀ cls d H', E cls d H' → E' cls d H') (hq : ∀ v H', Q v H' → Q' v H') : TEk G E' N O kd m σ H Q' := by
  obtain ⟨env, st, F, zs, rel, p⟩ := h
  refine ⟨env, st, F, zs, rel, ?_⟩
  cases e : m env st with
  | ok d st1 => rw [e] at p; exact fun v H' F' zs' x S r => hq _ _ (p v H' F' zs' x S r)
  | exc c st1 => rw [e] at p; exact fun H' F' zs' x S => he _ _ _ (p H' F' zs' x S)
  | bad => rw [e] at p; exact p
theorem tabs_step {F H H1 : Hp} {zs : List (Addr × Addr)} {st : Sto} (s : Same F H) (S : StoRel G F H zs st) (x : LamX.ExtN H H1) (t : LamX.Tabs G.T H1) : Ext F H zs F H1 zs ∧ StoRel G F H1 zs st := by
  have nt : ∀ a o, F a = some o → NT o := fun a o e ps z => S.nt a ps (z ▸ e)
  refine ⟨⟨Same.refl _, fun b o e => x b o (s b o e) (nt b o e), List.prefix_refl _, fun a o e _ n => x a o e n, fun _ _ h => .inl h, fun _ h => .inl h, fun a o e n => ⟨o, x a o e n, n⟩⟩, ⟨S.len, fun k p i q1 q2 => ?_, S.nd, S.fr, t, S.nt⟩⟩
  obtain ⟨dx, v, r, ts, a1, a2, a3, a4, a5, a6⟩ := S.at_ k p i q1 q2
  exact ⟨dx, v, r, ts, x _ _ a1 (fun _ z => by cases z), a2, a3, a4, x _ _ a5 (fun _ z => by cases z), a6⟩
end
end Dn

/-! Dn18: a lambda handed to a def that tries it; defs that make lambdas. -/
namespace Dn
open PySem PySem.Spec PyProof.Rows L2
section
variable {G : Gc} {E : XK} {N : En} {O : List Nat} {X : Cx} {m : ME}
/-- the head's word of a def that tries -/
structure Tw (G : Gc) (P : Program) (w : World) (mg : Str → Option Value) (base : Heap) (x a : Str) (f : Nat → V) : Prop where
  ex : ∃ (Ng : List Str) (pg : Arguments) (bg : List Stmt) (sg : Scope) (dV kV doc pm cdv ct oc : Value) (an od : Option Addr) (osl : Array (Option Value)),
    G.K.lookup (He.ga G.K x) = some ⟨oc, od, .func (PySem.W.fnOf x x pg bg sg dV kV doc pm an cdv ct), osl⟩ ∧ PySem.W.codeIn G.K cdv x = true ∧ L2.Binds G.K (PySem.W.fnOf x x pg bg sg dV kV doc pm an cdv ct) [a] [] ∧ FnScope Ng [a] sg ∧ Ng[0]? = some a ∧ Vis sg a ∧
    ∀ (X : Cx) (q : Str), X.prog = P → X.w = w → X.K = G.K → X.mg = mg → X.base = base → X.A.units + 80 < cLine → GivesN X Ng x sg (He.ga G.K x) cdv bg a q (TTword G f)
  glo : mg x = some (.ref (He.ga G.K x))
  kp : PySem.W.keepIn G.K (.ref (He.ga G.K x)) = true
theorem c_try {f : Nat → V} {fd : Nat → D} {x a : Str} {c P : Addr} {k : Nat} {params : Arguments} {body : Expr} {scope : Scope} {p lpos pos : Pos} (hf : ∀ k (K : PySem.W.Frag) (F : Hp) (os : List Addr), k < 3 → Rp K F os (f k) (fd k))
    (W : Tw G X.prog X.w X.mg X.base x a f) (TB : LamX.TabB X.base X.mg c P) (hcode : X.env.code = .ref c) {qn : Str} (hmT : (P, qn) ∈ G.T) (hu : ∀ p ∈ G.T, p.1 = P → p.2 = qn) (hqn : X.env.qual ++ "<lambda>" = qn) (hr : Room (k + 2) X.A)
    (hbody : ∀ (A : Around) (outer : List PySem.Env) (s : Shared) (H : Hp) (E : XK) (f c' : Addr), Room k (A.deeper (LamX.lamEnv X scope s.heap.objs.size f c')) → PE (lamN X A outer s H E scope f c') body (TEk G E N O .v m))
    (L : LamX.LamS X.env.scope scope) (hdef : defaultsOf params X.env = ([], []) := by rfl)
    (hbind : ∀ (q : Str) (cl : List (Str × Addr)) (pm cv ctv : Value), bindArgs (PySem.W.kla_fn "<lambda>" q params body scope cl pm cv ctv) ⟨[], []⟩ = pure [] := by intros; rfl)
    (hK : X.K = G.K := by rfl) (hg : Gl X x := by rfl)
    (hdb : (x == ("__debug__" : Str)) = false := by decide) (hd : (a == ("__debug__" : Str)) = false := by decide) (hcd : (a == ("__classdict__" : Str)) = false := by decide) :
    PE X (.Call (.Name x p) [.Lambda params body scope lpos] [] pos) (TEk G E N O .v (eTry fd m)) := by
  subst hqn
  obtain ⟨Ng, pg, bg, sg, dV, kV, doc, pm, cdv, ct, oc, an, od, osl, lk, hcg, hb, Sg, hNg, hva, hG⟩ := W.ex
  rw [← hK] at lk hcg hb hG
  have un : X.A.units + 80 < cLine := by have := hr.un; omega
  refine PE.imp (lamcall_n (T := G.T) (TT := TTword G f) (t := fun E' => TEk G E' N O .v m) (n := k) (c := c) (P := P) (g := He.ga X.K x) hg (by rw [hK]; exact W.glo) (by rw [hK]; exact W.kp) lk hcg hb Sg hNg hva (hG X _ rfl rfl rfl rfl rfl un) TB hcode hmT hu hr L hdef hbind hbody hdb hd hcd) fun σ H Q ⟨env, st, F, zs, rel, p⟩ => ⟨rel.sto.tab, fun H1 xN t1 E' Q' hE hQ => ?_⟩
  obtain ⟨x0, S0⟩ := tabs_step rel.sub rel.sto xN t1
  show TEk G E' N O .v m σ H1 Q'
  refine ⟨env, st, F, zs, rel.step x0 S0, ?_⟩
  have p : Post G E .v F H zs (match m env st with | .ok d st1 => .ok (.tup [.str [116, 111, 108, 100], d]) st1 | .exc c st1 => if c < 3 then .ok (.tup [.str [114, 101, 102, 117, 115, 101, 100], fd c]) st1 else .bad | .bad => .bad) Q := p
  cases e : m env st with
  | bad => rw [e] at p; exact p
  | ok d st1 =>
    rw [e] at p
    intro v H' F' zs' x1 S1 r
    refine hQ v H' fun q hq => ?_
    have g : Grw F' H' (upd F' q (.tup [.str "told", v])) (upd H' q (.tup [.str "told", v])) := Grw.one x1.sub hq
    refine p (.ref q) _ _ zs' (x0.trans (x1.trans g.ext)) (S1.grow g) (.tup (.inl (.inl upd_same)) (.cons (.str rfl (by decide)) (.cons (Rp.mono g.f (List.prefix_refl _) r) .nil)) (by show 2 ≤ SZ; decide))
  | exc c st1 =>
    rw [e] at p
    by_cases hc : c < 3
    · simp only [hc, if_true] at p
      intro H' F' zs' x1 S1
      refine hE _ _ _ ⟨c, hc, rfl, rfl, fun q H2 sm hq h2 => ?_⟩
      have hF : F' q = none := x1.sub.free hq
      have g : Grw F' H' (upd F' q (.tup [.str "refused", f c])) H2 := ⟨fun b o q1 => by rw [upd_ne (ne_of_none q1 hF)]; exact q1, fun b o q1 => by
          by_cases hb : b = q
          · subst hb; rw [upd_same] at q1; cases q1; exact h2
          · rw [upd_ne hb] at q1; exact sm b o (x1.sub b o q1), sm, fun b o q1 => by
          by_cases hb : b = q
          · subst hb; exact .inr (.of hq)
          · rw [upd_ne hb] at q1; exact .inl q1, fun b o q1 => by
          by_cases hb : b = q
          · subst hb; rw [upd_same] at q1; cases q1; exact .inr (fun _ z => by cases z)
          · rw [upd_ne hb] at q1; exact .inl q1⟩
      exact p (.ref q) _ _ zs' (x0.trans (x1.trans g.ext)) (S1.grow g) (.tup (.inl (.inl upd_same)) (.cons (.str rfl (by decide)) (.cons (hf c _ _ _ hc) .nil)) (by show 2 ≤ SZ; decide))
    · simp only [hc, if_false] at p; exact p.elim
theorem hf_word : ∀ k (K : PySem.W.Frag) (F : Hp) (os : List Addr), k < 3 → Rp K F os (fInt k) (fWord k) := fun k K F os _ => .int _
theorem lamPas {Y : Cx} {E₁ : Value → Shared → Prop} (hs : Y.stack = Y.env :: Y.outer) (hf : Y.env.frame = some Y.env.locals) (hex : Y.ex = []) (hx : Y.xe = fun e s' => wpAny (model Y.prog Y.w) Y.A (leaving Y.env e) (fun _ s'' => L2N.CX Y.prog Y.w Y.outer Y.H_0 Y.s_0 E e s'') E₁ s') : Passes (L2N.CX Y.prog Y.w) Y E := L2N.passes_call (L2N.takes_of hs hf hex hx) (fun _ _ _ _ h => h)
end
/-! ### a def that makes lambdas -/
abbrev cdOf (G : Gc) (x : Str) : Addr := (He.cT G.K (x, none)).1
section
variable {G : Gc} {P : Program} {w : World} {mg : Str → Option Value} {base : Heap} {x : Str} {st : Stmt} {Nm ps : List Str} {k : Nat} {m : MS} {O' : List Nat}
theorem c_defL {fd : FuncData} (F : FunD G.K x x (defArgs st) (defBody st) (defScope st) [] [] (He.ga G.K x) fd) (S : FnScope Nm ps (defScope st))
    (hb : ∀ (A : Around) (outer : List PySem.Env) (s : Shared) (H : Hp) (E : XK) (N : En), rm G k x st (.ref (cdOf G x)) A s → PSs (cx G P w mg base Nm x st (.ref (cdOf G x)) A outer s H E) (defBody st) (TSk G E N .v [] O' m))
    (hl : ps.length ≤ Nm.length := by decide) : FnOk P w G.K mg base (L2N.CX P w) (k + 1) (He.ga G.K x) fd ps (spOf G .v ps.length (runDef ps.length Nm.length m)) := by
  obtain ⟨oc, od, dV, kV, doc, pm, an, cdv, ct, osl, rfl, lk, hcd, _, _⟩ := F.ex
  obtain ⟨c, rfl⟩ := He.codeIn_ref hcd
  have ec : He.codeOf G.K (x, none) = c := He.codeOf_eq (p := (x, none)) lk rfl
  subst ec
  refine fn_of lk hcd S (fun vs H Q E ⟨F, zs, ds, st, _, _, r, h, _⟩ => r.length.trans h) fun A outer s H vs Q E hr ⟨F, zs, ds, st, s1, S1, r, h, p⟩ => ?_
  refine ⟨_, hb A outer s H E ⟨F, H, zs⟩ hr, env0 Nm.length ds, st, F, zs, rel_start s1 S1 r (by omega), ?_⟩
  unfold runDef at p
  rw [if_pos h] at p
  cases e : m (env0 Nm.length ds) st with
  | nx env1 st1 => rw [e] at p; exact fun σ' H' F' zs' r' _ _ => p _ H' F' zs' r'.ext r'.sto .non
  | rt d st1 => rw [e] at p; exact p
  | exc c st1 => rw [e] at p; exact p
  | bad => rw [e] at p; exact p
theorem Fd.ofL (F : Fh G.K x st) (hm : mg x = some (.ref (He.ga G.K x))) (S : FnScope Nm ps (defScope st))
    (hbi : ∀ (kV doc pm : Value) (an : Option Addr) (cdv ct : Value) (us : List Value), us.length = ps.length → bindArgs (PySem.W.fnOf x x (defArgs st) (defBody st) (defScope st) .none kV doc pm an cdv ct) ⟨us, []⟩ = pure (ps.zip us))
    (hb : ∀ (A : Around) (outer : List PySem.Env) (s : Shared) (H : Hp) (E : XK) (N : En), rm G k x st (.ref (cdOf G x)) A s → PSs (cx G P w mg base Nm x st (.ref (cdOf G x)) A outer s H E) (defBody st) (TSk G E N .v [] O' m))
    (hl : ps.length ≤ Nm.length := by decide) : Fd G P w mg base x .v (k + 1) ps (runDef ps.length Nm.length m) := by
  obtain ⟨fd, F⟩ := F
  exact ⟨⟨fd, isFn_of F, c_defL F S hb hl, F.bindsN hbi⟩, hm, F.kp, runDef_len⟩
end
/-! ### the error classes, by a look -/
def xw1 (K : PySem.W.Frag) (x : Str) : Bool :=
  decide (PySem.W.exmOne K (.ref (He.ga K x)) (.ref (He.ga K "HeapError")) = some true) && decide (PySem.W.kitOne K (.ref (He.ga K x)) (.type "ValueError") = some true) &&
  decide (PySem.W.findIn K (.ref (He.ga K x)) "__getattribute__" = some (some (.builtin "BaseException.__getattribute__"))) && decide (PySem.W.findIn K (.ref (He.ga K x)) "__getattr__" = some none) &&
  decide (PySem.W.subIn K (.ref (He.ga K x)) (.type "BaseException") = some true) && PySem.W.hasDictIn K (He.ga K x) &&
  decide (PySem.W.findIn K (.ref (He.ga K x)) "__class__" = some (some (.builtin "object.__class__"))) && decide (PySem.W.specialIn K (.builtin "object.__class__") "__get__" = some (some (.builtin "getset_descriptor.__get__"))) &&
  decide (PySem.W.takesIn K (.builtin "object.__class__") = some true) && decide (PySem.W.mroIn K (He.ga K x) (.type "object") = some true)
def xwB (K : PySem.W.Frag) : Bool := (List.range 3).all fun j => xw1 K (nmX j) && (List.range 3).all fun k => decide (PySem.W.kitOne K (.ref (He.ga K (nmX j))) (.ref (He.ga K (nmX k))) = some (decide (j = k)))
section
variable {G : Gc} {P : Program} {w : World} {mg : Str → Option Value} {base : Heap} {st : Stmt}
theorem xw_of (h : xwB G.K = true) (he : mg "HeapError" = some (.ref (He.ga G.K "HeapError"))) (isi : mg "isinstance" = none) (ve : mg "ValueError" = none) (g0 : mg "NoText" = some (.ref (He.ga G.K "NoText"))) (g1 : mg "NoRow" = some (.ref (He.ga G.K "NoRow"))) (g2 : mg "Unlike" = some (.ref (He.ga G.K "Unlike")))
    (ex : ∀ k, k < 3 → G.ex k = .ref (He.ga G.K (nmX k))) : Xw G mg := by
  have a : ∀ j, j < 3 → xw1 G.K (nmX j) = true ∧ ∀ k, k < 3 → PySem.W.kitOne G.K (.ref (He.ga G.K (nmX j))) (.ref (He.ga G.K (nmX k))) = some (decide (j = k)) := fun j hj => by
    have z := List.all_eq_true.mp h j (List.mem_range.mpr hj)
    obtain ⟨z1, z2⟩ := Bool.and_eq_true_iff.mp z
    exact ⟨z1, fun k hk => of_decide_eq_true (List.all_eq_true.mp z2 k (List.mem_range.mpr hk))⟩
  have b : ∀ j, j < 3 → _ := fun j hj => by
    have z := (a j hj).1
    unfold xw1 at z
    simp only [Bool.and_eq_true, decide_eq_true_eq] at z
    exact z
  exact ⟨he, isi, ve, fun k hk => match k, hk with | 0, _ => g0 | 1, _ => g1 | 2, _ => g2, ex, fun k hk => (b k hk).1.1.1.1.1.1.1.1.1, fun k hk => by
    obtain ⟨⟨⟨⟨⟨⟨⟨⟨⟨z1, z2⟩, z3⟩, z4⟩, z5⟩, z6⟩, z7⟩, z8⟩, z9⟩, z10⟩ := b k hk
    exact ⟨z3, z4, z5, z6, z7, z8, z9, z10⟩, fun j k hj hk => (a j hj).2 k hk, fun k hk => (b k hk).1.1.1.1.1.1.1.1.2⟩
/-- what is asked of the scope of a def that tries -/
def twB (sg : Scope) (ls : List Str) : Bool := (["isinstance", "NoText", "NoRow", "Unlike", "ValueError", "HeapError"] : List Str).all (fun y => !(sg.names.any fun z => z.1 == y) || decide (sg.names.lookup y = some .globalImplicit)) && ls.all fun y => decide (sg.names.lookup y = some .local)
theorem tw_word {q p : Nat → Pos} {k j k1 k2 j1 j2 j3 j4 j5 j6 : Nat} (F : Fh G.K "_law_word" st) (hm : mg "_law_word" = some (.ref (He.ga G.K "_law_word"))) (W : Xw G mg) (S : FnScope ["deed", "found", "e", "kinds"] ["deed"] (defScope st))
    (hbi : ∀ (kV doc pm : Value) (an : Option Addr) (cdv ct : Value) (us : List Value), us.length = (["deed"] : List Str).length → bindArgs (PySem.W.fnOf "_law_word" "_law_word" (defArgs st) (defBody st) (defScope st) .none kV doc pm an cdv ct) ⟨us, []⟩ = pure ((["deed"] : List Str).zip us))
    (hb : defBody st = wordB q p k j k1 k2 j1 j2 j3 j4 j5 j6)
    (g1 : (defScope st).names.lookup ("isinstance" : Str) = some .globalImplicit) (g2 : ∀ j, j < 3 → (defScope st).names.lookup (nmX j) = some .globalImplicit) (g3 : (defScope st).names.lookup ("ValueError" : Str) = some .globalImplicit) (g4 : (defScope st).names.lookup ("HeapError" : Str) = some .globalImplicit)
    (l0 : (defScope st).names.lookup ("deed" : Str) = some .local) (l1 : (defScope st).names.lookup ("found" : Str) = some .local) (l2 : (defScope st).names.lookup ("e" : Str) = some .local) (l3 : (defScope st).names.lookup ("kinds" : Str) = some .local)
    (q1 : ((p 26).endLine == (p 28).line) = true) (q2 : ((p 35).endLine == (p 37).line) = true) : Tw G P w mg base "_law_word" "deed" fInt := by
  obtain ⟨fd, F⟩ := F
  have B := F.bindsN hbi
  obtain ⟨oc, od, dV, kV, doc, pm, an, cdv, ct, osl, rfl, lk, hcd, _, _⟩ := F.ex
  refine ⟨⟨["deed", "found", "e", "kinds"], defArgs st, defBody st, defScope st, dV, kV, doc, pm, cdv, ct, oc, an, od, osl, lk, hcd, B, S, rfl, .inl l0, fun X q e1 e2 e3 e4 e5 hu => ?_⟩, hm, F.kp⟩
  subst e1 e2 e4 e5
  rw [hb]
  exact word_gives e3 W hu g1 g2 g3 g4 l0 l1 l2 l3 q1 q2
end
end Dn

/-! Dn19: walks over enumerate and zip. -/
namespace Dn
open PySem PySem.Spec PyProof.Rows L2
theorem meets_enum1 {v : Value} {o : Obj} {H : Heap → Prop} (B : Begins v o H) :
    Meets (Builtin.«enumerate.__new__» ⟨[.type "enumerate", v], []⟩) (fun _ R s => H s.heap ∧
      R (.ok (.ret (.ref (s.heap.push o).objs.size))) { s with heap := (s.heap.push o).push { cls := .type "enumerate", data := .fields #[.none, .bool false, .ref s.heap.objs.size, rawInt 0, .none, .none] } }) :=
  .of_wp fun prog w A R s h => by
    obtain ⟨hp, g, d, tk, os⟩ := s; obtain ⟨h1, h⟩ := h
    have hs := sub_enumerate
    have go : ∀ {A' : Around} {E : Value → Shared → Prop} {Q : Value → Shared → Prop}, Q (.ref hp.objs.size) ⟨hp.push o, g, d, tk, os⟩ → wpAny (model prog w) A' (pyIter v) Q E ⟨hp, g, d, tk, os⟩ :=
      fun q => B.iter prog w _ _ ⟨hp, g, d, tk, os⟩ _ h1 q
    wp_walk using go
    refine wpAny_stack_any fun st => wpAny_pure ?_
    first
    | (split
       · rename_i c _ _ _ _ _
         cases (c == Value.type "enumerate")
         · wp_walk using go
           exact ⟨_, rfl, h⟩
         · wp_walk using go
           exact ⟨_, rfl, h⟩
       · wp_walk using go
         exact ⟨_, rfl, h⟩)
section
variable {prog : Program} {w : World} {A : Around} {E : Value → Shared → Prop} {s : Shared}
theorem call_enum1 {v : Value} {o : Obj} {H : Heap → Prop} {Q : Value → Shared → Prop} (B : Begins v o H) (h1 : H s.heap)
    (h : ∀ h', IsEnum h' (s.heap.objs.size + 1) s.heap.objs.size 0 .none → h'.get? s.heap.objs.size = some o → h'.objs.size = s.heap.objs.size + 2 →
      (∀ b o, s.heap.get? b = some o → h'.get? b = some o) → Q (.ref (s.heap.objs.size + 1)) { s with heap := h' }) :
    wpAny (model prog w) A (call (.type "enumerate") [v]) Q E s := by
  refine callType_new F.called_enumerate (by decide) (F.typeCall_enumerate_1 _) (F.newCall_enumerate_1 _) (fun obj => F.args_object_init_2 obj _) F.entry_enumerate_new (meets_enum1 B) ⟨h1, ?_⟩
  have hz : (s.heap.push o).objs.size = s.heap.objs.size + 1 := Heap.size_push ..
  show _ ∧ _
  rw [hz]
  have he : IsEnum ((s.heap.push o).push { cls := .type "enumerate", data := .fields #[.none, .bool false, .ref s.heap.objs.size, rawInt 0, .none, .none] }) (s.heap.objs.size + 1) s.heap.objs.size 0 .none := by
    have q := Heap.get?_push_size (s.heap.push o) (o := { cls := .type "enumerate", data := .fields #[.none, .bool false, .ref s.heap.objs.size, rawInt 0, .none, .none] }) rfl
    rw [hz] at q; exact q
  exact ⟨⟨_, he, rfl⟩, h _ he (Heap.get?_push_of_some _ (Heap.get?_push_size _ B.free)) (by rw [Heap.size_push, hz]) fun b o x => Heap.get?_push_of_some _ (Heap.get?_push_of_some _ x)⟩
end
end Dn

/-! Dn20: walks over enumerate and zip, by their meaning. -/
namespace Dn
open PySem PySem.Spec PyProof.Rows L2
theorem nn {x y : Nat} (h : x ≠ y) : @Ne Addr x y := h
theorem nm {x y z : Nat} (h1 : x ≠ y) (h2 : x ≠ z) : (x : Addr) ∉ ([y, z] : List Addr) := fun h => by
  rcases List.mem_cons.mp h with h | h
  · exact h1 h
  · exact h2 (List.mem_singleton.mp h)
theorem sep5 {n a b : Nat} (ha : a < n) (hb : b < n) : ZipSep2 (n + 4) (n + 2) (n + 3) n (n + 1) [n, a] [n + 1, b] :=
  ⟨nn (by omega), nn (by omega), nn (by omega), nn (by omega), List.mem_cons_self, nm (by omega) (by omega), nm (by omega) (by omega), nn (by omega), List.mem_cons_self, nm (by omega) (by omega), nm (by omega) (by omega), nm (by omega) (by omega), nm (by omega) (by omega)⟩
theorem le5 {n c : Nat} (h : (c : Addr) ∈ ([n + 4, n + 2, n + 3, n, n + 1] : List Addr)) : n ≤ c := by
  have e' : c = n + 4 ∨ c = n + 2 ∨ c = n + 3 ∨ c = n ∨ c = n + 1 := by simpa using h
  omega
theorem le2 {n c : Nat} (h : (c : Addr) ∈ ([n + 1, n] : List Addr)) : n ≤ c := by
  have e' : c = n + 1 ∨ c = n := by simpa using h
  omega
/-- a tuple's items, each in a new pair with its number -/
def JeT (K : PySem.W.Frag) (a : Addr) : It :=
  ⟨fun i H => ∃ (xs : List V) (x : V), SqT K H a xs ∧ xs[i]? = some x, fun i H v H' => ∃ T x, v = .ref T ∧ H T = none ∧ H' = upd H T (.tup [.int (i : Nat), x]) ∧ ∀ xs, SqT K H a xs → xs[i]? = some x, fun i H => ∃ xs : List V, SqT K H a xs ∧ xs.length = i⟩
theorem turn_eT {P : Program} {w : World} {K : PySem.W.Frag} {elts : List Expr} {kk : Nat} {tpos : Pos} (a e it : Addr) (h1 : a ≠ it) (h2 : a ≠ e) (hne : e ≠ it) :
    Turn P w K (.Tuple elts kk tpos) (JeT K a) [e, it] e (fun i h => (∃ old, IsEnum h e it ((i : Nat) : Int) old) ∧ h.IsTupleIter it a i) where
  mem := List.mem_cons_self
  obj := fun i h st b hb => by
    obtain ⟨⟨old, he⟩, ⟨o, ho, hc, hd⟩⟩ := st
    rcases List.mem_cons.mp hb with z | z
    · rw [z]; exact ⟨_, he, fun v q => nomatch q⟩
    · rw [List.mem_singleton.mp z]; exact ⟨o, ho, fun v q => by rw [hd] at q; cases q⟩
  keep := fun i h h' st k => let ⟨⟨old, he⟩, hi⟩ := st; ⟨⟨old, k e List.mem_cons_self _ he⟩, hi.at fun o q => k it (by simp) o q⟩
  item := by
    intro X hP hw hK hc i pins s σ H E I hf st hg
    subst hP hw hK
    obtain ⟨⟨old, he⟩, hit⟩ := st
    obtain ⟨xs, x, hq, hx⟩ := hg
    obtain ⟨its, rv, p, hz⟩ := I.tuple hq
    obtain ⟨u, hu, ru⟩ := rv.get hx
    have hel : e < s.heap.objs.size := Heap.lt_size he
    have hil : it < s.heap.objs.size := by obtain ⟨_, q, _⟩ := hit; exact Heap.lt_size q
    refine wpAny_pyNext_enum_itemD (Draws.tuple (A := X.A.in1) (I.ok.hd hc) it a h1 its.toArray) he ⟨hit, p⟩ (by simpa using (List.getElem?_eq_some_iff.mp hu).1) hne (by simp [hne, Ne.symm h2]) fun x' h' tk hx' ho hs' hT hsz hk => ?_
    have ex : x' = u := by
      have hx' : its.toArray[i]? = some x' := hx'
      rw [List.getElem?_toArray, hu] at hx'; cases hx'; rfl
    subst ex
    refine ⟨_, rfl, wpAny_letOwnedTupleGo_enum (s := { s with heap := h', toks := tk + 1 }) ho fun h'' he' sb => ?_⟩
    have hT2 : h''.get? s.heap.objs.size = some { cls := .type "tuple", data := .seq #[.int i tk, x'] } := (sb.2 _ (Nat.ne_of_gt hel)).trans hT
    have new : ObjOk X.prog X.w (upd H s.heap.objs.size (.tup [.int (i : Nat), x])) h'' s.heap.objs.size (.tup [.int (i : Nat), x]) :=
      ⟨by show 2 ≤ sizeLine; decide, [.int i tk, x'], .cons ⟨_, rfl⟩ (.cons ru .nil), ⟨_, hT2, rfl, _, rfl⟩⟩
    have I1 : Inv X pins σ (upd H s.heap.objs.size (.tup [.int (i : Nat), x])) { s with heap := h'', toks := tk + 1 } :=
      I.turnedNew (ch := [e, it]) (fun b ob hb q => (sb.2 b (fun z => hb (by simp [z]))).trans (hk b ob (fun z => hb (by simp [z])) (fun z => hb (by simp [z])) q)) hf (Nat.le_refl _) new
    refine ⟨.ref s.heap.objs.size, _, I1, rfl, ⟨_, x, rfl, I.hok.fresh (Nat.le_refl _), rfl, fun ys hy => by rw [I.tuple_inj hy hq]; exact hx⟩, ⟨⟨x', ?_⟩, hs'.1.at fun o q => (sb.2 it (Ne.symm hne)).trans q⟩, fun b hb => ?_⟩
    · have e1 : ((i + 1 : Nat) : Int) = (i : Int) + 1 := by omega
      rw [e1]; exact he'
    · have hb' : b < s.heap.objs.size := by
        rcases List.mem_cons.mp hb with z | z
        · rw [z]; exact hel
        · rw [List.mem_singleton.mp z]; exact hil
      rw [upd_ne (Nat.ne_of_lt hb')]
      exact (hf b hb).1
  done := by
    intro X hP hw hK hc i pins s σ H E I hf st hg
    subst hP hw hK
    obtain ⟨⟨old, he⟩, hit⟩ := st
    obtain ⟨xs, hq, hx⟩ := hg
    obtain ⟨its, rv, p, hz⟩ := I.tuple hq
    obtain ⟨f0, f1, f2, f3, f4, f5⟩ := hf it (by simp)
    have hl := rv.length
    have ei : i = its.toArray.size := by simp; omega
    subst ei
    exact wpAny_pyNext_enum_endD (Draws.tuple (A := X.A.in1) (I.ok.hd hc) it a h1 its.toArray) he ⟨hit, p⟩ fun h' eb => ⟨rfl, I.turned (t' := s.toks) (fun b o hb q => eb b o hb q) f0 f1 f3 f4 f5⟩
  self := fun A i s Q E st h => let ⟨⟨_, he⟩, _⟩ := st; wpAny_pyIter_enum he h
def iET (K : PySem.W.Frag) (ta : TA) : TI := fun σ H R => ta σ H fun vs H1 => ∃ a xs, vs = [.ref a] ∧ SqT K H1 a xs ∧ R (JeT K a) H1
theorem pi_eT {X : Cx} {e : Expr} {ta : TA} {p pos tpos : Pos} {elts : List Expr} {kk : Nat} (hg : Gl X "enumerate") (hm : X.mg "enumerate" = none) (ha : PA X [e] ta) (hs : starEach [e] X.env = [(false, eval e X.env)] := by rfl) :
    PI X (.Tuple elts kk tpos) (.Call (.Name "enumerate" p) [e] [] pos) (iET X.K ta) := by
  refine ⟨fun pins s σ H R I h => ?_⟩
  refine Call_ (ld_blt I hg hm boot_enumerate (PyProof.Rows.callWith_type1 (thn (ha.run pos pins s σ H _ I h) fun us s1 ⟨vs, H1, I1, r1, q1⟩ => ?_) hs rfl))
  obtain ⟨a, xs, ex, hq, q⟩ := q1
  subst ex
  cases r1 with
  | cons r rr =>
    cases rr
    cases r
    obtain ⟨its, rv, p', hz⟩ := I1.tuple hq
    have hal : a < s1.heap.objs.size := by obtain ⟨o, ho, _⟩ := id p'; exact Heap.lt_size ho
    refine call_enum1 (begins_tuple a its.toArray) p' fun h' he hit hsz hk => wpAny_pyIter_enum he ?_
    have I2 : Inv X pins σ H1 { s1 with heap := h' } := I1.kept (t' := s1.toks) hk
    refine ⟨s1.heap.objs.size + 1, [s1.heap.objs.size + 1, s1.heap.objs.size], _, _, H1, rfl, I2, turn_eT a (s1.heap.objs.size + 1) s1.heap.objs.size (Nat.ne_of_lt hal) (Nat.ne_of_lt (Nat.lt_succ_of_lt hal)) (Nat.succ_ne_self _), ⟨⟨.none, he⟩, ⟨_, hit, rfl, rfl⟩⟩, fun b hb => ?_, q⟩
    have hle : s1.heap.objs.size ≤ b := le2 hb
    exact I1.fpOk hle (I1.hok.fresh hle)
/-! ### zip of a tuple and a list -/
def JzM (K : PySem.W.Frag) (a b : Addr) : It :=
  ⟨fun i H => ∃ (xs ys : List V) (x y : V), SqT K H a xs ∧ SqL K H b ys ∧ xs[i]? = some x ∧ ys[i]? = some y,
    fun i H v H' => ∃ T x y, v = .ref T ∧ H T = none ∧ H' = upd H T (.tup [x, y]) ∧ (∀ xs, SqT K H a xs → xs[i]? = some x) ∧ ∀ ys, SqL K H b ys → ys[i]? = some y,
    fun i H => ∃ xs ys : List V, SqT K H a xs ∧ SqL K H b ys ∧ i ≤ xs.length ∧ i ≤ ys.length ∧ (i = xs.length ∨ i = ys.length)⟩
theorem turn_zM {P : Program} {w : World} {K : PySem.W.Frag} {elts : List Expr} {kk : Nat} {tpos : Pos} {a b z TI TO i1 i2 : Addr} (S : ZipSep2 z TI TO i1 i2 [i1, a] [i2, b]) :
    Turn P w K (.Tuple elts kk tpos) (JzM K a b) [z, TI, TO, i1, i2] z (fun i h => IsZip h z TI TO .none ∧ IsTupOf2 h TI (.ref i1) (.ref i2) ∧ (∃ x y, IsTupOf2 h TO x y) ∧ h.IsTupleIter i1 a i ∧ h.IsListIter i2 b i) where
  mem := List.mem_cons_self
  obj := fun i h st c hc => by
    obtain ⟨hz, hTI, ⟨x, y, hTO⟩, ⟨o1, e1, _, d1⟩, ⟨o2, e2, _, d2⟩⟩ := st
    have e' : c = z ∨ c = TI ∨ c = TO ∨ c = i1 ∨ c = i2 := by simpa using hc
    rcases e' with q | q | q | q | q
    · rw [q]; exact ⟨_, hz, fun v q => nomatch q⟩
    · rw [q]; exact ⟨_, hTI, fun v q => nomatch q⟩
    · rw [q]; exact ⟨_, hTO, fun v q => nomatch q⟩
    · rw [q]; exact ⟨o1, e1, fun v q => by rw [d1] at q; cases q⟩
    · rw [q]; exact ⟨o2, e2, fun v q => by rw [d2] at q; cases q⟩
  keep := fun i h h' st k => by
    obtain ⟨hz, hTI, ⟨x, y, hTO⟩, h1, h2⟩ := st
    exact ⟨k z (by simp) _ hz, k TI (by simp) _ hTI, ⟨x, y, k TO (by simp) _ hTO⟩, h1.at fun o q => k i1 (by simp) o q, h2.at fun o q => k i2 (by simp) o q⟩
  item := by
    intro X hP hw hK hc i pins s σ H E I hf st hg
    subst hP hw hK
    obtain ⟨hz, hTI, ⟨x0, y0, hTO⟩, h1, h2⟩ := st
    obtain ⟨xs, ys, x, y, hqx, hqy, hx, hy⟩ := hg
    obtain ⟨its, rv, p, _⟩ := I.tuple hqx
    obtain ⟨its2, rv2, p2, _⟩ := I.list hqy
    obtain ⟨u, hu, ru⟩ := rv.get hx
    obtain ⟨u2, hu2, ru2⟩ := rv2.get hy
    have hzl : z < s.heap.objs.size := Heap.lt_size hz
    have na : a ≠ i1 := fun q => by
      obtain ⟨o1, e1, c1, d1⟩ := h1
      obtain ⟨o2, e2, c2, _⟩ := p
      rw [q, e1] at e2; cases e2
      rw [c1] at c2; injection c2 with c2; exact absurd c2 (by decide)
    have nb : b ≠ i2 := fun q => by
      obtain ⟨o1, e1, c1, d1⟩ := h2
      obtain ⟨o2, e2, c2, _⟩ := p2.isList
      rw [q, e1] at e2; cases e2
      rw [c1] at c2; injection c2 with c2; exact absurd c2 (by decide)
    refine wpAny_pyNext_zipD2_item S (Draws.tuple (A := X.A.in1) (I.ok.hd hc) i1 a na its.toArray) (Draws.list (A := X.A.in1) (I.ok.hd hc) i2 b nb its2.toArray) hz hTI hTO ⟨h1, p⟩ ⟨h2, p2.isList⟩ (by simpa using (List.getElem?_eq_some_iff.mp hu).1) (by simpa using (List.getElem?_eq_some_iff.mp hu2).1) fun x1 x2 h' tk e1 e2 z' TO' s1 s2 hT hsz hk => ?_
    have ex : x1 = u := by
      have e1 : its.toArray[i]? = some x1 := e1
      rw [List.getElem?_toArray, hu] at e1; cases e1; rfl
    have ey : x2 = u2 := by
      have e2 : its2.toArray[i]? = some x2 := e2
      rw [List.getElem?_toArray, hu2] at e2; cases e2; rfl
    subst ex ey
    refine ⟨_, rfl, wpAny_letOwnedTupleGo_zip (s := { s with heap := h', toks := tk }) z' fun h'' z'' sb => ?_⟩
    have hT2 : h''.get? s.heap.objs.size = some { cls := .type "tuple", data := .seq #[x1, x2] } := (sb.2 _ (Nat.ne_of_gt hzl)).trans hT
    have new : ObjOk X.prog X.w (upd H s.heap.objs.size (.tup [x, y])) h'' s.heap.objs.size (.tup [x, y]) :=
      ⟨by show 2 ≤ sizeLine; decide, [x1, x2], .cons ru (.cons ru2 .nil), ⟨_, hT2, rfl, _, rfl⟩⟩
    have I1 : Inv X pins σ (upd H s.heap.objs.size (.tup [x, y])) { s with heap := h'', toks := tk } :=
      I.turnedNew (t' := tk) (ch := [z, TI, TO, i1, i2]) (fun c o hb q => (sb.2 c (fun q' => hb (by simp [q']))).trans (hk c o (fun q' => hb (by simp [q'])) (fun q' => hb (by simp [q'])) (fun q' => hb (by simp [q'])) (fun q' => hb (by simp [q'])) q)) hf (Nat.le_refl _) new
    refine ⟨.ref s.heap.objs.size, _, I1, rfl, ⟨_, x, y, rfl, I.hok.fresh (Nat.le_refl _), rfl, fun l hl => by rw [I.tuple_inj hl hqx]; exact hx, fun l hl => by rw [I.list_inj hl hqy]; exact hy⟩, ⟨z'', ?_, ⟨x1, x2, ?_⟩, ?_, ?_⟩, fun c hcm => ?_⟩
    · exact (sb.2 _ S.TIz).trans (hk _ _ S.TIz S.TITO S.TIi1 S.TIi2 hTI)
    · exact (sb.2 _ S.TOz).trans TO'
    · exact s1.1.at fun o q => (sb.2 _ (Ne.symm S.zi1)).trans q
    · exact s2.1.at fun o q => (sb.2 _ (Ne.symm S.zi2)).trans q
    · have hlt : c < s.heap.objs.size := by
        have e' : c = z ∨ c = TI ∨ c = TO ∨ c = i1 ∨ c = i2 := by simpa using hcm
        rcases e' with q | q | q | q | q
        · rw [q]; exact hzl
        · rw [q]; exact Heap.lt_size hTI
        · rw [q]; exact Heap.lt_size hTO
        · rw [q]; obtain ⟨_, e1, _⟩ := h1; exact Heap.lt_size e1
        · rw [q]; obtain ⟨_, e2, _⟩ := h2; exact Heap.lt_size e2
      rw [upd_ne (Nat.ne_of_lt hlt)]
      exact (hf c hcm).1
  done := by
    intro X hP hw hK hc i pins s σ H E I hf st hg
    subst hP hw hK
    obtain ⟨hz, hTI, ⟨x0, y0, hTO⟩, h1, h2⟩ := st
    obtain ⟨xs, ys, hqx, hqy, hl1, hl2, hend⟩ := hg
    obtain ⟨its, rv, p, _⟩ := I.tuple hqx
    obtain ⟨its2, rv2, p2, _⟩ := I.list hqy
    have l1 := rv.length
    have l2 := rv2.length
    have na : a ≠ i1 := fun q => by
      obtain ⟨o1, e1, c1, d1⟩ := h1
      obtain ⟨o2, e2, c2, _⟩ := p
      rw [q, e1] at e2; cases e2
      rw [c1] at c2; injection c2 with c2; exact absurd c2 (by decide)
    have nb : b ≠ i2 := fun q => by
      obtain ⟨o1, e1, c1, d1⟩ := h2
      obtain ⟨o2, e2, c2, _⟩ := p2.isList
      rw [q, e1] at e2; cases e2
      rw [c1] at c2; injection c2 with c2; exact absurd c2 (by decide)
    exact wpAny_pyNext_zipD2_end S (Draws.tuple (A := X.A.in1) (I.ok.hd hc) i1 a na its.toArray) (Draws.list (A := X.A.in1) (I.ok.hd hc) i2 b nb its2.toArray) hz hTI hTO ⟨h1, p⟩ ⟨h2, p2.isList⟩ (by simp; omega) (by simp; omega) (by simp; omega) fun h' tk hk => ⟨rfl, I.turnedL (t' := tk) (ch := [z, TI, TO, i1, i2]) (fun c o hb q =>
      hk c o (fun q' => hb (by simp [q'])) (fun q' => hb (by simp [q'])) (fun q' => hb (by simp [q'])) (fun q' => hb (by simp [q'])) q) hf⟩
  self := fun A i s Q E st h => wpAny_pyIter_zip st.1 h
def iZM (K : PySem.W.Frag) (ta : TA) : TI := fun σ H R => ta σ H fun vs H1 => ∃ a b xs ys, vs = [.ref a, .ref b] ∧ SqT K H1 a xs ∧ SqL K H1 b ys ∧ R (JzM K a b) H1
theorem pi_zM {X : Cx} {e e2 : Expr} {ta : TA} {p pos tpos : Pos} {elts : List Expr} {kk : Nat} (hg : Gl X "zip") (hm : X.mg "zip" = none) (ha : PA X [e, e2] ta)
    (hs : starEach [e, e2] X.env = (false, eval e X.env) :: starEach [e2] X.env := by rfl) (hpl : (backTo pos (starEach [e2] X.env)).any (·.1) = false := by rfl) :
    PI X (.Tuple elts kk tpos) (.Call (.Name "zip" p) [e, e2] [] pos) (iZM X.K ta) := by
  refine ⟨fun pins s σ H R I h => ?_⟩
  refine Call_ (ld_blt I hg hm PyProof.Rows.boot_zip (PyProof.Rows.callWith_type1 (thn (ha.run pos pins s σ H _ I h) fun us s1 ⟨vs, H1, I1, r1, q1⟩ => ?_) hs hpl))
  obtain ⟨a, b, xs, ys, ex, hqx, hqy, q⟩ := q1
  subst ex
  cases r1 with
  | cons r rr =>
    cases rr with
    | cons r' rr =>
      cases rr
      cases r
      cases r'
      obtain ⟨its, rv, p1, hz⟩ := I1.tuple hqx
      obtain ⟨its2, rv2, p2, hz2⟩ := I1.list hqy
      have hal : a < s1.heap.objs.size := by obtain ⟨o, ho, _⟩ := id p1; exact Heap.lt_size ho
      have hbl : b < s1.heap.objs.size := by obtain ⟨o, ho, _⟩ := id p2.isList; exact Heap.lt_size ho
      refine zip_begins2 (begins_tuple a its.toArray) (begins_list b its2.toArray) p1 p2.isList fun h' g1 g2 g3 g4 g5 hsz hk => wpAny_pyIter_zip g1 ?_
      have I2 : Inv X pins σ H1 { s1 with heap := h' } := I1.kept (t' := s1.toks) hk
      refine ⟨s1.heap.objs.size + 4, [s1.heap.objs.size + 4, s1.heap.objs.size + 2, s1.heap.objs.size + 3, s1.heap.objs.size, s1.heap.objs.size + 1], _, _, H1, rfl, I2, turn_zM (a := a) (b := b) (z := s1.heap.objs.size + 4) (TI := s1.heap.objs.size + 2) (TO := s1.heap.objs.size + 3) (i1 := s1.heap.objs.size) (i2 := s1.heap.objs.size + 1) (sep5 hal hbl), ⟨g1, g2, ⟨_, _, g3⟩, ⟨_, g4, rfl, rfl⟩, ⟨_, g5, rfl, rfl⟩⟩, fun c hc => ?_, q⟩
      have hle : s1.heap.objs.size ≤ c := le5 hc
      exact I1.fpOk hle (I1.hok.fresh hle)
end Dn

/-! Dn21: enumerate and zip, by their meaning. -/
namespace Dn
open PySem PySem.Spec PyProof.Rows L2
section
variable {K : PySem.W.Frag} {F : Hp} {zs : List (Addr × Addr)} {a b : Addr} {vs ws : List V} {ds es : List D}
theorem rpPair {F2 H2 : Hp} {os : List Addr} {T : Addr} {x y : V} {d e : D} (s2 : Same F2 H2) (hT : H2 T = none) (h1 : Rp K F2 os x d) (h2 : Rp K F2 os y e) : Rp K (upd F2 T (.tup [x, y])) os (.ref T) (.tup [d, e]) := by
  have g := Grw.one (F := F2) (H := H2) (o := .tup [x, y]) s2 hT
  exact .tup (.inl (.inl upd_same)) (.cons (h1.mono g.f (List.prefix_refl _)) (.cons (h2.mono g.f (List.prefix_refl _)) .nil)) (by show 2 ≤ SZ; decide)
theorem isIt_eL (h : SqL K F a vs) (r : RpAll K F (osOf zs) vs ds) (hz : ds.length ≤ SZ) : IsIt K F zs (Ite K a) (enumL 0 ds) where
  sz := by rw [enumLen]; exact hz
  go := fun i d H2 F2 zs2 s1 s2 p e => by
    rw [enumGet] at e
    cases e1 : ds[i]? with
    | none => rw [e1] at e; cases e
    | some c =>
      rw [e1] at e; cases e
      obtain ⟨v, h1, h2⟩ := r.get e1
      have q : SqL K H2 a vs := s2.seq (s1.seq h)
      refine ⟨⟨vs, v, q, h1⟩, fun x H3 ⟨T, x', ex, hT, eH, hx⟩ => ?_⟩
      subst ex eH
      have e2 := hx vs q
      rw [h1] at e2; cases e2
      rw [Nat.zero_add]
      exact ⟨_, Grw.one s2 hT, rpPair s2 hT (.int _) (h2.mono s1 (os_pre p))⟩
  stop := fun H2 F2 s1 s2 => by rw [enumLen]; exact ⟨vs, s2.seq (s1.seq h), by rw [r.length]; exact Nat.le_refl _⟩
theorem isIt_eT (h : SqT K F a vs) (r : RpAll K F (osOf zs) vs ds) (hz : ds.length ≤ SZ) : IsIt K F zs (JeT K a) (enumL 0 ds) where
  sz := by rw [enumLen]; exact hz
  go := fun i d H2 F2 zs2 s1 s2 p e => by
    rw [enumGet] at e
    cases e1 : ds[i]? with
    | none => rw [e1] at e; cases e
    | some c =>
      rw [e1] at e; cases e
      obtain ⟨v, h1, h2⟩ := r.get e1
      have q : SqT K H2 a vs := same_seqT s2 (same_seqT s1 h)
      refine ⟨⟨vs, v, q, h1⟩, fun x H3 ⟨T, x', ex, hT, eH, hx⟩ => ?_⟩
      subst ex eH
      have e2 := hx vs q
      rw [h1] at e2; cases e2
      rw [Nat.zero_add]
      exact ⟨_, Grw.one s2 hT, rpPair s2 hT (.int _) (h2.mono s1 (os_pre p))⟩
  stop := fun H2 F2 s1 s2 => by rw [enumLen]; exact ⟨vs, same_seqT s2 (same_seqT s1 h), r.length⟩
theorem isIt_zL (h : SqL K F a vs) (r : RpAll K F (osOf zs) vs ds) (h' : SqL K F b ws) (r' : RpAll K F (osOf zs) ws es) (hz : ds.length ≤ SZ) : IsIt K F zs (Itz K a b) (zipL ds es) where
  sz := by rw [zipLen]; omega
  go := fun i d H2 F2 zs2 s1 s2 p e => by
    obtain ⟨x, y, e1, e2, rfl⟩ := zipGet _ _ _ _ e
    obtain ⟨v, h1, h2⟩ := r.get e1
    obtain ⟨w, k1, k2⟩ := r'.get e2
    have q : SqL K H2 a vs := s2.seq (s1.seq h)
    have q' : SqL K H2 b ws := s2.seq (s1.seq h')
    refine ⟨⟨vs, ws, v, w, q, q', h1, k1⟩, fun x H3 ⟨T, x', y', ex, hT, eH, hx, hy⟩ => ?_⟩
    subst ex eH
    have e2 := hx vs q
    rw [h1] at e2; cases e2
    have e2 := hy ws q'
    rw [k1] at e2; cases e2
    exact ⟨_, Grw.one s2 hT, rpPair s2 hT (h2.mono s1 (os_pre p)) (k2.mono s1 (os_pre p))⟩
  stop := fun H2 F2 s1 s2 => by rw [zipLen]; exact ⟨vs, ws, s2.seq (s1.seq h), s2.seq (s1.seq h'), by have := r.length; have := r'.length; omega⟩
theorem isIt_zT (h : SqT K F a vs) (r : RpAll K F (osOf zs) vs ds) (h' : SqT K F b ws) (r' : RpAll K F (osOf zs) ws es) (hz : ds.length ≤ SZ) : IsIt K F zs (RZ.ItzT K a b) (zipL ds es) where
  sz := by rw [zipLen]; omega
  go := fun i d H2 F2 zs2 s1 s2 p e => by
    obtain ⟨x, y, e1, e2, rfl⟩ := zipGet _ _ _ _ e
    obtain ⟨v, h1, h2⟩ := r.get e1
    obtain ⟨w, k1, k2⟩ := r'.get e2
    have q : SqT K H2 a vs := same_seqT s2 (same_seqT s1 h)
    have q' : SqT K H2 b ws := same_seqT s2 (same_seqT s1 h')
    refine ⟨⟨vs, ws, v, w, q, q', h1, k1⟩, fun x H3 ⟨T, x', y', ex, hT, eH, hx, hy⟩ => ?_⟩
    subst ex eH
    have e2 := hx vs q
    rw [h1] at e2; cases e2
    have e2 := hy ws q'
    rw [k1] at e2; cases e2
    exact ⟨_, Grw.one s2 hT, rpPair s2 hT (h2.mono s1 (os_pre p)) (k2.mono s1 (os_pre p))⟩
  stop := fun H2 F2 s1 s2 => by rw [zipLen]; exact ⟨vs, ws, same_seqT s2 (same_seqT s1 h), same_seqT s2 (same_seqT s1 h'), by have := r.length; have := r'.length; omega⟩
theorem isIt_zM (h : SqT K F a vs) (r : RpAll K F (osOf zs) vs ds) (h' : SqL K F b ws) (r' : RpAll K F (osOf zs) ws es) (hz : ds.length ≤ SZ) : IsIt K F zs (JzM K a b) (zipL ds es) where
  sz := by rw [zipLen]; omega
  go := fun i d H2 F2 zs2 s1 s2 p e => by
    obtain ⟨x, y, e1, e2, rfl⟩ := zipGet _ _ _ _ e
    obtain ⟨v, h1, h2⟩ := r.get e1
    obtain ⟨w, k1, k2⟩ := r'.get e2
    have q : SqT K H2 a vs := same_seqT s2 (same_seqT s1 h)
    have q' : SqL K H2 b ws := s2.seq (s1.seq h')
    refine ⟨⟨vs, ws, v, w, q, q', h1, k1⟩, fun x H3 ⟨T, x', y', ex, hT, eH, hx, hy⟩ => ?_⟩
    subst ex eH
    have e2 := hx vs q
    rw [h1] at e2; cases e2
    have e2 := hy ws q'
    rw [k1] at e2; cases e2
    exact ⟨_, Grw.one s2 hT, rpPair s2 hT (h2.mono s1 (os_pre p)) (k2.mono s1 (os_pre p))⟩
  stop := fun H2 F2 s1 s2 => by rw [zipLen]; exact ⟨vs, ws, same_seqT s2 (same_seqT s1 h), s2.seq (s1.seq h'), by have := r.length; have := r'.length; omega, by have := r.length; have := r'.length; omega, by have := r.length; have := r'.length; omega⟩
end
section
variable {G : Gc} {E : XK} {N : En} {O : List Nat} {X : Cx} {e e2 : Expr} {ms : MA} {p pos tpos : Pos} {elts : List Expr} {kk : Nat}
theorem c_ienum (hK : X.K = G.K) (hg : Gl X "enumerate") (hm : X.mg "enumerate" = none) (ha : PA X [e] (TAk G E N O .v ms)) (hs : starEach [e] X.env = [(false, eval e X.env)] := by rfl) :
    PI X (.Tuple elts kk tpos) (.Call (.Name "enumerate" p) [e] [] pos) (TIk G E N O (iA enumA ms)) := by
  refine PI.imp (PI.or (pi_enum hg hm ha hs) (pi_eT hg hm ha hs)) fun σ H Q ⟨env, st, F, zs, rel, p⟩ => ?_
  have p : PostI G E F H zs ((ms env st).bind fun x st => ofOpt (enumA x) st) Q := p
  rw [hK]
  cases e1 : ms env st with
  | bad => rw [e1] at p; exact p.elim
  | exc c st1 =>
    rw [e1] at p
    refine .inl ⟨env, st, F, zs, rel, ?_⟩
    rw [e1]; exact p
  | ok ds st1 =>
    rw [e1] at p
    match ds, e1, p with
    | [.list xs], e1, p =>
      refine .inl ⟨env, st, F, zs, rel, ?_⟩
      rw [e1]
      intro vs H' F' zs' x S q
      have q : RpAll G.K F' (osOf zs') vs [.list xs] := q
      cases q with
      | cons q1 t =>
        cases t
        cases q1 with
        | lst h1 h2 h3 => exact ⟨_, _, rfl, .of (x.sub _ _ h1), p _ H' F' zs' x S (isIt_eL (.of h1) h2 h3)⟩
    | [.tup xs], e1, p =>
      refine .inr ⟨env, st, F, zs, rel, ?_⟩
      rw [e1]
      intro vs H' F' zs' x S q
      have q : RpAll G.K F' (osOf zs') vs [.tup xs] := q
      cases q with
      | cons q1 t =>
        cases t
        cases q1 with
        | tup h1 h2 h3 => exact ⟨_, _, rfl, same_seqT x.sub h1, p _ H' F' zs' x S (isIt_eT h1 h2 h3)⟩
    | [], _, p => exact p.elim
    | [.non], _, p => exact p.elim
    | [.bool _], _, p => exact p.elim
    | [.int _], _, p => exact p.elim
    | [.str _], _, p => exact p.elim
    | [.ro _], _, p => exact p.elim
    | [.dict _], _, p => exact p.elim
    | [.obj _], _, p => exact p.elim
    | _ :: _ :: _, _, p => simp [enumA] at p; exact p.elim
theorem zipA_cases {ds : List D} {zs : List D} (h : zipA ds = some zs) : (∃ xs ys, ds = [.list xs, .list ys] ∧ zs = zipL xs ys) ∨ (∃ xs ys, ds = [.tup xs, .tup ys] ∧ zs = zipL xs ys) ∨ (∃ xs ys, ds = [.tup xs, .list ys] ∧ zs = zipL xs ys) := by
  unfold zipA at h
  split at h
  · cases h; exact .inl ⟨_, _, rfl, rfl⟩
  · cases h; exact .inr (.inl ⟨_, _, rfl, rfl⟩)
  · cases h; exact .inr (.inr ⟨_, _, rfl, rfl⟩)
  · cases h
theorem c_izip (hK : X.K = G.K) (hg : Gl X "zip") (hm : X.mg "zip" = none) (ha : PA X [e, e2] (TAk G E N O .v ms)) (hs : starEach [e, e2] X.env = (false, eval e X.env) :: starEach [e2] X.env := by rfl) (hpl : (backTo pos (starEach [e2] X.env)).any (·.1) = false := by rfl) :
    PI X (.Tuple elts kk tpos) (.Call (.Name "zip" p) [e, e2] [] pos) (TIk G E N O (iA zipA ms)) := by
  refine PI.imp (PI.or (RZ.pi_zipA hg hm ha hs hpl) (pi_zM hg hm ha hs hpl)) fun σ H Q ⟨env, st, F, zs, rel, p⟩ => ?_
  have p : PostI G E F H zs ((ms env st).bind fun x st => ofOpt (zipA x) st) Q := p
  rw [hK]
  cases e1 : ms env st with
  | bad => rw [e1] at p; exact p.elim
  | exc c st1 =>
    rw [e1] at p
    refine .inl ⟨env, st, F, zs, rel, ?_⟩
    rw [e1]; exact p
  | ok ds st1 =>
    rw [e1] at p
    simp only [R.bind_ok] at p
    cases ez : zipA ds with
    | none => rw [ez] at p; exact p.elim
    | some zd =>
      rw [ez] at p
      rcases zipA_cases ez with ⟨xs, ys, rfl, rfl⟩ | ⟨xs, ys, rfl, rfl⟩ | ⟨xs, ys, rfl, rfl⟩
      · refine .inl ⟨env, st, F, zs, rel, ?_⟩
        rw [e1]
        intro vs H' F' zs' x S q
        have q : RpAll G.K F' (osOf zs') vs [.list xs, .list ys] := q
        cases q with
        | cons q1 t1 => cases t1 with
          | cons q' t2 =>
            cases t2
            cases q1 with
            | lst h1 h2 h3 => cases q' with
              | lst k1 k2 k3 => exact ⟨_, _, _, _, rfl, .inl ⟨.of (x.sub _ _ h1), .of (x.sub _ _ k1), p _ H' F' zs' x S (isIt_zL (.of h1) h2 (.of k1) k2 h3)⟩⟩
      · refine .inl ⟨env, st, F, zs, rel, ?_⟩
        rw [e1]
        intro vs H' F' zs' x S q
        have q : RpAll G.K F' (osOf zs') vs [.tup xs, .tup ys] := q
        cases q with
        | cons q1 t1 => cases t1 with
          | cons q' t2 =>
            cases t2
            cases q1 with
            | tup h1 h2 h3 => cases q' with
              | tup k1 k2 k3 => exact ⟨_, _, _, _, rfl, .inr ⟨same_seqT x.sub h1, same_seqT x.sub k1, p _ H' F' zs' x S (isIt_zT h1 h2 k1 k2 h3)⟩⟩
      · refine .inr ⟨env, st, F, zs, rel, ?_⟩
        rw [e1]
        intro vs H' F' zs' x S q
        have q : RpAll G.K F' (osOf zs') vs [.tup xs, .list ys] := q
        cases q with
        | cons q1 t1 => cases t1 with
          | cons q' t2 =>
            cases t2
            cases q1 with
            | tup h1 h2 h3 => cases q' with
              | lst k1 k2 k3 => exact ⟨_, _, _, _, rfl, same_seqT x.sub h1, .of (x.sub _ _ k1), p _ H' F' zs' x S (isIt_zM h1 h2 (.of k1) k2 h3)⟩
end
end Dn

/-! Dn22: a sequence times a number; tuples of a module; pass. -/
namespace Dn
open PySem PySem.Spec PyProof.Rows L2
theorem tuple_mul1 (l : Addr) (items : Array Value) (n : Nat) (dd : Option Addr) (sl : Array (Option Value)) (u : Tok) :
    Meets (Builtin.«tuple.__mul__» ⟨[.ref l, .int 1 u], []⟩) (fun _ R s => s.heap.get? l = some { cls := .type "tuple", dict := dd, data := .seq items n, slots := sl } ∧ R (.ok (.ret (Value.ref l))) s) :=
  .of_wp fun prog w A R s h => by
    obtain ⟨hp, g, d, tk, os⟩ := s
    obtain ⟨hl, h⟩ := h
    have f1 := AutoSeq1.idx_int
    have c1 : (items.isEmpty || (1 : Int) == 1) = true := by simp
    wp_walk using wpAny_loadPart' hl
    exact ⟨_, rfl, h⟩
theorem tuple_mul0 (l : Addr) (items : Array Value) (n : Nat) (dd : Option Addr) (sl : Array (Option Value)) (u : Tok) (hi : items.isEmpty = false) :
    Meets (Builtin.«tuple.__mul__» ⟨[.ref l, .int 0 u], []⟩) (fun _ R s => s.heap.get? l = some { cls := .type "tuple", dict := dd, data := .seq items n, slots := sl } ∧
      R (.ok (.ret (Value.ref s.heap.objs.size))) { s with heap := s.heap.push { cls := Value.type "tuple", data := Data.seq #[] }, toks := s.toks }) :=
  .of_wp fun prog w A R s h => by
    obtain ⟨hp, g, d, tk, os⟩ := s
    obtain ⟨hl, h⟩ := h
    have f1 := AutoSeq1.idx_int
    have c1 : (items.isEmpty || (0 : Int) == 1) = false := by rw [hi]; rfl
    wp_walk using wpAny_loadPart' hl
    exact ⟨_, rfl, h⟩
def rRep1 (K : PySem.W.Frag) : R2 := fun x y H Q => ∃ l xs, x = .ref l ∧ y = .int 1 ∧ SqT K H l xs ∧ Q (.ref l) H
def rRep0 (K : PySem.W.Frag) : R2 := fun x y H Q => ∃ l xs, x = .ref l ∧ y = .int 0 ∧ SqT K H l xs ∧ xs ≠ [] ∧ ∀ p, H p = none → Q (.ref p) (upd H p (.tup []))
section
variable {X : Cx}
theorem op_rep1 : OpR X (binaryOp .Mult) (rRep1 X.K) := by
  intro pins s σ H x y v u Q I rx ry h
  obtain ⟨l, xs, rfl, rfl, hT, q⟩ := h
  cases rx
  obtain ⟨t, rfl⟩ := ry
  obtain ⟨its, r, ⟨⟨cls, dd, data, sl⟩, ho, hc, n, hd⟩, hs⟩ := I.tuple hT
  simp only at hc hd
  subst hc hd
  exact wpAny_binaryOp_repeat_ref (T := "tuple") (U := "int") (by decide) ⟨_, ho, rfl⟩ (fun s' => typeIs_int s' 1 t) noFill_tuple_mul F.fills_int_mul F.slot_int_rmul repeat_tuple F.slot_int_index.lookup
    (call_meets F.slot_int_rmul (typeIs_int s 1 t) F.entry_int_rmul (F.args_int_rmul_2 _ _) (int_rmul_tuple 1 t l its.toArray n dd sl)
      ⟨ho, rfl, ⟨_, ho, rfl⟩, call_meets F.slot_tuple_mul ⟨_, ho, rfl⟩ F.entry_tuple_mul (F.args_tuple_mul_2 _ _) (tuple_mul1 l its.toArray n dd sl t) ⟨ho, ⟨.ref l, H, I, rfl, q⟩⟩⟩)
theorem op_rep0 : OpR X (binaryOp .Mult) (rRep0 X.K) := by
  intro pins s σ H x y v u Q I rx ry h
  obtain ⟨l, xs, rfl, rfl, hT, hne, q⟩ := h
  cases rx
  obtain ⟨t, rfl⟩ := ry
  obtain ⟨its, r, ⟨⟨cls, dd, data, sl⟩, ho, hc, n, hd⟩, hs⟩ := I.tuple hT
  simp only at hc hd
  subst hc hd
  have hi : its.toArray.isEmpty = false := by
    cases its with
    | nil => exact absurd (List.eq_nil_of_length_eq_zero r.length) hne
    | cons a b => rfl
  exact wpAny_binaryOp_repeat_ref (T := "tuple") (U := "int") (by decide) ⟨_, ho, rfl⟩ (fun s' => typeIs_int s' 0 t) noFill_tuple_mul F.fills_int_mul F.slot_int_rmul repeat_tuple F.slot_int_index.lookup
    (call_meets F.slot_int_rmul (typeIs_int s 0 t) F.entry_int_rmul (F.args_int_rmul_2 _ _) (int_rmul_tuple 0 t l its.toArray n dd sl)
      ⟨ho, rfl, ⟨_, ho, rfl⟩, call_meets F.slot_tuple_mul ⟨_, ho, rfl⟩ F.entry_tuple_mul (F.args_tuple_mul_2 _ _) (tuple_mul0 l its.toArray n dd sl t hi) ⟨ho, ⟨.ref s.heap.objs.size, _, I.laid (t' := s.toks) (o := .tup []) (fun b ob q => Heap.get?_push_of_some _ q) (Nat.le_refl _) ⟨Nat.zero_le _, _, .nil, IsTup.new _ _⟩, rfl, q _ (I.hok.fresh (Nat.le_refl _))⟩⟩⟩)
end
theorem RpAll.rep {K : PySem.W.Frag} {F : Hp} {os : List Addr} {vs : List V} {ds : List D} (r : RpAll K F os vs ds) : ∀ n : Nat, RpAll K F os (List.replicate n vs).flatten (List.replicate n ds).flatten
  | 0 => .nil
  | n + 1 => by
    rw [List.replicate_succ, List.replicate_succ, List.flatten_cons, List.flatten_cons]
    exact r.append (r.rep n)
theorem rep_len {α : Type} (xs : List α) (n : Nat) : (List.replicate n xs).flatten.length = n * xs.length := by
  induction n with
  | zero => simp
  | succ n ih => rw [List.replicate_succ, List.flatten_cons, List.length_append, ih, Nat.succ_mul]; omega
section
variable {G : Gc} {E : XK} {N : En} {O : List Nat} {X : Cx} {a b : Expr} {ma mb : ME} {pos : Pos} {rk : Kd}
def rRepA (K : PySem.W.Frag) : R2 := fun x y H Q => (rRep x y H Q ∨ rRepT K x y H Q) ∨ (rRep1 K x y H Q ∨ rRep0 K x y H Q)
theorem v_rep : V2 G .v (rRepA G.K) repD := by
  intro F H zs st x y dx dy d Q s S hx hy hg k
  cases dx <;> cases dy <;> first | (cases hg; done) | skip
  · rename_i xs n
    simp only [repD] at hg
    split at hg
    · rename_i hc
      cases hg
      obtain ⟨a1, vs1, rfl, q1, r1, _⟩ := hx.list s
      have hl : (List.replicate n.toNat xs).flatten.length ≤ SZ := by
        rw [rep_len]
        have : n.toNat * xs.length ≤ 1000 * 1000 := Nat.mul_le_mul (by omega) hc.2.2
        exact Nat.le_trans this (by decide)
      refine .inl (.inl ⟨a1, n, vs1, rfl, hy.int, q1, by omega, by omega, ?_, fun q hq => ?_⟩)
      · rw [r1.length, szl, Nat.mul_comm, ← rep_len]; exact hl
      · exact k_newLst s S (k_ov k) (r1.rep _) hl hq
    · cases hg
  · rename_i xs n
    simp only [repD] at hg
    split at hg
    · rename_i hc
      cases hg
      obtain ⟨a1, vs1, rfl, q1, r1, z1⟩ := hx.tup
      have hne : vs1 ≠ [] := fun z => hc.1 (List.eq_nil_of_length_eq_zero (by rw [← r1.length, z]; rfl))
      have hl : (List.replicate n.toNat xs).flatten.length ≤ SZ := by
        rw [rep_len]
        have : n.toNat * xs.length ≤ 1000 * 1000 := Nat.mul_le_mul (by omega) hc.2.2.2
        exact Nat.le_trans this (by decide)
      by_cases h1 : n = 1
      · subst h1
        have e : (List.replicate (1 : Int).toNat xs).flatten = xs := by simp
        rw [e] at k
        exact .inr (.inl ⟨a1, vs1, rfl, hy.int, same_seqT s q1, k _ H F (Grw.refl s) (.tup q1 r1 z1)⟩)
      · by_cases h0 : n = 0
        · subst h0
          exact .inr (.inr ⟨a1, vs1, rfl, hy.int, same_seqT s q1, hne, fun q hq => k_newTup s k .nil (Nat.zero_le _) hq⟩)
        · exact .inl (.inr ⟨a1, n, vs1, rfl, hy.int, same_seqT s q1, hne, by omega, hc.2.2.1, by rw [r1.length]; exact hc.2.2.2, fun q hq => k_newTup s k (r1.rep _) hl hq⟩)
    · cases hg
theorem c_rep (hK : X.K = G.K) (ha : PE X a (TEk G E N O .b ma)) (hb : PE X b (TEk G E N O .b mb)) : PE X (.BinOp a .Mult b pos) (TEk G E N O .v (e2 repD ma mb)) :=
  c_op (show OpR X (binaryOp .Mult) (rRepA G.K) by rw [← hK]; exact OpR.or (OpR.or op_rep op_repT) (OpR.or op_rep1 op_rep0)) v_rep ha hb
/-- a module's tuple of texts -/
structure Gt (G : Gc) (mg : Str → Option Value) (x : Str) (ls : List Str) : Prop where
  glo : mg x = some (.ref (He.ga G.K x))
  sq : ∀ H : Hp, SqT G.K H (He.ga G.K x) (ls.map V.str)
theorem rp_lits {K : PySem.W.Frag} {F : Hp} {os : List Addr} : ∀ {ls : List Str} {ts : List (List Nat)}, ls.map (fun x => x.cps.toList) = ts → (∀ t ∈ ts, StrOk t) → RpAll K F os (ls.map V.str) (ts.map D.str)
  | [], _, rfl, _ => .nil
  | x :: ls, _, rfl, h => .cons (.str rfl (h _ List.mem_cons_self)) (rp_lits rfl fun t ht => h t (List.mem_cons_of_mem _ ht))
theorem c_gtup {x : Str} {ls : List Str} {ts : List (List Nat)} (h : Gt G X.mg x ls) (hz : ls.map (fun x => x.cps.toList) = ts := by rfl) (hl : ∀ t ∈ ts, StrOk t := by decide) (hn : ts.length ≤ 100 := by decide) (hg : Gl X x := by rfl) (hd : (x == ("__debug__" : Str)) = false := by decide) : PE X (.Name x pos) (TEk G E N O .v (eC (.tup (ts.map D.str)))) :=
  c_glob (v := .ref (He.ga G.K x)) hg h.glo rfl (fun F os => .tup (h.sq F) (rp_lits hz hl) (by rw [List.length_map]; exact Nat.le_trans hn (by decide))) hd
theorem c_pass : PS X (.Pass pos) (TSk G E N rk O O sSkip) := PS.imp ps_pass fun D σ H ⟨env, st, F, zs, r, h⟩ => h σ H F zs r (Same.refl _) (List.prefix_refl _)
end
end Dn

/-! Dn23: sets of objects that are told apart by keys (tuples of texts and numbers): adding. -/
namespace Dn
open PySem PySem.Spec PyProof.Rows L2
/-- what is asked of the objects that a set is to hold: is h k a, the object at a has the key k -/
structure Told (P : Program) (w : World) {K : Type} [DecidableEq K] (is : Heap → K → Addr → Prop) (hs : K → Int) : Prop where
  keep : ∀ {h h' : Heap} {k : K} {a : Addr}, is h k a → (∀ o, h.get? a = some o → h'.get? a = some o) → is h' k a
  noSet : ∀ {h : Heap} {k : K} {a : Addr} {o : Obj} {es : Array (Int × Value)} {ep : Nat} {t : SetTable}, is h k a → h.get? a = some o → o.data ≠ .set es ep t
  hash : ∀ {A : Around} {E : Value → Shared → Prop} {s : Shared} {k : K} {a : Addr} {Q : Int → Shared → Prop}, A.units < cLine → is s.heap k a → (∀ tk, s.toks ≤ tk → Q (hs k) { s with toks := tk }) → wpAny (model P w) A (pyHash (.ref a)) Q E s
  eq : ∀ {A : Around} {E : Value → Shared → Prop} {s : Shared} {k l : K} {a b : Addr} {Q : Bool → Shared → Prop}, A.units < cLine → is s.heap k a → is s.heap l b → Q (decide (k = l)) s → wpAny (model P w) A (eqBool (.ref a) (.ref b)) Q E s
  byVal : ∀ {A : Around} {E : Value → Shared → Prop} {s : Shared} {k : K} {a : Addr} {Q : Bool → Shared → Prop}, is s.heap k a → (∀ b, Q b s) → wpAny (model P w) A (hashByValue 8 (.ref a)) Q E s
  quiet : ∀ {A : Around} {E : Value → Shared → Prop} {s : Shared} {k : K} {a : Addr} {Q : Bool → Shared → Prop}, is s.heap k a → Q true s → wpAny (model P w) A (eqIsQuiet 8 (.ref a)) Q E s
  noCls : ∀ {A : Around} {E : Value → Shared → Prop} {s : Shared} {k : K} {a : Addr} {Q : Bool → Shared → Prop}, is s.heap k a → Q false s → wpAny (model P w) A (ofAClassStatement 8 (.ref a)) Q E s
section
variable {P : Program} {w : World} {K : Type} [DecidableEq K] {is : Heap → K → Addr → Prop} {hs : K → Int} {A : Around} {E : Value → Shared → Prop} {s : Shared}
theorem Told.unseen (T : Told P w is hs) {k : K} {b : Addr} {Q : Bool → Shared → Prop} (hk : is s.heap k b) {ys : List Value} (hy : ∀ y ∈ ys, ∃ l c, y = Value.ref c ∧ is s.heap l c) (h : Q false s) : wpAny (model P w) A (searchCouldBeSeen (.ref b) ys) Q E s := by
  unfold searchCouldBeSeen
  refine wpAny_bind (wpAny_forIn_list _ (fun left r s' => r.1 = none ∧ s' = s ∧ ∀ y ∈ left, ∃ l c, y = Value.ref c ∧ is s.heap l c) _ ?_ ?_ _ _ ⟨rfl, rfl, hy⟩)
  · rintro v left r s' ⟨_, rfl, all⟩
    obtain ⟨l, c, rfl, hc⟩ := all v List.mem_cons_self
    have all' := fun y (hy : y ∈ left) => all y (List.mem_cons_of_mem _ hy)
    dsimp only
    by_cases hv : (b == c || (carriedByValue (.ref b) && carriedByValue (.ref c))) = true
    · exact wp_if_pos hv (wpAny_pure ⟨rfl, rfl, all'⟩)
    · refine wp_if_neg hv (wpAny_bind (T.quiet hk ?_))
      simp only [Bool.not_true, Bool.false_eq_true, if_false]
      refine wpAny_bind (T.quiet hc ?_)
      simp only [Bool.not_true, Bool.false_eq_true, if_false]
      refine wpAny_bind (T.noCls hk ?_)
      simp only [Bool.false_eq_true, if_false]
      refine wpAny_bind (T.noCls hc ?_)
      simp only [Bool.false_eq_true, if_false]
      exact wpAny_pure ⟨rfl, rfl, all'⟩
  · rintro ⟨r1, r2⟩ s' ⟨hr, rfl, _⟩
    cases hr
    exact wpAny_pure h
/-- the set at a: its rows in the order of the table -/
structure Sat (w : World) (is : Heap → K → Addr → Prop) (hs : K → Int) (h : Heap) (a : Addr) (L : List (K × Addr)) (es : Array (Int × Value)) (ep : Nat) (t : SetTable) : Prop where
  at_ : ∃ o, h.get? a = some o ∧ o.ExactSet ∧ o.data = .set es ep t
  row : es.toList = L.map fun p => (hs p.1, Value.ref p.2)
  tab : TabOk t (L.map fun p => hs p.1)
  one : (L.map (·.1)).Nodup
  is_ : ∀ p ∈ L, is h p.1 p.2
  led : w.params.followText "set-order" = true ∨ t.led = true
  rm : L.length * 5 < t.mask * 3
  few : L.length < 64
variable {a : Addr} {L : List (K × Addr)} {es : Array (Int × Value)} {ep : Nat} {t : SetTable}
theorem row_size (row : es.toList = L.map fun p => (hs p.1, Value.ref p.2)) : es.size = L.length := by
  rw [← Array.length_toList, row, List.length_map]
theorem row_get (row : es.toList = L.map fun p => (hs p.1, Value.ref p.2)) {i : Nat} {p : K × Addr} (h : L[i]? = some p) : es[i]? = some (hs p.1, Value.ref p.2) := by
  rw [← Array.getElem?_toList, row, List.getElem?_map, h]; rfl
theorem fits_of (h1 : t.place.size = es.size) (h2 : t.dummies = #[]) (h3 : es.size ≤ t.mask) : t.fits es.size = true := by
  simp only [SetTable.fits, SetTable.fill, h2, Bool.and_eq_true, beq_iff_eq, decide_eq_true_eq]
  exact ⟨h1, by show t.place.size + 0 ≤ t.mask; omega⟩
theorem Sat.place (S : Sat w is hs s.heap a L es ep t) : t.place.size = L.length := by have := S.tab.sz; rwa [List.length_map] at this
theorem Sat.fits (S : Sat w is hs s.heap a L es ep t) : t.fits es.size = true := by
  have e := row_size S.row
  have := S.rm
  exact fits_of (by rw [S.place, e]) S.tab.dm (by omega)
/-- the c-th step of a search for the hash x -/
abbrev stp (m : Nat) (x : Int) (c : Nat) : SetTable.Probe := nth m (runAt m (SetTable.bits x % (m + 1)) (SetTable.bits x)) c
theorem stp_add (m : Nat) (x : Int) (c q : Nat) : nth m (stp m x c) q = stp m x (c + q) := (nth_add m c _ q).symm
theorem stp_dummy (m : Nat) (x : Int) (c : Nat) : (stp m x c).dummy = none := by
  have go : ∀ (n : Nat) (p : SetTable.Probe), p.dummy = none → (nth m p n).dummy = none := by
    intro n
    induction n with
    | zero => exact fun p h => h
    | succ n ih => exact fun p h => ih _ (by unfold adv; split <;> exact h)
  exact go c _ rfl
/-- the search, from its c-th step on; C: the first empty place -/
theorem look_from (T : Told P w is hs) (S : Sat w is hs s.heap a L es ep t) {x : Addr} {k : K} (hx : is s.heap k x) (hu : A.units < cLine) {C : Nat} (hC : C < 10 * SetTable.turns t.mask)
    (emp : way t.mask (hs k) C ∉ t.place.toList) (ful : ∀ c, c < C → way t.mask (hs k) c ∈ t.place.toList) {Q : SetFound → Shared → Prop}
    (yes : k ∈ L.map (·.1) → Q (.there none) s) (no : k ∉ L.map (·.1) → Q (.free (way t.mask (hs k) C) false) s) (f : Nat) :
    ∀ (c : Nat) (at_ : Option SetTable.Probe), at_.getD (t.probeStart (hs k)) = stp t.mask (hs k) c → c ≤ C → C < c + f →
      (∀ (i : Nat) p, L[i]? = some p → p.1 = k → ∃ c', c ≤ c' ∧ c' < C ∧ t.place.toList[i]? = some (way t.mask (hs k) c')) →
      wpAny (model P w) A (setSearchFrom a (.ref x) (hs k) true f at_) Q E s := by
  induction f with
  | zero => intro c _ _ h1 h2; omega
  | succ f ih =>
    intro c at_ e0 hc hf mine
    obtain ⟨o, ho, _, hd⟩ := S.at_
    have gw : ¬ t.gaveWay = true := by unfold SetTable.gaveWay; rw [mask_odd S.tab.mok]; decide
    rw [setSearchFrom_succ]
    refine wpAny_bind (wpAny_setState_of ho hd S.fits ?_)
    dsimp only
    refine wp_if_neg gw ?_
    try refine wpAny_bind (wpAny_pure ?_)
    have hat : ∀ (i : Nat) p, L[i]? = some p → (es[i]?.map (·.1)).getD 0 = hs p.1 := fun i p hp => by rw [row_get S.row hp]; rfl
    have wj : ∀ q, (nth t.mask (stp t.mask (hs k) c) q).j = way t.mask (hs k) (c + q) := fun q => congrArg SetTable.Probe.j (stp_add _ _ _ _)
    have spec := go_spec t S.tab.ris S.tab.dm (fun i => (es[i]?.map (·.1)).getD 0) (hs k) (10 * SetTable.turns t.mask) (C - c) _ (stp_dummy t.mask (hs k) c) (by omega)
      (fun q hq => by rw [wj]; exact ful _ (by omega)) (by rw [wj, Nat.add_sub_cancel' hc]; exact emp)
    -- an entry of the key that lies ahead is met
    have miss : ∀ (c' i0 : Nat) (p0 : K × Addr), (∀ k' i' : Nat, k' < c' - c → t.place.toList[i']? = some (nth t.mask (stp t.mask (hs k) c) k').j → (es[i']?.map (·.1)).getD 0 ≠ hs k) → L[i0]? = some p0 → p0.1 = k → ∃ c2, c ≤ c2 ∧ c' ≤ c2 ∧ c2 < C ∧ t.place.toList[i0]? = some (way t.mask (hs k) c2) := fun c' i0 p0 hno h0 hk0 => by
      obtain ⟨c2, a1, a2, a3⟩ := mine i0 p0 h0 hk0
      refine ⟨c2, a1, Nat.le_of_not_lt fun z => ?_, a2, a3⟩
      refine hno (c2 - c) i0 (by omega) (by rw [wj, Nat.add_sub_cancel' a1]; exact a3) ?_
      rw [hat i0 p0 h0, hk0]
    rcases spec with ⟨q, i, hq, hi, hh, hno, hpr⟩ | ⟨hno, hpr⟩
    · rw [wj] at hi
      have met : t.probe (fun i => (es[i]?.map (·.1)).getD 0) (hs k) (at_.getD (t.probeStart (hs k))) = some (.candidate (way t.mask (hs k) (c + q)) i (stp t.mask (hs k) (c + (q + 1)))) := by
        rw [e0, ← wj, ← stp_add]; exact hpr
      rw [met]
      dsimp only
      have hil : i < L.length := by
        have := (List.getElem?_eq_some_iff.mp hi).1
        rw [Array.length_toList, S.place] at this; exact this
      obtain ⟨p, hp⟩ : ∃ p, L[i]? = some p := ⟨_, List.getElem?_eq_getElem hil⟩
      have hm : p ∈ L := List.mem_of_getElem? hp
      have after : wpAny (model P w) A (searchRest a (.ref x) (hs k) true f es t (way t.mask (hs k) (c + q)) i (stp t.mask (hs k) (c + (q + 1)))) Q E s := by
        unfold searchRest
        rw [row_get S.row hp]
        dsimp only
        refine wpAny_bind (wpAny_holding (T.eq hu (S.is_ p hm) hx ?_))
        refine wpAny_bind (wpAny_setState_of ho hd S.fits ?_)
        dsimp only
        by_cases hk : p.1 = k
        · exact wp_if_pos (by simp [hk]) (wpAny_pure (yes (List.mem_map.mpr ⟨p, hm, hk⟩)))
        · refine wp_if_neg (by simp [hk]) ?_
          try refine wpAny_bind (wpAny_pure ?_)
          rw [sameMem]
          dsimp only
          have live : t.slot (way t.mask (hs k) (c + q)) = .live i := slot_live S.tab.ris hi
          simp only [if_true, live, row_get S.row hp]
          refine wpAny_bind (wpAny_isSame_ref_self (wpAny_bind (wpAny_pure ?_)))
          simp only [if_true]
          refine wp_if_neg (by simp [hk]) (ih (c + (q + 1)) _ rfl (by omega) (by omega) fun i0 p0 h0 hk0 => ?_)
          obtain ⟨c2, a0, a1, a2, a3⟩ := miss (c + q) i0 p0 (fun k' i' z => hno k' i' (by omega)) h0 hk0
          refine ⟨c2, ?_, a2, a3⟩
          rcases Nat.lt_or_ge (c + q) c2 with z | z
          · omega
          · have ec : c2 = c + q := by omega
            rw [ec] at a3
            have := (slot_live S.tab.ris a3).symm.trans live
            injection this with this
            rw [this, hp] at h0
            cases h0
            exact absurd hk0 hk
      by_cases hl : t.led = true
      · refine wp_if_neg (by simp [hl]) ?_
        try refine wpAny_bind (wpAny_pure ?_)
        exact after
      · refine wp_if_pos (by simp [hl]) (wpAny_bind (T.unseen hx (fun y hy => ?_) ?_))
        · obtain ⟨e, he, rfl⟩ := List.mem_map.mp hy
          have he : e ∈ es.toList := by
            have : e ∈ es ∧ e.1 = hs k := by simpa using he
            simpa using this.1
          rw [S.row] at he
          obtain ⟨p2, hp2, rfl⟩ := List.mem_map.mp he
          exact ⟨p2.1, p2.2, rfl, S.is_ p2 hp2⟩
        · refine wp_if_neg (by decide) ?_
          try refine wpAny_bind (wpAny_pure ?_)
          exact after
    · have met : t.probe (fun i => (es[i]?.map (·.1)).getD 0) (hs k) (at_.getD (t.probeStart (hs k))) = some (.empty (way t.mask (hs k) C) none) := by
        have e2 : way t.mask (hs k) C = (nth t.mask (stp t.mask (hs k) c) (C - c)).j := by rw [wj, Nat.add_sub_cancel' hc]
        rw [e0, e2]; exact hpr
      rw [met]
      dsimp only
      refine wpAny_pure (no fun hm => ?_)
      obtain ⟨p0, h0, hk0⟩ := List.mem_map.mp hm
      obtain ⟨i0, h0⟩ := List.getElem?_of_mem h0
      obtain ⟨c2, _, a1, a2, _⟩ := miss C i0 p0 (fun k' i' z => hno k' i' z) h0 hk0
      omega
theorem look_for (T : Told P w is hs) (S : Sat w is hs s.heap a L es ep t) {x : Addr} {k : K} (hx : is s.heap k x) (hu : A.units < cLine) {Q : SetFound → Shared → Prop} (yes : k ∈ L.map (·.1) → Q (.there none) s)
    (no : ∀ C, k ∉ L.map (·.1) → way t.mask (hs k) C ∉ t.place.toList → (∀ c, c < C → way t.mask (hs k) c ∈ t.place.toList) → Q (.free (way t.mask (hs k) C) false) s) :
    wpAny (model P w) A (setSearch a (.ref x) (hs k) true) Q E s := by
  have rm := S.rm
  obtain ⟨C, h1, h2, h3⟩ := S.tab.first (by rw [List.length_map]; omega) (hs k)
  have big : 10 * SetTable.turns t.mask ≤ 1420 := by
    unfold SetTable.turns
    rcases S.tab.mok with e | e | e <;> omega
  unfold setSearch
  refine look_from T S hx hu h1 h2 h3 yes (fun z => no C z h2 h3) 100000 0 none rfl (Nat.zero_le _) (by omega) fun i p hp hk => ?_
  have hi : (L.map fun p => hs p.1)[i]? = some (hs k) := by rw [List.getElem?_map, hp, ← hk]; rfl
  have hil : i < t.place.toList.length := by rw [Array.length_toList, S.place]; exact (List.getElem?_eq_some_iff.mp hp).1
  have hj := List.getElem?_eq_getElem hil
  obtain ⟨c, hc, e⟩ := S.tab.before h2 hi hj
  exact ⟨c, Nat.zero_le _, hc, by rw [hj, e]⟩
end
end Dn

/-! Dn24: sets of objects told apart by keys: the table laid anew, adding, all of a list. -/
namespace Dn
open PySem PySem.Spec PyProof.Rows L2
theorem fmCongr {α β : Type} {f g : α → Option β} : ∀ {l : List α}, (∀ x ∈ l, f x = g x) → l.filterMap f = l.filterMap g
  | [], _ => rfl
  | x :: l, h => by
    rw [List.filterMap_cons, List.filterMap_cons, h x List.mem_cons_self, fmCongr fun y hy => h y (List.mem_cons_of_mem _ hy)]
theorem range_get {α : Type} (L : List α) : (List.range L.length).filterMap (fun i => L[i]?) = L := by
  induction L with
  | nil => rfl
  | cons x L ih =>
    rw [List.length_cons, List.range_succ_eq_map, List.filterMap_cons]
    simp only [List.getElem?_cons_zero]
    rw [List.filterMap_map]
    congr 1
section
variable {P : Program} {w : World} {K : Type} [DecidableEq K] {is : Heap → K → Addr → Prop} {hs : K → Int} {A : Around} {E : Value → Shared → Prop} {s : Shared}
variable {a : Addr} {L : List (K × Addr)} {es : Array (Int × Value)} {ep : Nat} {t : SetTable}
theorem rows_anew {order : Array Nat} (row : es.toList = L.map fun p => (hs p.1, Value.ref p.2)) (hp : order.toList.Perm (List.range L.length)) :
    ∃ M : List (K × Addr), (order.filterMap (es[·]?)).toList = M.map (fun p => (hs p.1, Value.ref p.2)) ∧ M.Perm L ∧ M.map (fun p => hs p.1) = order.toList.map fun i => (es.map (·.1)).getD i 0 := by
  have ge : ∀ i : Nat, es[i]? = (L[i]?).map fun p => (hs p.1, Value.ref p.2) := fun i => by rw [← Array.getElem?_toList, row, List.getElem?_map]
  refine ⟨order.toList.filterMap fun i => L[i]?, ?_, ?_, ?_⟩
  · rw [Array.toList_filterMap, List.map_filterMap]
    exact fmCongr fun i _ => ge i
  · have h := hp.filterMap fun i => L[i]?
    rwa [range_get] at h
  · rw [List.map_filterMap, ← List.filterMap_eq_map]
    refine fmCongr fun i hi => ?_
    have hl : i < L.length := List.mem_range.mp (hp.mem_iff.mp hi)
    rw [List.getElem?_eq_getElem hl]
    simp [Array.getD_eq_getD_getElem?, ge i, List.getElem?_eq_getElem hl]
/-- the table laid anew, larger -/
theorem lay_anew (T : Told P w is hs) {o : Obj} (ho : s.heap.get? a = some o) (ex : o.ExactSet) (hd : o.data = .set es ep t) (row : es.toList = L.map fun p => (hs p.1, Value.ref p.2)) (sz : t.place.size = es.size) (dm : t.dummies = #[]) (fl : es.size ≤ t.mask)
    (one : (L.map (·.1)).Nodup) (is_ : ∀ p ∈ L, is s.heap p.1 p.2) (led : w.params.followText "set-order" = true ∨ t.led = true) (few : L.length < 64) {wanted M : Nat} (hw : SetTable.sizeAbove wanted - 1 = M) (hM : MaskOk M)
    (hw2 : SetTable.sizeAbove wanted ≤ 128) (hn : L.length * 5 < M * 3) {Q : Unit → Shared → Prop} (hQ : ∀ h' L' es' ep' t', Heap.SameBut a s.heap h' → Sat w is hs h' a L' es' ep' t' → L'.Perm L → Q () { s with heap := h' }) :
    wpAny (model P w) A (setRelay a wanted) Q E s := by
  have hl := row_size row
  obtain ⟨t', order, e, hp, tb, em, el, _, _⟩ := relaid_ok t (hs := es.map (·.1)) (wanted := wanted) hw hM (by rw [Array.size_map, hl]; omega)
  rw [Array.size_map, hl] at hp
  obtain ⟨L2, r1, r2, r3⟩ := rows_anew row hp
  rw [← r3] at tb
  have hl2 : (order.filterMap (es[·]?)).size = es.size := by rw [← Array.length_toList, r1, List.length_map, r2.length_eq, hl]
  rw [setRelay_eq]
  refine wpAny_bind (wpAny_setState_of ho hd (fits_of sz dm fl) ?_)
  dsimp only
  refine wp_if_neg (by rw [sizeLine_eq]; omega) ?_
  try refine wpAny_bind (wpAny_pure ?_)
  rw [e]
  dsimp only
  refine wpAny_bind (wp_if_neg (by rw [hl2]; simp) ?_)
  try refine wpAny_bind (wpAny_pure ?_)
  refine wpAny_pure ?_
  dsimp only
  refine wpAny_storeSet_of ho hd ?_ (by rw [hl2, hl, sizeLine_eq]; omega)
  have sb : Heap.SameBut a s.heap (s.heap.update a (Obj.putSet (order.filterMap (es[·]?)) t')) := Heap.SameBut.update ..
  refine hQ _ L2 _ (ep + 1) t' sb ⟨⟨_, Dn.store_at ho hd, ⟨ex.1, ex.2.1, ex.2.2⟩, rfl⟩, r1, tb, (r2.map _).nodup_iff.mpr one, fun p hpm => ?_, by rw [el]; exact led, by rw [r2.length_eq, em]; exact hn, by rw [r2.length_eq]; exact few⟩ r2
  have q := is_ p (r2.mem_iff.mp hpm)
  exact T.keep q fun u hu => (sb.2 p.2 fun z => by rw [z] at q; exact T.noSet q ho hd).trans hu
def addTail (a : Addr) (es : Array (Int × Value)) (n : Nat) (e : Int × Value) (t : SetTable) : Sem Bool := do
  storeSet a (SetTable.insertAt es n e) t
  if !false && t.tooFull then setRelay a (SetTable.grown (es.size + 1))
  return true
/-- one object more -/
theorem add_key (T : Told P w is hs) (S : Sat w is hs s.heap a L es ep t) {x : Addr} {k : K} (hx : is s.heap k x) (hu : A.units < cLine) (few : L.length + 1 < 64) {Q : Bool → Shared → Prop}
    (hQ : ∀ b h' L' es' ep' t', Heap.SameBut a s.heap h' → Sat w is hs h' a L' es' ep' t' → (k ∈ L.map (·.1) → L' = L) → (k ∉ L.map (·.1) → L'.Perm ((k, x) :: L)) → Q b { s with heap := h' }) :
    wpAny (model P w) A (setAddHashed a (.ref x) (hs k)) Q E s := by
  obtain ⟨o, ho, ex, hd⟩ := S.at_
  have hl := row_size S.row
  have rm := S.rm
  unfold setAddHashed
  refine wpAny_holding ?_
  rw [show (100000 : Nat) = 99999 + 1 from rfl, setAddHashedIn_succ]
  refine wpAny_bind (wpAny_setState_of ho hd S.fits ?_)
  dsimp only
  refine wp_if_neg (by simp [byScan, Value.scannable]) ?_
  try refine wpAny_bind (wpAny_pure ?_)
  refine wpAny_bind (look_for T S hx hu (fun hm => ?_) fun C hm emp ful => ?_)
  · exact wpAny_pure (hQ false s.heap L es ep t (Heap.SameBut.refl a s.heap) S (fun _ => rfl) fun z => absurd hm z)
  · dsimp only
    refine wpAny_bind (wpAny_setState_of ho hd S.fits ?_)
    dsimp only
    obtain ⟨q1, q2, tb, mk, ld, _, _, _, fi⟩ := S.tab.put emp ful
    generalize t.put (way t.mask (hs k) C) = pt at q1 tb mk ld fi ⊢
    obtain ⟨t1, pp⟩ := pt
    dsimp only at q1 tb mk ld fi ⊢
    subst q1
    generalize SetTable.below t.place (way t.mask (hs k) C) = n at q2 tb ⊢
    rw [List.length_map] at fi
    have main : ∀ t2 : SetTable, TabOk t2 ((L.map fun p => hs p.1).take n ++ hs k :: (L.map fun p => hs p.1).drop n) → t2.mask = t.mask → t2.led = t.led → t2.fill = L.length + 1 → wpAny (model P w) A (addTail a es n (hs k, .ref x) t2) Q E s := by
      intro t2 tb mk ld fi
      have pm : (L.take n ++ (k, x) :: L.drop n).Perm ((k, x) :: L) := by
        have h : (L.take n ++ (k, x) :: L.drop n).Perm ((k, x) :: (L.take n ++ L.drop n)) := List.perm_middle
        rwa [List.take_append_drop] at h
      have row1 : (SetTable.insertAt es n (hs k, Value.ref x)).toList = (L.take n ++ (k, x) :: L.drop n).map fun p => (hs p.1, Value.ref p.2) := by
        rw [SetTable.toList_insertAt, S.row, List.map_append, List.map_cons, List.map_take, List.map_drop]
      have tb1 : TabOk t2 ((L.take n ++ (k, x) :: L.drop n).map fun p => hs p.1) := by
        rw [List.map_append, List.map_cons, List.map_take, List.map_drop]; exact tb
      unfold addTail
      generalize SetTable.insertAt es n (hs k, Value.ref x) = es1 at row1 ⊢
      generalize L.take n ++ (k, x) :: L.drop n = L1 at pm row1 tb1
      clear tb
      have ln1 : L1.length = L.length + 1 := pm.length_eq
      have sz1 : es1.size = L.length + 1 := (row_size row1).trans ln1
      have one1 : (L1.map (·.1)).Nodup := (pm.map _).nodup_iff.mpr (List.nodup_cons.mpr ⟨hm, S.one⟩)
      refine wpAny_bind (wpAny_storeSet_of ho hd ?_ (by rw [sz1, sizeLine_eq]; omega))
      have sb : Heap.SameBut a s.heap (s.heap.update a (Obj.putSet es1 t2)) := Heap.SameBut.update ..
      have ho1 := Dn.store_at (es' := es1) (t' := t2) ho hd
      generalize s.heap.update a (Obj.putSet es1 t2) = h1 at sb ho1 ⊢
      have stay : ∀ {l : K} {b : Addr}, is s.heap l b → is h1 l b := fun {l b} q => T.keep q fun u hu => (sb.2 b fun z => by rw [z] at q; exact T.noSet q ho hd).trans hu
      have is1 : ∀ p ∈ L1, is h1 p.1 p.2 := fun p hp => by
        rcases List.mem_cons.mp (pm.mem_iff.mp hp) with e | hp
        · rw [e]; exact stay hx
        · exact stay (S.is_ p hp)
      have led1 : w.params.followText "set-order" = true ∨ t2.led = true := by rw [ld]; exact S.led
      by_cases hf : t2.tooFull = true
      · first
          | (refine wpAny_bind ?_; refine wp_if_pos (by simp [hf]) ?_)
          | (refine wp_if_pos (by simp [hf]) ?_; refine wpAny_bind ?_)
        have full : (L.length + 1) * 5 ≥ t.mask * 3 := by
          have h := hf
          unfold SetTable.tooFull at h
          rwa [decide_eq_true_eq, fi, mk] at h
        rw [hl]
        have go : ∀ M, SetTable.sizeAbove (SetTable.grown (L.length + 1)) - 1 = M → MaskOk M → SetTable.sizeAbove (SetTable.grown (L.length + 1)) ≤ 128 → (L.length + 1) * 5 < M * 3 → L.length + 1 ≤ t.mask →
            wpAny (model P w) A (setRelay a (SetTable.grown (L.length + 1))) (fun _ s' => wpAny (model P w) A (pure true) Q E s') E { s with heap := h1 } := fun M m1 m2 m3 m4 m5 =>
          lay_anew (s := { s with heap := h1 }) T ho1 ⟨ex.1, ex.2.1, ex.2.2⟩ rfl row1 (by rw [sz1, ← ln1]; have := tb1.sz; rwa [List.length_map] at this) tb1.dm (by rw [sz1, mk]; exact m5) one1 is1 led1 (by rw [ln1]; exact few) m1 m2 m3 (by rw [ln1]; exact m4)
            fun h2 L2 es2 ep2 t2 sb2 S2 pm2 => wpAny_pure (hQ true h2 L2 es2 ep2 t2 (sb.trans sb2) S2 (fun z => absurd z hm) fun _ => pm2.trans pm)
        rcases S.tab.mok with e | e | e <;> rw [e] at full rm go
        · have e2 : L.length = 4 := by omega
          exact go 31 (by rw [e2, size_20]) (.inr (.inl rfl)) (by rw [e2, size_20]; decide) (by omega) (by omega)
        · have e2 : L.length = 18 := by omega
          exact go 127 (by rw [e2, size_76]) (.inr (.inr rfl)) (by rw [e2, size_76]; decide) (by omega) (by omega)
        · omega
      · first
          | refine wp_if_neg (by simp [hf]) ?_
          | (refine wpAny_bind ?_; refine wp_if_neg (by simp [hf]) ?_; refine wpAny_pure ?_)
        refine wpAny_pure (hQ true h1 L1 es1 (ep + 1) t2 sb ⟨⟨_, ho1, ⟨ex.1, ex.2.1, ex.2.2⟩, rfl⟩, row1, tb1, one1, is1, led1, ?_, by rw [ln1]; exact few⟩ (fun z => absurd z hm) fun _ => pm)
        have h := hf
        unfold SetTable.tooFull at h
        rw [decide_eq_true_eq, fi] at h
        omega
    have m1 := main t1 tb mk ld fi
    have m2 := main { t1 with plain := false } ⟨tb.ris, tb.dm, tb.sz, tb.mok, tb.bd, tb.reach⟩ mk ld fi
    by_cases hp : t1.plain = true
    · first
        | (refine wpAny_bind ?_; refine wp_if_pos hp ?_; refine T.byVal hx fun b => ?_)
        | refine wp_if_pos hp (wpAny_bind (T.byVal hx fun b => ?_))
      cases b
      · exact m2
      · exact m1
    · first
        | (refine wpAny_bind ?_; refine wp_if_neg hp ?_; refine wpAny_pure ?_; exact m1)
        | (refine wp_if_neg hp ?_; exact wpAny_bind (wpAny_pure m1))
        | (refine wp_if_neg hp ?_; exact m1)
end
end Dn

/-! Dn25: set(list), by what each item does to the set. -/
namespace Dn
open PySem PySem.Spec PyProof.Rows L2
abbrev set0 (w : World) : Obj := { cls := .type "set", dict := none, data := .set #[] 0 (.fresh 0 0 (!w.params.followText "set-order")) }
/-- what the i-th item does: Iv i is the state of the set at S ahead of it; the objects of h0 stand -/
structure Fills (P : Program) (w : World) (A : Around) (n : Nat) (Pv : Nat → Value → Prop) (S : Addr) (h0 : Heap) (Iv : Nat → Heap → Prop) : Prop where
  keep : ∀ i h h', Iv i h → (∀ o, h.get? S = some o → h'.get? S = some o) → (∀ b o, h0.get? b = some o → h'.get? b = some o) → Iv i h'
  step : ∀ i v (s : Shared) (E : Value → Shared → Prop) (Q : Bool → Shared → Prop), i < n → Pv i v → Iv i s.heap → (∀ b o, h0.get? b = some o → s.heap.get? b = some o) →
    (∀ b h' tk, s.toks ≤ tk → Heap.SameBut S s.heap h' → Iv (i + 1) h' → Q b { s with heap := h', toks := tk }) → wpAny (model P w) A (setAdd S v) Q E s
section
variable {P : Program} {w : World} {A : Around} {E : Value → Shared → Prop} {s : Shared}
theorem fill_loop {I : Addr} {fp wr : List Addr} {G : Array GenState → Array GenState → Prop} {n : Nat} {Pv : Nat → Value → Prop} {St : Nat → Shared → Prop} {R : Result → Shared → Prop} {S : Addr} {h0 : Heap} {Iv : Nat → Heap → Prop}
    (W : WalksS P w A.in1 I fp wr G n Pv St) (hSf : S ∉ fp) (F0 : Fills P w A.in1 n Pv S h0 Iv) (hS0 : h0.get? S = none) (hw0 : ∀ b ∈ wr, h0.get? b = none) (k : Nat) :
    ∀ (i : Nat) (s : Shared), i + k = n → St i s → Iv i s.heap → (∀ b o, h0.get? b = some o → s.heap.get? b = some o) → (∀ s', Moved (S :: wr) G s s' → Iv n s'.heap → (∀ b o, h0.get? b = some o → s'.heap.get? b = some o) → R (.ok (.ret .none)) s') →
      codeAny (model P w) A (.builtin "set.update.loop" ⟨[.ref S, .ref I], []⟩) R s := by
  have nw : S ∉ wr := fun h => hSf (W.sub _ h)
  have up : ∀ b ∈ wr, b ∈ S :: wr := fun b hb => List.mem_cons_of_mem _ hb
  have old : ∀ {s s' : Shared}, Moved wr G s s' → (∀ b o, h0.get? b = some o → s.heap.get? b = some o) → ∀ b o, h0.get? b = some o → s'.heap.get? b = some o := fun hm hk b o e =>
    hm.heap b o (fun hb => by rw [hw0 b hb] at e; cases e) (hk b o e)
  induction k with
  | zero =>
    intro i s e st iv hk hR
    have e : i = n := e
    subst e
    refine codeAny_builtin F.entry_set_update_loop ?_
    rw [Around.under_plainId F.plain_set_update_loop _]
    refine wpAny_bind (W.done s _ _ st fun s' hm => wpAny_pure ?_)
    exact hR s' (hm.mono up) (F0.keep _ _ _ iv (fun o e => hm.heap S o nw e) (old hm hk)) (old hm hk)
  | succ k ih =>
    intro i s e st iv hk hR
    have lt : i < n := by omega
    refine codeAny_builtin F.entry_set_update_loop ?_
    rw [Around.under_plainId F.plain_set_update_loop _]
    refine wpAny_bind (W.item i s _ _ lt st fun v s1 hv st1 hm => ?_)
    refine wpAny_bind (wpAny_holding (F0.step i v s1 _ _ lt hv (F0.keep _ _ _ iv (fun o e => hm.heap S o nw e) (old hm hk)) (old hm hk) fun b h' tk le sb iv' => ?_))
    have hk' : ∀ b o, h0.get? b = some o → h'.get? b = some o := fun b o e => (sb.2 b fun z => by rw [z, hS0] at e; cases e).trans (old hm hk b o e)
    refine wpAny_pure ⟨plainId_quiet F.plain_set_update_loop _, ih (i + 1) _ (by omega) (W.frame _ s1 _ _ st1 le fun b hb o e => ?_) iv' hk' fun s2 hm2 => hR s2 (Moved.trans W.gtrans ((hm.mono up).then_heap le fun b o hb e => ?_) hm2)⟩
    · rw [sb.2 b fun z => hSf (z ▸ hb)]; exact e
    · rw [sb.2 b fun z => hb (z ▸ List.mem_cons_self)]; exact e
theorem none_at {h : Heap} {b : Addr} (hb : h.objs.size ≤ b) : h.get? b = none := by
  cases q : h.get? b with
  | none => rfl
  | some o => exact absurd (Nat.lt_of_lt_of_le (Heap.lt_size q) hb) (Nat.lt_irrefl _)
theorem call_setL {l : Addr} {items : Array Value} {Iv : Nat → Heap → Prop} {Q : Value → Shared → Prop} (hh : A.handled = none) (hl : s.heap.IsList l items)
    (F0 : Fills P w A.in1.in1.in1 items.size (fun i v => items[i]? = some v) s.heap.objs.size s.heap Iv) (i0 : ∀ h, h.get? s.heap.objs.size = some (set0 w) → (∀ b o, s.heap.get? b = some o → h.get? b = some o) → Iv 0 h)
    (h : ∀ (h' : Heap) (tk : Nat), Iv items.size h' → (∀ b o, s.heap.get? b = some o → h'.get? b = some o) → Q (.ref s.heap.objs.size) { s with heap := h', toks := tk }) :
    wpAny (model P w) A (call (.type "set") [.ref l]) Q E s := by
  obtain ⟨c, tl, hmro⟩ := F.called_set.mro
  have hmade := F.called_set.made
  have hsub := F.called_set.sub
  refine wpAny_call (codeAny_of_tree ?_)
  show wpAny _ _ (callAny (.type "set") _) _ _ _
  refine wpAny_pure ⟨Code.quiet_builtin _ (by decide +kernel), codeAny_builtin F.entry_type_call ?_⟩
  rw [Around.under_plain (weight_type_call_type "set" [.ref l] []) rfl]
  have h1 := F.called_set.notType
  have h2 := F.called_set.canCreate
  have hct := F.typeCall_set_1 (.ref l)
  repeat (any_goals (first | assumption | wp_step))
  refine codeAny_mono (code_set_led1 (.ref l) (E := E) (Q₁ := fun obj s1 => obj = .ref s.heap.objs.size ∧ s1 = { s with heap := s.heap.push (set0 w) }) ⟨rfl, rfl⟩) fun r s1 hr => ?_
  cases r with
  | error e => exact hr
  | ok fl =>
    cases fl with
    | ret obj =>
      obtain ⟨rfl, rfl⟩ := hr
      have hS : (s.heap.push (set0 w)).get? s.heap.objs.size = some (set0 w) := Heap.get?_push_size _ rfl
      have hT : Shared.TypeIs { s with heap := s.heap.push (set0 w) } (.ref s.heap.objs.size) "set" := ⟨_, hS, rfl⟩
      have hli := F.called_set.init.lookup
      have hbi := F.called_set.init.bind (.ref s.heap.objs.size)
      repeat (any_goals (first | assumption | wp_step))
      refine codeAny_mono (codeAny_call_builtin (R := wants (fun r s2 => r = .none ∧ ∃ h' tk, s2 = { s with heap := h', toks := tk } ∧ Iv items.size h' ∧ (∀ b o, s.heap.get? b = some o → h'.get? b = some o)) E) F.called_set.init.plain F.entry_set_init (check_set_init_1 hT ?_)) fun r2 s2 hr2 => ?_
      · obtain ⟨⟨ocls, odict, odata, oslots⟩, hol, hcl, nl, hdl⟩ := hl
        simp only at hcl hdl
        subst hcl; subst hdl
        have hol' : (s.heap.push (set0 w)).get? l = some { cls := .type "list", dict := odict, data := .seq items nl, slots := oslots } := Heap.get?_push_of_some _ hol
        have hsls := F.sub_list_set
        have hslf := F.sub_list_frozenset
        have hne : (Value.type "list" == Value.type "dict") = false := by decide
        have hl1 : (s.heap.push (set0 w)).IsList l items := ⟨_, hol', rfl, nl, rfl⟩
        have hlt : l < s.heap.objs.size := Heap.lt_size hol
        unfold Builtin.«set.__init__» noKeywords Builtin.Frozenset.updateFrom
        generalize hPI : pyIter = PI
        wp_walk
        subst hPI
        refine wpAny_pyIter_list hl1 (wpAny_bind (wpAny_runValue ?_))
        have hz : (s.heap.push (set0 w)).objs.size = s.heap.objs.size + 1 := Heap.size_push ..
        have hneI : l ≠ (s.heap.push (set0 w)).objs.size := by rw [hz]; exact Nat.ne_of_lt (Nat.lt_succ_of_lt hlt)
        refine fill_loop ((Walks.list (by simp [hh]) _ l hneI items).toS) (S := s.heap.objs.size) (h0 := s.heap) (by rw [hz]; exact nm (by omega) (Nat.ne_of_gt hlt)) F0 (none_at (Nat.le_refl _)) (fun b hb => none_at (by rw [List.mem_singleton.mp hb, hz]; exact Nat.le_succ _)) items.size 0 _ (Nat.zero_add _)
          ?st ?iv ?old fun s' hm iv hk => ?_
        case st => exact ⟨⟨_, Heap.get?_push_size _ rfl, rfl, rfl⟩, (hl1.push _)⟩
        case iv => exact i0 _ (Heap.get?_push_of_some _ hS) fun b o e => Heap.get?_push_of_some _ (Heap.get?_push_of_some _ e)
        case old => exact fun b o e => Heap.get?_push_of_some _ (Heap.get?_push_of_some _ e)
        obtain ⟨h', g2, d', tk', os'⟩ := s'
        have eg : g2 = s.gens := hm.gens
        have ed : d' = s.drawn := hm.drawn
        have eo : os' = s.os := hm.os
        subst eg; subst ed; subst eo
        show wpAny _ _ _ _ _ _
        refine wpAny_pure ?_
        exact wpAny_pure ⟨rfl, h', tk', rfl, iv, hk⟩
      · cases r2 with
        | error e => exact hr2
        | ok fl2 =>
          cases fl2 with
          | ret r =>
            obtain ⟨rfl, h', tk, rfl, iv, hk⟩ := hr2
            repeat (any_goals (first | assumption | wp_step))
            exact h _ _ iv hk
          | _ => exact hr2.elim
    | _ => exact hr.elim
end
end Dn

/-! DnQ: rows of four (text, text, number, text), their order, each once (pure). -/
namespace Dn
/-- a strict order of all -/
structure Ord {α : Type} (lt : α → α → Bool) : Prop where
  irr : ∀ x, lt x x = false
  tr : ∀ {x y z}, lt x y = true → lt y z = true → lt x z = true
  tri : ∀ {x y}, lt x y = false → lt y x = false → x = y
section
variable {α : Type} [DecidableEq α] {lt : α → α → Bool}
theorem Ord.asym (O : Ord lt) {x y : α} (h : lt x y = true) : lt y x = false := by
  cases e : lt y x with
  | false => rfl
  | true => have := O.tr h e; rw [O.irr] at this; cases this
theorem Ord.letr (O : Ord lt) {x y z : α} (h1 : lt y x = false) (h2 : lt z y = false) : lt z x = false := by
  cases e : lt z x with
  | false => rfl
  | true =>
    cases e2 : lt x y with
    | true => have := O.tr e e2; rw [h2] at this; cases this
    | false => have := O.tri e2 h1; subst this; rw [h2] at e; cases e
def SrtG (lt : α → α → Bool) (l : List α) : Prop := l.Pairwise fun x y => lt y x = false
theorem insG_srt (O : Ord lt) (x : α) : ∀ {l : List α}, SrtG lt l → SrtG lt (insS lt x l)
  | [], _ => List.pairwise_singleton ..
  | y :: r, h => by
    obtain ⟨h1, h2⟩ := List.pairwise_cons.mp h
    unfold insS
    split
    · rename_i e
      refine List.pairwise_cons.mpr ⟨fun z hz => ?_, h⟩
      rcases List.mem_cons.mp hz with rfl | hz
      · exact O.asym e
      · exact O.letr (O.asym e) (h1 z hz)
    · rename_i e
      refine List.pairwise_cons.mpr ⟨fun z hz => ?_, insG_srt O x h2⟩
      rcases List.mem_cons.mp ((insS_perm lt x r).mem_iff.mp hz) with rfl | hz
      · simpa using e
      · exact h1 z hz
def nubG (lt : α → α → Bool) (xs : List α) : List α := xs.foldl (fun acc x => if x ∈ acc then acc else insS lt x acc) []
theorem nubG_go (O : Ord lt) {l acc : List α} : SrtG lt acc → acc.Nodup → let r := l.foldl (fun acc x => if x ∈ acc then acc else insS lt x acc) acc
    SrtG lt r ∧ r.Nodup ∧ ∀ x, x ∈ r ↔ x ∈ l ∨ x ∈ acc := by
  induction l generalizing acc with
  | nil => exact fun h n => ⟨h, n, fun x => by simp⟩
  | cons y r ih =>
    intro h n
    by_cases e : y ∈ acc
    · obtain ⟨h1, h2, h3⟩ := ih h n
      simp only [List.foldl_cons, if_pos e]
      refine ⟨h1, h2, fun x => ?_⟩
      rw [h3 x, List.mem_cons]
      constructor
      · rintro (z | z)
        · exact .inl (.inr z)
        · exact .inr z
      · rintro ((z | z) | z)
        · rw [z]; exact .inr e
        · exact .inl z
        · exact .inr z
    · have p := insS_perm lt y acc
      obtain ⟨h1, h2, h3⟩ := ih (insG_srt O y h) (p.nodup_iff.mpr (List.nodup_cons.mpr ⟨e, n⟩))
      simp only [List.foldl_cons, if_neg e]
      refine ⟨h1, h2, fun x => ?_⟩
      rw [h3 x, p.mem_iff, List.mem_cons, List.mem_cons]
      constructor
      · rintro (z | z | z)
        · exact .inl (.inr z)
        · exact .inl (.inl z)
        · exact .inr z
      · rintro ((z | z) | z)
        · exact .inr (.inl z)
        · exact .inl z
        · exact .inr (.inr z)
theorem nubG_ok (O : Ord lt) (l : List α) : SrtG lt (nubG lt l) ∧ (nubG lt l).Nodup ∧ ∀ x, x ∈ nubG lt l ↔ x ∈ l := by
  obtain ⟨h1, h2, h3⟩ := nubG_go O (l := l) (acc := []) List.Pairwise.nil List.nodup_nil
  exact ⟨h1, h2, fun x => (h3 x).trans (by simp)⟩
theorem nubG_of (O : Ord lt) {l m : List α} (h : SrtG lt m) (n : m.Nodup) (e : ∀ x, x ∈ m ↔ x ∈ l) : m = nubG lt l := by
  obtain ⟨h1, h2, h3⟩ := nubG_ok O l
  exact List.Perm.eq_of_pairwise (le := fun x y => lt y x = false) (fun a b _ _ h k => O.tri k h) h h1 ((List.perm_ext_iff_of_nodup n h2).mpr fun x => by rw [e x, h3 x])
end
/-- a row of four -/
abbrev R4 := List Nat × List Nat × Int × List Nat
def lt4 (x y : R4) : Bool := if x.1 = y.1 then (if x.2.1 = y.2.1 then (if x.2.2.1 = y.2.2.1 then ltS x.2.2.2 y.2.2.2 else decide (x.2.2.1 < y.2.2.1)) else ltS x.2.1 y.2.1) else ltS x.1 y.1
theorem ord_text : Ord ltS := ⟨ltS_irrefl, ltS_trans, ltS_tri⟩
theorem ord_int : Ord (fun x y : Int => decide (x < y)) := ⟨fun x => by simp, fun h1 h2 => by simp at *; omega, fun h1 h2 => by simp at *; omega⟩
/-- by the first, then by the second -/
def lexO {α β : Type} [DecidableEq α] (f : α → α → Bool) (g : β → β → Bool) (x y : α × β) : Bool := if x.1 = y.1 then g x.2 y.2 else f x.1 y.1
theorem ord_lex {α β : Type} [DecidableEq α] {f : α → α → Bool} {g : β → β → Bool} (F : Ord f) (G : Ord g) : Ord (lexO f g) where
  irr := fun x => by unfold lexO; rw [if_pos rfl]; exact G.irr _
  tr := fun {x y z} h1 h2 => by
    unfold lexO at *
    by_cases e1 : x.1 = y.1
    · rw [if_pos e1] at h1
      by_cases e2 : y.1 = z.1
      · rw [if_pos e2] at h2; rw [if_pos (e1.trans e2)]; exact G.tr h1 h2
      · rw [if_neg e2] at h2; rw [e1, if_neg e2]; exact h2
    · rw [if_neg e1] at h1
      by_cases e2 : y.1 = z.1
      · rw [← e2, if_neg e1]; exact h1
      · rw [if_neg e2] at h2
        have h3 := F.tr h1 h2
        have e3 : x.1 ≠ z.1 := fun e => by rw [e, F.irr] at h3; cases h3
        rw [if_neg e3]; exact h3
  tri := fun {x y} h1 h2 => by
    unfold lexO at *
    by_cases e : x.1 = y.1
    · rw [if_pos e] at h1; rw [if_pos e.symm] at h2
      exact Prod.ext e (G.tri h1 h2)
    · rw [if_neg e] at h1; rw [if_neg (Ne.symm e)] at h2
      exact absurd (F.tri h1 h2) e
theorem lt4_eq : lt4 = lexO ltS (lexO ltS (lexO (fun x y : Int => decide (x < y)) ltS)) := by funext x y; rfl
theorem ord4 : Ord lt4 := lt4_eq ▸ ord_lex ord_text (ord_lex ord_text (ord_lex ord_int ord_text))
def tup4 (r : R4) : D := .tup [.str r.1, .str r.2.1, .int r.2.2.1, .str r.2.2.2]
def rows4 : List D → Option (List R4)
  | [] => some []
  | .tup [.str a, .str b, .int c, .str d] :: r => (rows4 r).map fun l => (a, b, c, d) :: l
  | _ => none
theorem rows4_of : ∀ {ds : List D} {rs : List R4}, rows4 ds = some rs → ds = rs.map tup4
  | [], rs, h => by cases h; rfl
  | .tup [.str a, .str b, .int c, .str d] :: r, rs, h => by
    simp only [rows4] at h
    cases e : rows4 r with
    | none => rw [e] at h; cases h
    | some l => rw [e] at h; cases h; rw [List.map_cons, ← rows4_of e]; rfl
/-- sorted(set(list of rows of four)) -/
def sortSet4D : List D → Option D
  | [.list xs] => (rows4 xs).bind fun rs => if rs.length < 62 then some (.list ((nubG lt4 rs).map tup4)) else none
  | _ => none
end Dn

/-! Dn26: rows of four in the heap; sorted(set(..)) of them. -/
namespace Dn
open PySem PySem.Spec PyProof.Rows L2
abbrev toS (l : List Nat) : Str := ⟨l.toArray⟩
theorem toS_inj {a b : List Nat} (h : toS a = toS b) : a = b := by
  have := congrArg (fun x : Str => x.cps.toList) h
  simpa using this
def kl (r : R4) : List Key := [.inr (toS r.1), .inr (toS r.2.1), .inl r.2.2.1, .inr (toS r.2.2.2)]
theorem kl_inj {r q : R4} (h : kl r = kl q) : r = q := by
  obtain ⟨a, b, c, d⟩ := r
  obtain ⟨a', b', c', d'⟩ := q
  simp only [kl, List.cons.injEq, Sum.inr.injEq, Sum.inl.injEq] at h
  obtain ⟨h1, h2, h3, h4, _⟩ := h
  rw [toS_inj h1, toS_inj h2, h3, toS_inj h4]
def is4 (P : Program) (w : World) (h : Heap) (r : R4) (a : Addr) : Prop := IsTupleKey (mixKind P w) h (kl r) a
def hs4 (P : Program) (w : World) (r : R4) : Int := tupleKeyHash (mixKind P w) (kl r)
section
variable {P : Program} {w : World} {A : Around} {E : Value → Shared → Prop} {s : Shared}
theorem key_flat {k : Key} {v : Value} (h : (mixKind P w).is k v = true) : (∃ i t, k = .inl i ∧ v = .int i t) ∨ ∃ x t, k = .inr x ∧ v = .str x t := keyIs_shape h
theorem items_flat {ks : List Key} {vs : List Value} (h : ItemsAre (mixKind P w) ks vs) : ∀ v ∈ vs, (∃ i t, v = Value.int i t) ∨ ∃ x t, v = Value.str x t := by
  induction h with
  | nil => intro v hv; cases hv
  | cons h1 _ ih =>
    intro v hv
    rcases List.mem_cons.mp hv with rfl | hv
    · rcases key_flat h1 with ⟨i, t, _, e⟩ | ⟨x, t, _, e⟩
      · exact .inl ⟨i, t, e⟩
      · exact .inr ⟨x, t, e⟩
    · exact ih v hv
/-- the items of such a tuple -/
theorem is4_items {h : Heap} {r : R4} {a : Addr} (x : is4 P w h r a) : ∃ (o : Obj) (n : Nat) (t1 t2 t3 t4 : Tok), h.get? a = some o ∧ o.cls = .type "tuple" ∧ o.data = .seq #[.str (toS r.1) t1, .str (toS r.2.1) t2, .int r.2.2.1 t3, .str (toS r.2.2.2) t4] n := by
  obtain ⟨o, its, n, ho, hc, hd, hi⟩ := x
  unfold kl at hi
  generalize hl : its.toList = l at hi
  cases hi with
  | cons h1 hi => cases hi with
    | cons h2 hi => cases hi with
      | cons h3 hi => cases hi with
        | cons h4 hi =>
          cases hi
          rcases key_flat h1 with ⟨_, _, e, _⟩ | ⟨x1, t1, e1, rfl⟩
          · cases e
          rcases key_flat h2 with ⟨_, _, e, _⟩ | ⟨x2, t2, e2, rfl⟩
          · cases e
          rcases key_flat h3 with ⟨x3, t3, e3, rfl⟩ | ⟨_, _, e, _⟩
          · rcases key_flat h4 with ⟨_, _, e, _⟩ | ⟨x4, t4, e4, rfl⟩
            · cases e
            · cases e1; cases e2; cases e3; cases e4
              refine ⟨o, n, t1, t2, t3, t4, ho, hc, ?_⟩
              rw [hd]
              congr 1
              exact Array.toList_inj.mp hl
          · cases e
theorem told4 : Told P w (is4 P w) (hs4 P w) where
  keep := fun ⟨o, its, n, ho, r⟩ k => ⟨o, its, n, k o ho, r⟩
  noSet := fun ⟨o, its, n, ho, _, hd, _⟩ h1 h2 => by rw [ho] at h1; cases h1; rw [hd] at h2; cases h2
  hash := fun hu hk h => wpAny_pyHash_tuple hu hk (h _ (Nat.le_add_right _ _))
  eq := fun {A E s k l a b Q} hu h1 h2 h => wpAny_eqBool_tuple hu h1 h2 (by
    have e : decide (kl k = kl l) = decide (k = l) := decide_eq_decide.mpr ⟨kl_inj, fun e => by rw [e]⟩
    rw [e]; exact h)
  byVal := fun {A E s k b Q} hk h => by
    have hT := IsTupleKey.typeIs hk
    obtain ⟨o, items, n, ho, _, hd, hi⟩ := hk
    unfold hashByValue
    refine wpAny_bind (wpAny_specialOf hT F.slot_tuple_hash.lookup ?_)
    show wpAny _ _ (seqItems? (.ref b) >>= _) _ _ s
    refine wpAny_bind (wpAny_seqItems ho hd (wpAny_bind ?_))
    show wpAny _ _ (forIn items _ _) _ _ s
    rw [← Array.forIn_toList]
    refine wpAny_forIn_list _ (fun left r s' => s' = s ∧ ∀ v ∈ left, (∃ i t, v = Value.int i t) ∨ ∃ x t, v = Value.str x t) _ ?_ ?_ _ _ ⟨rfl, items_flat hi⟩
    · rintro v left r s' ⟨rfl, all⟩
      have all' := fun u (hu : u ∈ left) => all u (List.mem_cons_of_mem _ hu)
      rcases all v List.mem_cons_self with ⟨i, t, rfl⟩ | ⟨x, t, rfl⟩
      · have q : ∀ n, hashByValue n (.int i t) = pure true := fun n => by cases n <;> rfl
        rw [q]
        refine wpAny_bind (wpAny_pure ?_)
        simp only [Bool.not_true, Bool.false_eq_true, if_false]
        exact wpAny_pure ⟨rfl, all'⟩
      · have q : ∀ n, hashByValue n (.str x t) = pure false := fun n => by cases n <;> rfl
        rw [q]
        refine wpAny_bind (wpAny_pure ?_)
        simp only [Bool.not_false, if_true]
        exact wpAny_pure (wpAny_pure (h false))
    · rintro ⟨r1, r2⟩ s' ⟨rfl, _⟩
      cases r1
      · exact wpAny_pure (h _)
      · exact wpAny_pure (h _)
  quiet := fun hk h => wpAny_eqIsQuiet_tuple hk h
  noCls := fun {A E s k b Q} hk h => by
    have hT := IsTupleKey.typeIs hk
    obtain ⟨o, items, n, ho, _, hd, hi⟩ := hk
    unfold ofAClassStatement
    refine wpAny_bind (wpAny_typeOf hT ?_)
    dsimp only
    have e : (("tuple" : String) == "tuple") = true := by decide
    simp only [e, if_true, Bool.not_true, Bool.false_eq_true, if_false]
    try refine wpAny_bind (wpAny_pure ?_)
    try simp only [Bool.not_true, Bool.false_eq_true, if_false]
    show wpAny _ _ (seqItems? (.ref b) >>= _) _ _ s
    refine wpAny_bind (wpAny_seqItems ho hd ?_)
    dsimp only
    refine wpAny_bind ?_
    show wpAny _ _ (forIn items _ _) _ _ s
    rw [← Array.forIn_toList]
    refine wpAny_forIn_list _ (fun left r s' => r.1 = none ∧ s' = s ∧ ∀ v ∈ left, (∃ i t, v = Value.int i t) ∨ ∃ x t, v = Value.str x t) _ ?_ ?_ _ _ ⟨rfl, rfl, items_flat hi⟩
    · rintro v left r s' ⟨_, rfl, all⟩
      have q : ∀ n, ofAClassStatement n v = pure false := by
        rcases all v List.mem_cons_self with ⟨i, t, rfl⟩ | ⟨x, t, rfl⟩ <;> exact fun n => by cases n <;> rfl
      rw [q]
      refine wpAny_bind (wpAny_pure ?_)
      simp only [Bool.false_eq_true, if_false]
      exact wpAny_pure ⟨rfl, rfl, fun u hu => all u (List.mem_cons_of_mem _ hu)⟩
    · rintro ⟨r1, r2⟩ s' ⟨hr, rfl, _⟩
      cases hr
      exact wpAny_pure h
end
end Dn

/-! Dn27: rows of four compared, sorted. -/
namespace Dn
open PySem PySem.Spec PyProof.Rows L2
section
variable {P : Program} {w : World} {A : Around} {E : Value → Shared → Prop} {s : Shared}
theorem dstr (x y : List Nat) : decide ((toS x).cps.toList < (toS y).cps.toList) = ltS x y := ltS_lt x y
theorem cmp4 {x y : R4} {b c : Addr} (hx : is4 P w s.heap x b) (hy : is4 P w s.heap y c) : wpAny (model P w) A (keyLt' (tuples' true) (.ref b) (.ref c)) (fun r s' => s' = s ∧ r = lt4 x y) E s := by
  obtain ⟨o, n, t1, t2, t3, t4, ho, _, hd⟩ := is4_items hx
  obtain ⟨o', n', u1, u2, u3, u4, ho', _, hd'⟩ := is4_items hy
  refine PySem.W.kat_lt ho hd ho' hd' ?_
  show PySem.W.KatLex P w A true (decide (4 < 4)) _ [(.str (toS x.1) t1, .str (toS y.1) u1), (.str (toS x.2.1) t2, .str (toS y.2.1) u2), (.int x.2.2.1 t3, .int y.2.2.1 u3), (.str (toS x.2.2.2) t4, .str (toS y.2.2.2) u4)] 0 s
  have ne : ∀ {a b : List Nat}, (toS a == toS b) = false → a ≠ b := fun {a b} h z => by subst z; simp at h
  have eq : ∀ {a b : List Nat}, (toS a == toS b) = true → a = b := fun {a b} h => toS_inj (by simpa using h)
  refine PySem.W.kat_cons (SeqAt.EqAt.str_str _ t1 _ u1 P w _ _ (PySem.W.kat_go (fun e1 => ?_) fun e1 => ?_))
  · have e1 := eq e1
    refine PySem.W.kat_yes (PySem.W.kat_cons (SeqAt.EqAt.str_str _ t2 _ u2 P w _ _ (PySem.W.kat_go (fun e2 => ?_) fun e2 => ?_)))
    · have e2 := eq e2
      refine PySem.W.kat_yes (PySem.W.kat_cons (SeqAt.EqAt.int_int _ t3 _ u3 P w _ _ (PySem.W.kat_go (fun e3 => ?_) fun e3 => ?_)))
      · have e3 : x.2.2.1 = y.2.2.1 := by simpa using e3
        have z : lt4 x y = ltS x.2.2.2 y.2.2.2 := by unfold lt4; rw [if_pos e1, if_pos e2, if_pos e3]
        refine PySem.W.kat_yes (PySem.W.kat_cons (SeqAt.EqAt.str_str _ t4 _ u4 P w _ _ (PySem.W.kat_go (fun e4 => ?_) fun e4 => ?_)))
        · exact PySem.W.kat_yes (PySem.W.kat_nil ⟨rfl, by rw [z, eq e4, ltS_irrefl]; rfl⟩)
        · refine PySem.W.kat_no (PySem.W.kat_one _ _ (PyProof.Rows.lt_str ?_))
          exact (show s = s ∧ decide ((toS x.2.2.2).cps.toList < (toS y.2.2.2).cps.toList) = lt4 x y from ⟨rfl, by rw [z, dstr]⟩)
      · have e3 : x.2.2.1 ≠ y.2.2.1 := by simpa using e3
        have z : lt4 x y = decide (x.2.2.1 < y.2.2.1) := by unfold lt4; rw [if_pos e1, if_pos e2, if_neg e3]
        refine PySem.W.kat_no (PySem.W.kat_one _ _ (PyProof.Rows.lt_int ?_))
        exact (show s = s ∧ decide (x.2.2.1 < y.2.2.1) = lt4 x y from ⟨rfl, z.symm⟩)
    · have z : lt4 x y = ltS x.2.1 y.2.1 := by unfold lt4; rw [if_pos e1, if_neg (ne e2)]
      refine PySem.W.kat_no (PySem.W.kat_one _ _ (PyProof.Rows.lt_str ?_))
      exact (show s = s ∧ decide ((toS x.2.1).cps.toList < (toS y.2.1).cps.toList) = lt4 x y from ⟨rfl, by rw [z, dstr]⟩)
  · have z : lt4 x y = ltS x.1 y.1 := by unfold lt4; rw [if_neg (ne e1)]
    exact PySem.W.kat_no (oneLt_str ⟨rfl, by rw [z, dstr]⟩)
/-- the key of an address -/
def keyAt (L : List (R4 × Addr)) (v : Value) : R4 × Addr := match v with
  | .ref b => (L.find? fun p => p.2 == b).getD (([], [], 0, []), 0)
  | _ => (([], [], 0, []), 0)
theorem keyAt_ok {L : List (R4 × Addr)} (one : ∀ p ∈ L, ∀ q ∈ L, p.2 = q.2 → p = q) {p : R4 × Addr} (hp : p ∈ L) : keyAt L (.ref p.2) = p := by
  show (L.find? fun q => q.2 == p.2).getD _ = p
  cases e : L.find? fun q => q.2 == p.2 with
  | none => have := List.find?_eq_none.mp e p hp; simp at this
  | some q =>
    have h1 := List.mem_of_find?_eq_some e
    have h2 := List.find?_some e
    exact one q h1 p hp (by simpa using h2)
theorem swo4 {α : Type} (k : α → R4) : SrtO.Swo (fun v u : α => lt4 (k v) (k u)) := ⟨fun x y h => ord4.asym h, fun x y z h1 h2 => ord4.letr h1 h2⟩
theorem tups4 {h : Heap} : ∀ (vs : List Value), (∀ v ∈ vs, ∃ r b, v = Value.ref b ∧ is4 P w h r b) → ∃ fs, PySem.W.KatTups h vs fs ∧ fs.length = vs.length ∧ ∀ f ∈ fs, ∃ x t, f = Value.str x t
  | [], _ => ⟨[], .nil, rfl, fun f hf => by cases hf⟩
  | v :: vs, hv => by
    obtain ⟨fs, h1, h2, h3⟩ := tups4 vs fun u hu => hv u (List.mem_cons_of_mem _ hu)
    obtain ⟨r, b, rfl, hb⟩ := hv v List.mem_cons_self
    obtain ⟨o, n, t1, t2, t3, t4, ho, hc, hd⟩ := is4_items hb
    refine ⟨.str (toS r.1) t1 :: fs, .cons ho hc hd rfl h1, by simp [h2], fun f hf => ?_⟩
    rcases List.mem_cons.mp hf with rfl | hf
    · exact ⟨_, _, rfl⟩
    · exact h3 f hf
theorem sortable4 {a : Addr} {vs : List Value} {L : List (R4 × Addr)} (h0 : 0 < vs.length) (hp : ∀ v ∈ vs, ∃ p ∈ L, v = Value.ref p.2) (one : ∀ p ∈ L, ∀ q ∈ L, p.2 = q.2 → p = q) (his : ∀ p ∈ L, is4 P w s.heap p.1 p.2) (ha : ∀ p ∈ L, p.2 ≠ a) : SrtO.SortableO P w A s a vs fun v u => lt4 (keyAt L v).1 (keyAt L u).1 := by
  intro h' keep
  have his' : ∀ p ∈ L, is4 P w h' p.1 p.2 := fun p hm => told4.keep (his p hm) fun o e => keep p.2 o (ha p hm) e
  have hv : ∀ v ∈ vs, ∃ r b, v = Value.ref b ∧ is4 P w h' r b := fun v hm => by
    obtain ⟨p, hp', rfl⟩ := hp v hm
    exact ⟨p.1, p.2, rfl, his' p hp'⟩
  obtain ⟨fs, h1, h2, h3⟩ := tups4 vs hv
  refine ⟨tuples' true, fun Q E hq => ?_, fun p q hm hm' => ?_⟩
  · refine PySem.W.kat_kind (T := .type "str") h1 (by omega) (fun f hm => ?_) (by rfl) ?_
    · obtain ⟨x, t, rfl⟩ := h3 f hm
      exact PySem.W.Looks.now
    · have e : (Value.type "str" != Value.type "tuple") = true := by first | decide +kernel | rfl | decide
      rw [e]
      exact hq
  · obtain ⟨x, hx, ex⟩ := hp _ hm
    obtain ⟨y, hy, ey⟩ := hp _ hm'
    show wpAny (model P w) A (keyLt' (tuples' true) p.1 q.1) (fun r s' => s' = { s with heap := h' } ∧ r = lt4 (keyAt L p.1).1 (keyAt L q.1).1) (fun _ _ => False) { s with heap := h' }
    rw [ex, ey, keyAt_ok one hx, keyAt_ok one hy]
    exact cmp4 (s := { s with heap := h' }) (his' x hx) (his' y hy)
variable {a : Addr} {L : List (R4 × Addr)} {es : Array (Int × Value)} {ep : Nat} {t : SetTable}
theorem sorted_set4 {Q : Value → Shared → Prop} (S : Sat w (is4 P w) (hs4 P w) s.heap a L es ep t) (hh : A.handled = none)
    (hQ : ∀ s' p (out : Array Value) (c : Nat) (M : List (R4 × Addr)), (∀ b o, s.heap.get? b = some o → s'.heap.get? b = some o) → s'.gens = s.gens → s'.os = s.os → s.heap.objs.size ≤ p →
      s'.heap.get? p = some (seqObj "list" out c) → out.toList = M.map (fun q => Value.ref q.2) → M.Perm L → SrtG lt4 (M.map (·.1)) → Q (.ref p) s') :
    wpAny (model P w) A (call (.builtin "sorted") [.ref a]) Q E s := by
  obtain ⟨o, ho, ex, hd⟩ := S.at_
  have few := S.few
  have hsz := row_size S.row
  refine Calls.call_function_entry kind_sorted plain_sorted entry_sorted (args_sorted1 _) ?_
  unfold Builtin.«sorted»
  refine wpAny_bind (m := checkCount "sorted" 1 1 _) (wpAny_pure ?_)
  refine wpAny_bind (collect_set (A := A.in1) hh ⟨o, ho, ex.1, hd⟩ S.fits (by unfold scanBound; omega) S.tab.ris S.led fun s1 vs k1 hz g1 o1 pm => ?_)
  have er : es.toList.map (·.2) = L.map fun q => Value.ref q.2 := by rw [S.row, List.map_map]; rfl
  rw [er] at pm
  have one : ∀ p ∈ L, ∀ q ∈ L, p.2 = q.2 → p = q := fun p hp q hq e => by
    have a1 := S.is_ p hp
    rw [e] at a1
    exact Prod.ext (kl_inj (IsTupleKey.inj a1 (S.is_ q hq))) e
  have hvl : vs.length = L.length := by rw [pm.length_eq, List.length_map]
  refine wpAny_bind (wpAny_newList ?_ (by rw [hvl, sizeLine_eq]; omega))
  have hoL : (s1.heap.push (seqObj "list" vs.toArray 0)).get? s1.heap.objs.size = some (seqObj "list" vs.toArray 0) := Heap.get?_push_size _ rfl
  have isP : ∀ p ∈ L, is4 P w (s1.heap.push (seqObj "list" vs.toArray 0)) p.1 p.2 := fun p hp => told4.keep (S.is_ p hp) fun u e => Heap.get?_push_of_some _ (k1 _ _ e)
  have inL : ∀ v ∈ vs, ∃ p ∈ L, v = Value.ref p.2 := fun v hv => by
    obtain ⟨q, hq, e⟩ := List.mem_map.mp (pm.mem_iff.mp hv)
    exact ⟨q, hq, e.symm⟩
  refine wpAny_bind (wpAny_holding (wpAny_call_entry slot_list_sort ⟨_, hoL, rfl⟩ entry_list_sort
    (SrtO.list_sort_ord (s := { s1 with heap := s1.heap.push (seqObj "list" vs.toArray 0) }) (swo4 fun v => (keyAt L v).1) hoL (by rw [hvl, sizeLine_eq]; omega)
      (fun h2 => sortable4 (s := { s1 with heap := s1.heap.push (seqObj "list" vs.toArray 0) }) (by omega) inL one isP fun p hp z => ?_) fun out hs hb => ⟨_, rfl, ?_⟩) (args_list_sort _)))
  · obtain ⟨u, _, _, _, _, _, hu, _⟩ := is4_items (S.is_ p hp)
    have := Heap.lt_size (k1 _ _ hu)
    rw [z] at this
    exact absurd this (Nat.lt_irrefl _)
  · obtain ⟨c, hc⟩ := sortedHeap_at (vs := vs) (out := out.toArray) hoL
    have po : out.Perm vs := hb.perm
    have po2 := po.trans pm
    have pM : (out.map (keyAt L)).Perm L := by
      have h := po2.map (keyAt L)
      rw [List.map_map] at h
      have e : L.map (keyAt L ∘ fun q => Value.ref q.2) = L := by
        conv => rhs; rw [← List.map_id L]
        exact List.map_congr_left fun q hq => keyAt_ok one hq
      rwa [e] at h
    have eo : out = (out.map (keyAt L)).map fun q => Value.ref q.2 := by
      rw [List.map_map]
      conv => lhs; rw [← List.map_id out]
      refine List.map_congr_left fun v hv => ?_
      obtain ⟨q, hq, e⟩ := inL v (po.mem_iff.mp hv)
      rw [e]
      show Value.ref q.2 = Value.ref (keyAt L (.ref q.2)).2
      rw [keyAt_ok one hq]
    refine wpAny_pure ⟨_, rfl, hQ _ s1.heap.objs.size out.toArray c (out.map (keyAt L)) (fun b u e => ?_) g1 o1 hz hc eo pM ?_⟩
    · have q := k1 b u e
      have hlt := Heap.lt_size q
      show (sortedHeap (s1.heap.push (seqObj "list" vs.toArray 0)) s1.heap.objs.size vs out.toArray).get? b = some u
      rw [sortedHeap_old (Nat.ne_of_lt hlt) (by rw [size_push']; exact Nat.lt_succ_of_lt hlt)]
      exact Heap.get?_push_of_some _ q
    · rw [List.map_map]
      exact List.pairwise_map.mpr hs
end
end Dn

/-! Dn28: sorted(set(..)) of rows of four, by its meaning. -/
namespace Dn
open PySem PySem.Spec PyProof.Rows L2
def v4 (r : R4) : List V := [.str (toS r.1), .str (toS r.2.1), .int r.2.2.1, .str (toS r.2.2.2)]
/-- the set at a, without the rows themselves -/
def Set4 (P : Program) (w : World) (a : Addr) (L : List (R4 × Addr)) : HO := .ext fun h => ∃ es ep t, Sat w (fun _ _ _ => True) (hs4 P w) h a L es ep t
theorem set4_new {P : Program} {w : World} {H : Hp} {h : Heap} {a : Addr} {L : List (R4 × Addr)} {es : Array (Int × Value)} {ep : Nat} {t : SetTable} (S : Sat w (is4 P w) (hs4 P w) h a L es ep t) : ObjOk P w H h a (Set4 P w a L) := by
  obtain ⟨o, ho, r⟩ := S.at_
  refine ⟨⟨es, ep, t, ⟨S.at_, S.row, S.tab, S.one, fun _ _ => trivial, S.led, S.rm, S.few⟩⟩, ⟨o, ho⟩, fun h1 h2 ⟨es, ep, t, p⟩ k => ⟨es, ep, t, ?_⟩⟩
  obtain ⟨o, ho, r⟩ := p.at_
  exact ⟨⟨o, k o ho, r⟩, p.row, p.tab, p.one, fun _ _ => trivial, p.led, p.rm, p.few⟩
section
variable {X : Cx} {pins : List (Addr × Obj)} {σ : L2.St} {H : Hp} {s : Shared}
theorem inv_is4 (I : Inv X pins σ H s) {b : Addr} {r : R4} (h : SqT X.K H b (v4 r)) : is4 X.prog X.w s.heap r b := by
  obtain ⟨its, rv, ⟨o, ho, hc, n, hd⟩, _⟩ := I.tuple h
  refine ⟨o, its.toArray, n, ho, hc, hd, ?_⟩
  rw [List.toList_toArray]
  unfold v4 at rv
  cases rv with
  | cons r1 rv => cases rv with
    | cons r2 rv => cases rv with
      | cons r3 rv => cases rv with
        | cons r4 rv =>
          cases rv
          obtain ⟨t1, rfl⟩ := r1
          obtain ⟨t2, rfl⟩ := r2
          obtain ⟨t3, rfl⟩ := r3
          obtain ⟨t4, rfl⟩ := r4
          exact .cons (mixKind_str _ _ _ _) (.cons (mixKind_str _ _ _ _) (.cons (mixKind_int _ _ _ _) (.cons (mixKind_str _ _ _ _) .nil)))
/-- what the set holds behind the first i items -/
structure Has4 (ks : List (R4 × Addr)) (i : Nat) (L : List (R4 × Addr)) : Prop where
  sub : ∀ p ∈ L, p ∈ ks.take i
  all : ∀ p ∈ ks.take i, p.1 ∈ L.map (·.1)
  len : L.length ≤ i
theorem Has4.step {ks L L' : List (R4 × Addr)} {i : Nat} {p : R4 × Addr} (g : Has4 ks i L) (h : ks[i]? = some p) (c1 : p.1 ∈ L.map (·.1) → L' = L) (c2 : p.1 ∉ L.map (·.1) → L'.Perm (p :: L)) : Has4 ks (i + 1) L' := by
  have tk : ks.take (i + 1) = ks.take i ++ [p] := by rw [List.take_succ, h]; rfl
  by_cases hm : p.1 ∈ L.map (·.1)
  · rw [c1 hm]
    refine ⟨fun q hq => ?_, fun q hq => ?_, Nat.le_succ_of_le g.len⟩
    · rw [tk]; exact List.mem_append_left _ (g.sub q hq)
    · rw [tk] at hq
      rcases List.mem_append.mp hq with z | z
      · exact g.all q z
      · rw [List.mem_singleton.mp z]; exact hm
  · have pm := c2 hm
    refine ⟨fun q hq => ?_, fun q hq => ?_, ?_⟩
    · rw [tk]
      rcases List.mem_cons.mp (pm.mem_iff.mp hq) with e | z
      · rw [e]; exact List.mem_append_right _ List.mem_cons_self
      · exact List.mem_append_left _ (g.sub q z)
    · rw [(pm.map _).mem_iff, List.map_cons]
      rw [tk] at hq
      rcases List.mem_append.mp hq with z | z
      · exact List.mem_cons_of_mem _ (g.all q z)
      · rw [List.mem_singleton.mp z]; exact List.mem_cons_self
    · rw [pm.length_eq, List.length_cons]; exact Nat.succ_le_succ g.len
def rSet4 (K : PySem.W.Frag) (P : Program) (w : World) : List V → Hp → VK → Prop := fun xs H Q => ∃ (l : Addr) (ks : List (R4 × Addr)), xs = [V.ref l] ∧ SqL K H l (ks.map fun p => V.ref p.2) ∧ (∀ p ∈ ks, SqT K H p.2 (v4 p.1)) ∧ ks.length < 63 ∧
  ∀ a L, H a = none → Has4 ks ks.length L → (L.map (·.1)).Nodup → Q (.ref a) (upd H a (Set4 P w a L))
theorem refs4 : ∀ {ks : List (R4 × Addr)} {us : List Value}, Vals (ks.map fun p => V.ref p.2) us → us = ks.map fun p => Value.ref p.2
  | [], _, .nil => rfl
  | p :: ks, _ :: us, .cons r t => by
    obtain rfl : _ = Value.ref p.2 := r
    rw [List.map_cons, ← refs4 t]
theorem refs4' : ∀ (ks : List (R4 × Addr)), Vals (ks.map fun p => V.ref p.2) (ks.map fun p => Value.ref p.2)
  | [] => .nil
  | p :: ks => .cons rfl (refs4' ks)
theorem cr_set4 (hc : X.calm = true) (hu : X.A.units + 64 < cLine) : CallR X (.type "set") (rSet4 X.K X.prog X.w) := by
  intro pins s σ H xs us Q I r h
  obtain ⟨l, ks, rfl, hl, ht, hf, q⟩ := h
  rw [Vals.ref1 r]
  obtain ⟨its, rv, pl, hz⟩ := I.list hl
  have ei := refs4 rv
  subst ei
  have hn : H s.heap.objs.size = none := I.hok.fresh (Nat.le_refl _)
  have his : ∀ p ∈ ks, is4 X.prog X.w s.heap p.1 p.2 := fun p hp => inv_is4 I (ht p hp)
  have esz : (ks.map fun p => Value.ref p.2).toArray.size = ks.length := by simp
  refine call_setL (Iv := fun i h => ∃ L es ep t, Sat X.w (is4 X.prog X.w) (hs4 X.prog X.w) h s.heap.objs.size L es ep t ∧ Has4 ks i L) (I.ok.hd hc) pl.isList ⟨fun i h h' ⟨L, es, ep, t, S, g⟩ k1 k2 => ⟨L, es, ep, t, ?_, g⟩, fun i v s1 E1 Q1 hi hv ⟨L, es, ep, t, S, g⟩ k2 hQ => ?_⟩ (fun h ho k => ⟨[], #[], 0, .fresh 0 0 (!X.w.params.followText "set-order"), ⟨⟨_, ho, ⟨rfl, rfl, rfl⟩, rfl⟩, rfl, ⟨List.Pairwise.nil, rfl, rfl, .inl rfl, fun x hx => (by cases hx), fun i h j hi => (by simp at hi)⟩, List.nodup_nil, fun p hp => (by cases hp), ?_, by show 0 * 5 < 7 * 3; decide, by show 0 < 64; decide⟩, ⟨fun p hp => (by cases hp), fun p hp => (by simp at hp), Nat.le_refl _⟩⟩) fun h' tk ⟨L, es, ep, t, S, g⟩ k => ?_
  · obtain ⟨o, ho, r⟩ := S.at_
    exact ⟨⟨o, k1 o ho, r⟩, S.row, S.tab, S.one, fun p hp => told4.keep (his p (List.mem_of_mem_take (g.sub p hp))) fun o e => k2 _ _ e, S.led, S.rm, S.few⟩
  · have hv : (ks.map fun p => Value.ref p.2).toArray[i]? = some v := hv
    rw [List.getElem?_toArray, List.getElem?_map] at hv
    cases e : ks[i]? with
    | none => rw [e] at hv; cases hv
    | some p =>
      rw [e] at hv; cases hv
      have hp := List.mem_of_getElem? e
      have u3 : X.A.in1.in1.in1.units < cLine := by show X.A.units + 1 + 1 + 1 < cLine; omega
      have hx : is4 X.prog X.w s1.heap p.1 p.2 := told4.keep (his p hp) fun o e => k2 _ _ e
      unfold setAdd
      refine wpAny_holding (wpAny_bind (told4.hash u3 hx fun tk le => ?_))
      exact add_key (s := { s1 with toks := tk }) told4 S hx u3 (by have := g.len; rw [esz] at hi; omega) fun b h' L' es' ep' t' sb S' c1 c2 => hQ b h' tk le sb ⟨L', es', ep', t', S', g.step e c1 c2⟩
  · show _ ∨ (!X.w.params.followText "set-order") = true
    cases X.w.params.followText "set-order"
    · exact .inr rfl
    · exact .inl rfl
  · rw [esz] at g
    exact ⟨.ref s.heap.objs.size, _, I.laid (t' := tk) k (Nat.le_refl _) (set4_new S), rfl, q _ L hn g S.one⟩
def rSort4 (K : PySem.W.Frag) (P : Program) (w : World) : List V → Hp → VK → Prop := fun vs H Q => ∃ (a : Addr) (L : List (R4 × Addr)), vs = [V.ref a] ∧ H a = some (Set4 P w a L) ∧ (∀ p ∈ L, SqT K H p.2 (v4 p.1)) ∧ L.length < 64 ∧
  ∀ (M : List (R4 × Addr)) (p : Addr), M.Perm L → SrtG lt4 (M.map (·.1)) → H p = none → Q (.ref p) (upd H p (.lst (M.map fun q => V.ref q.2)))
theorem cr_sort4 (hc : X.calm = true) : CallR X (.builtin "sorted") (rSort4 X.K X.prog X.w) := by
  intro pins s σ H vs us Q I r h
  obtain ⟨a, L, rfl, ha, ht, h64, q⟩ := h
  obtain ⟨es, ep, t, S⟩ := (I.hok a _ ha).1
  have S : Sat X.w (is4 X.prog X.w) (hs4 X.prog X.w) s.heap a L es ep t := ⟨S.at_, S.row, S.tab, S.one, fun p hp => inv_is4 I (ht p hp), S.led, S.rm, S.few⟩
  rw [Vals.ref1 r]
  refine sorted_set4 S (I.ok.hd hc) fun s' p out c M k g o hp hg hi pm hs => ?_
  have hlen : (M.map fun q => V.ref q.2).length ≤ sizeLine := by rw [List.length_map, pm.length_eq, sizeLine_eq]; omega
  have hn : H p = none := I.hok.fresh hp
  have J : Inv X pins σ (upd H p (.lst (M.map fun q => V.ref q.2))) { s with heap := s'.heap, gens := s'.gens, drawn := s'.drawn, toks := s'.toks } :=
    I.call (ch := []) (Un.laid k hp hn) (I.hok.laid k hp ⟨hlen, out.toList, c, by rw [hi]; exact refs4' M, hg⟩) (by rw [g]; exact I.bare) (fun _ z => nomatch z)
  have e : s' = { s with heap := s'.heap, gens := s'.gens, drawn := s'.drawn, toks := s'.toks } := by
    cases s'
    cases s
    cases o
    rfl
  rw [e]
  exact ⟨.ref p, _, J, rfl, q M p pm hs hn⟩
end
/-- rows of four as data -/
theorem RpAll.rows4 {K : PySem.W.Frag} {F : Hp} {os : List Addr} : ∀ {vs : List V} {rs : List R4}, RpAll K F os vs (rs.map tup4) → ∃ ks : List (R4 × Addr), vs = ks.map (fun p => V.ref p.2) ∧ ks.map (·.1) = rs ∧ (∀ p ∈ ks, SqT K F p.2 (v4 p.1)) ∧ ∀ p ∈ ks, Rp K F os (.ref p.2) (tup4 p.1)
  | _, [], .nil => ⟨[], rfl, rfl, fun p hp => (by cases hp), fun p hp => (by cases hp)⟩
  | _, r :: rs, .cons h t => by
    obtain ⟨ks, e1, e2, h1, h2⟩ := RpAll.rows4 t
    have h0 := h
    unfold tup4 at h
    cases h with
    | @tup a vs _ q1 q2 q3 =>
      cases q2 with
      | cons a1 q2 => cases q2 with
        | cons a2 q2 => cases q2 with
          | cons a3 q2 => cases q2 with
            | cons a4 q2 =>
              cases q2
              cases a1 with
              | str b1 _ => cases a2 with
                | str b2 _ => cases a3 with
                  | int => cases a4 with
                    | str b4 _ =>
                      refine ⟨(r, a) :: ks, by rw [e1]; rfl, by rw [List.map_cons, e2], fun p hp => ?_, fun p hp => ?_⟩
                      · rcases List.mem_cons.mp hp with rfl | hp
                        · unfold v4; rw [mk_tl' b1, mk_tl' b2, mk_tl' b4] at q1; exact q1
                        · exact h1 p hp
                      · rcases List.mem_cons.mp hp with rfl | hp
                        · exact h0
                        · exact h2 p hp
section
variable {G : Gc} {E : XK} {N : En} {O : List Nat} {X : Cx} {a : Expr} {ma : ME} {pos p p2 q1 : Pos}
theorem rp_of_keys {K : PySem.W.Frag} {F : Hp} {os : List Addr} : ∀ {M : List (R4 × Addr)}, (∀ p ∈ M, Rp K F os (.ref p.2) (tup4 p.1)) → RpAll K F os (M.map fun p => V.ref p.2) ((M.map (·.1)).map tup4)
  | [], _ => .nil
  | p :: M, h => .cons (h p List.mem_cons_self) (rp_of_keys fun q hq => h q (List.mem_cons_of_mem _ hq))
theorem c_sortSet4 (hK : X.K = G.K) (hc : X.calm = true) (hu : X.A.units + 65 < cLine) (hg : Gl X "sorted") (hm : X.mg "sorted" = none) (hg2 : Gl X "set") (hm2 : X.mg "set" = none) (ha : PE X a (TEk G E N O .b ma)) (h1 : starEach [a] X.env = (false, eval a X.env) :: starEach [] X.env := by rfl)
    (h2 : starEach [.Call (.Name "set" p2) [a] [] q1] X.env = (false, eval (.Call (.Name "set" p2) [a] [] q1) X.env) :: starEach [] X.env := by rfl) : PE X (.Call (.Name "sorted" p) [.Call (.Name "set" p2) [a] [] q1] [] pos) (TEk G E N O .o (eA sortSet4D (aCons ma aNil))) := by
  have inner : PE X (.Call (.Name "set" p2) [a] [] q1) (tCB (rSet4 G.K X.prog X.w) (TAk G E N O .b (aCons ma aNil))) :=
    pe_callTy (by rw [← hK]; exact cr_set4 hc (by omega)) hg2 hm2 PyProof.Rows.boot_set (c_acons ha c_anil (hs := h1)) (he := h1) (hpl := by rfl)
  refine PE.imp (pe_callB (by have := cr_sort4 hc; rw [hK] at this; exact this) hg hm PyProof.Rows.boot_sorted (pa_cons inner pa_nil (hs := h2)) (he := h2) (hpl := by rfl)) fun σ H Q ⟨env, st, F, zs, rel, p⟩ => ?_
  refine ⟨env, st, F, zs, rel, ?_⟩
  have p : Post G E .o F H zs ((aCons ma aNil env st).bind fun xs st => ofOpt (sortSet4D xs) st) Q := p
  cases e : aCons ma aNil env st with
  | exc c st1 => rw [e] at p; exact p
  | bad => rw [e] at p; exact p
  | ok ds st1 =>
    rw [e] at p
    refine fun vs H1 F1 zs1 x1 S1 q1 => ?_
    obtain ⟨d, e1, k⟩ := post_ofOpt S1 (p.back x1)
    have s := x1.sub
    have hx : Paired (Sh G.K F1 H1 zs1) vs ds := q1
    match ds, hx, e1 with
    | [.list ys], hx, hg =>
      obtain ⟨x, rfl, h⟩ := sh1 hx
      obtain ⟨a, vs, rfl, q, r, _⟩ := h.list s
      have hg : ((rows4 ys).bind fun rs => if rs.length < 62 then some (Dn.D.list ((nubG lt4 rs).map tup4)) else none) = some d := hg
      cases e : rows4 ys with
      | none => rw [e] at hg; cases hg
      | some rs =>
        rw [e] at hg
        have hg : (if rs.length < 62 then some (Dn.D.list ((nubG lt4 rs).map tup4)) else none) = some d := hg
        split at hg
        · rename_i h64
          cases hg
          rw [rows4_of e] at r
          obtain ⟨ks, rfl, e2, e3, e4⟩ := r.rows4
          have hl : ks.length = rs.length := by rw [← e2, List.length_map]
          refine ⟨a, ks, rfl, .of q, fun p hp => same_seqT s (e3 p hp), by omega, fun b L hb g one => ?_⟩
          have sub : ∀ p ∈ L, p ∈ ks := fun p hp => List.mem_of_mem_take (g.sub p hp)
          have g1 : Grw F1 H1 F1 (upd H1 b (Set4 X.prog X.w b L)) := Grw.oneH s hb
          refine ⟨b, L, rfl, upd_same, fun p hp => same_seqT g1.h (same_seqT s (e3 p (sub p hp))), by have := g.len; omega, fun M p' pm so hp => ?_⟩
          have eq : M.map (·.1) = nubG lt4 rs := by
            refine nubG_of ord4 so ((pm.map _).nodup_iff.mpr one) fun x => ?_
            rw [(pm.map _).mem_iff, ← e2]
            constructor
            · intro hx
              obtain ⟨q, hq, rfl⟩ := List.mem_map.mp hx
              exact List.mem_map.mpr ⟨q, sub q hq, rfl⟩
            · intro hx
              obtain ⟨q, hq, rfl⟩ := List.mem_map.mp hx
              exact g.all q (by rw [List.take_length]; exact hq)
          have hM : ∀ p ∈ M, Rp G.K F1 (osOf zs1) (.ref p.2) (tup4 p.1) := fun p hp => e4 p (sub p (pm.mem_iff.mp hp))
          have hlt : ((nubG lt4 rs).map tup4).length ≤ SZ := by
            rw [List.length_map, ← eq, List.length_map, pm.length_eq]
            have := g.len
            exact small_sz (by omega)
          refine k_newLst g1.sub (S1.grow g1) (fun v H' F' g2 r => k v H' F' (g1.trans g2) ?_) (eq ▸ rp_of_keys hM) hlt hp
          obtain ⟨a', rfl, r1, r2, r3, r4⟩ := r
          exact ⟨a', rfl, fun o e n => r1 o (g1.h _ _ e) n, r2, r3, r4⟩
        · cases hg
end
end Dn

/-! DnR: list(range(n)), by its meaning. -/
namespace Dn
def rgLD : List D → Option D
  | [.int n] => if n.natAbs ≤ 1000 then some (.list ((List.range n.toNat).map fun (k : Nat) => D.int (k : Int))) else none
  | _ => none
end Dn

/-! Dn29: list(range(n)), by its meaning. -/
namespace Dn
open PySem PySem.Spec PyProof.Rows L2
section
variable {X : Cx} {G : Gc} {E : XK} {N : En} {O : List Nat} {ma : ME} {a : Expr} {p p2 pos pos2 : Pos}
theorem rp_ints {K : PySem.W.Frag} {F : Hp} {os : List Addr} : ∀ (l : List Nat), RpAll K F os (l.map fun i => V.int (0 + ((i : Nat) : Int))) (l.map fun (k : Nat) => D.int (k : Int))
  | [] => .nil
  | i :: l => by
    rw [List.map_cons, List.map_cons, Int.zero_add]
    exact .cons (.int _) (rp_ints l)
theorem v_rg : VA G .o (fun xs H Q => ∃ n, xs = [.int n] ∧ RgOk 0 n ∧ ∀ q, H q = none → Q (.ref q) (upd H q (.lst (rgV 0 n)))) rgLD := by
  intro F H zs st xs ds d Q s S hx hg k
  match ds, hx, hg with
  | [.int n], hx, hg =>
    obtain ⟨x, rfl, h⟩ := sh1 hx
    simp only [rgLD] at hg
    split at hg
    · rename_i hn
      cases hg
      refine ⟨n, by rw [h.int], ⟨by omega, by omega, by omega, by omega, by omega⟩, fun q hq => ?_⟩
      refine k_newLst s S k ?_ (by rw [List.length_map, List.length_range]; exact Nat.le_trans (show n.toNat ≤ 1000 by omega) (by decide)) hq
      unfold rgV
      rw [Int.sub_zero]
      exact rp_ints _
    · cases hg
theorem ta_one {σ : L2.St} {H : Hp} {Q : List V → Hp → Prop} (h : TAk G E N O .b (aCons ma aNil) σ H Q) : TEk G E N O .b ma σ H fun v H1 => Q [v] H1 := by
  obtain ⟨env, st, F, zs, rel, p⟩ := h
  refine ⟨env, st, F, zs, rel, ?_⟩
  have p : PostA G E .b F H zs ((ma env st).bind fun x st => (aNil env st).bind fun xs st => .ok (x :: xs) st) Q := p
  cases e : ma env st with
  | ok d st1 =>
    rw [e] at p
    intro v H1 F1 zs1 x1 S1 q1
    exact p [v] H1 F1 zs1 x1 S1 (.cons q1 .nil)
  | exc c st1 => rw [e] at p; exact p
  | bad => rw [e] at p; exact p
theorem c_listRg (hc : X.calm = true) (hg : Gl X "list") (hm : X.mg "list" = none) (hg2 : Gl X "range") (hm2 : X.mg "range" = none) (ha : PE X a (TEk G E N O .b ma))
    (h1 : starEach [a] X.env = (false, eval a X.env) :: starEach [] X.env := by rfl) (h2 : starEach [Expr.Call (.Name "range" p2) [a] [] pos2] X.env = (false, eval (Expr.Call (.Name "range" p2) [a] [] pos2) X.env) :: starEach [] X.env := by rfl) :
    PE X (.Call (.Name "list" p) [.Call (.Name "range" p2) [a] [] pos2] [] pos) (TEk G E N O .o (eA rgLD (aCons ma aNil))) := by
  refine PE.imp (pe_listRg hc hg hm (prg_1 hg2 hm2 ha h1) h2) fun σ H Q h => ?_
  obtain ⟨env, st, F, zs, rel, p⟩ := ta_one (ta_eA v_rg h)
  refine ⟨env, st, F, zs, rel, ?_⟩
  revert p
  cases ma env st with
  | ok d st1 =>
    intro p v H1 F1 zs1 x1 S1 q1
    obtain ⟨n, e, ok, k⟩ := p v H1 F1 zs1 x1 S1 q1
    cases e
    exact ⟨n, rfl, ok, k⟩
  | exc c st1 => exact fun p => p
  | bad => exact fun p => p
end
end Dn

/-! DnS: text * 2, by its meaning. -/
namespace Dn
def dblD : D → D → Option D
  | .str l, .int n => if n = 2 ∧ l ≠ [] ∧ l.length ≤ 10000 then some (.str (l ++ l)) else none
  | _, _ => none
end Dn

/-! Dn30: text * 2, by its meaning. -/
namespace Dn
open PySem PySem.Spec PyProof.Rows L2
section
variable {X : Cx} {G : Gc} {E : XK} {N : En} {O : List Nat} {ma mb : ME} {a b : Expr} {pos : Pos}
def rDbl : R2 := fun x y H Q => ∃ t, x = .str t ∧ y = .int 2 ∧ MulOk t 2 ∧ Q (.str (Txt.mul t 2)) H
theorem op_dbl : OpR X (binaryOp .Mult) rDbl := by
  intro pins s σ H x y v u Q I rx ry h
  obtain ⟨t, rfl, rfl, ok, q⟩ := h
  obtain ⟨t1, rfl⟩ := rx
  obtain ⟨t2, rfl⟩ := ry
  exact SB.mul ok fun t' k => ⟨.str (Txt.mul t 2), H, I.kept (t' := k) (fun b u e => e), ⟨t', rfl⟩, q⟩
theorem mul2_cps {t : Str} (h : t.cps.toList ≠ []) : (Txt.mul t 2).cps.toList = t.cps.toList ++ t.cps.toList := by
  have hl : (t.length == 0) = false := by
    rw [beq_eq_false_iff_ne]
    intro z
    exact h (List.length_eq_zero_iff.mp (by rw [Array.length_toList]; exact z))
  unfold Txt.mul
  rw [if_neg (by decide), if_neg (by rw [hl]; decide)]
  simp [List.replicate]
theorem v_dbl : V2 G .v rDbl dblD := by
  intro F H zs st x y dx dy d Q s S hx hy hg k
  cases dx <;> cases dy <;> first | (cases hg; done) | skip
  rename_i l n
  simp only [dblD] at hg
  split at hg
  · rename_i hc
    obtain ⟨rfl, hne, hl⟩ := hc
    cases hg
    obtain ⟨t, rfl, e, o⟩ := hx.str
    have tl : t.length = l.length := by rw [len_str, e]
    refine ⟨t, rfl, hy.int, ⟨by decide, fun _ _ => ?_, fun _ _ => ?_⟩, k _ H F (Grw.refl s) (.str ?_ (strOk_app o o ?_))⟩
    · rw [tl]; omega
    · have z : (20000 : Nat) ≤ SZ := by decide
      unfold Builtin.Str.tooLong
      rw [tl, szl]
      refine decide_eq_false ?_
      show ¬ l.length * 2 > SZ
      omega
    · rw [mul2_cps (by rw [e]; exact hne), e]
    · exact Nat.le_trans (show l.length + l.length ≤ 20000 by omega) (by decide)
  · cases hg
theorem c_dbl (ha : PE X a (TEk G E N O .b ma)) (hb : PE X b (TEk G E N O .b mb)) : PE X (.BinOp a .Mult b pos) (TEk G E N O .v (e2 dblD ma mb)) := c_op op_dbl v_dbl ha hb
end
end Dn

/-! Dn31: the laws' word of a deed, told by all(..): try, except, all while the error is handled. -/
namespace Dn
open PySem PySem.Spec PyProof.Rows L2
section
variable {G : Gc} {Z : Cx}
/-- isinstance(e, (c1, c2)) in the suite -/
theorem call_isET {a E0 : Addr} {oe : Obj} {pn : List (Addr × Obj)} (C : ExcC Z.K E0) (hz : Zc (.ref E0) none oe) (hf : ∃ vs, oe.data = .fields vs) :
    CallR (Z.suite a ((a, oe) :: pn)) (.builtin "isinstance") (fun xs H Q => ∃ (tp : Addr) (cs : List V) (ws : List Value) (b : Bool), xs = [.ref a, .ref tp] ∧ H tp = some (.tup cs) ∧ Paired ClsV cs ws ∧ PySem.W.kitAny Z.K (.ref E0) ws = some b ∧ Q (.bl b) H) := by
  intro pins s σ H xs us Q I r h
  obtain ⟨tp, cs, ws, b, rfl, hT, k, e, q⟩ := h
  obtain ⟨u1, u2, rfl, r1, r2⟩ := vals2 r
  have e1 : u1 = Value.ref a := r1
  have e2 : u2 = Value.ref tp := r2
  subst e1 e2
  obtain ⟨_, its, rv, o, h1, h2, n, h3⟩ := (show ObjOk _ _ H s.heap tp (.tup cs) from I.hok tp _ hT)
  have e3 := ClsV.all k rv
  subst e3
  obtain ⟨oc, od, dt, sl⟩ := o
  simp only at h2 h3
  subst h2 h3
  have hget := (I.pin (a, oe) (List.mem_append.mpr (.inl List.mem_cons_self))).1
  obtain ⟨vs, hv⟩ := hf
  have J : PySem.W.InstAt s.heap a oe E0 none := by
    obtain ⟨oc, od, oda, osl⟩ := oe
    obtain ⟨z1, z2⟩ := hz
    dsimp only at z1 z2 hv
    subst z1 z2 hv
    exact ⟨hget, rfl, rfl, trivial⟩
  exact PySem.W.kia_tup (PySem.W.handS_kitx_exc C.hg C.hk C.hs C.hd C.ha C.hn C.ht C.hm) I.kIn J h1 e (fun z => nomatch z) fun tk => ⟨.bl b, H, I.tok tk, rfl, q⟩
/-- not isinstance(e, (A, B)) -/
theorem pe_isT {a : Addr} {oe : Obj} {pn : List (Addr × Obj)} {k j1 j2 x1 : Nat} {p1 p2 p3 p4 p5 pos : Pos} (hK : Z.K = G.K) (W : Xw G Z.mg) (hk : k < 3) (h1 : j1 < 3) (h2 : j2 < 3) (hz : Zc (.ref (He.ga G.K (nmX k))) none oe) (hf : ∃ vs, oe.data = .fields vs)
    (hg : Gl Z "isinstance") (g1 : Gl Z (nmX j1)) (g2 : Gl Z (nmX j2)) (hN : Z.N[2]? = some ("e" : Str)) (hv : Vis Z.env.scope "e") :
    PE (Z.suite a ((a, oe) :: pn)) (.Call (.Name "isinstance" p1) [.Name "e" p2, .Tuple [.Name (nmX j1) p3, .Name (nmX j2) p4] x1 p5] [] pos) (fun σ H Q => σ[2]? = some (some (.ref a)) ∧ ∀ q, H q = none → Q (.bl (decide (k = j1) || decide (k = j2))) (upd H q (.tup [.ref (He.ga G.K (nmX j1)), .ref (He.ga G.K (nmX j2))]))) := by
  have hd : ∀ j, j < 3 → (nmX j == ("__debug__" : Str)) = false := fun j hj => by
    match j, hj with
    | 0, _ => rfl
    | 1, _ => rfl
    | 2, _ => rfl
  have C : ExcC Z.K (He.ga G.K (nmX k)) := by rw [hK]; exact W.exc k hk
  have gl : ∀ j (hj : j < 3) (g : Gl Z (nmX j)) (p : Pos), PE (Z.suite a ((a, oe) :: pn)) (.Name (nmX j) p) (tC (.ref (He.ga G.K (nmX j)))) := fun j hj g p => pe_glob (v := .ref (He.ga G.K (nmX j))) g (W.glo j hj) rfl (hd j hj)
  refine PE.imp (pe_callB (call_isET (Z := Z) (a := a) (oe := oe) (pn := pn) C hz hf) hg W.isi (by decide +kernel) (pa_cons (pe_var (i := 2) hN hv (by decide) (by decide)) (pa_cons (pe_tup (x1 := x1) (pos := p5) (pa_cons (gl j1 h1 g1 p3) (pa_cons (gl j2 h2 g2 p4) pa_nil))) pa_nil))) fun σ H Q ⟨e1, e2⟩ => ?_
  refine ⟨.ref a, e1, by show 2 ≤ sizeLine; decide, fun q hq => ?_⟩
  refine ⟨q, _, [.ref (He.ga G.K (nmX j1)), .ref (He.ga G.K (nmX j2))], _, rfl, upd_same, .cons (.own _) (.cons (.own _) .nil), ?_, e2 q hq⟩
  rw [hK]
  refine kitAny_cons (W.kit k j1 hk h1) (fun z => ?_) (fun z => by rw [z]; rfl)
  refine kitAny_cons (W.kit k j2 hk h2) (fun z2 => ?_) (fun z2 => by rw [z2, Bool.or_true])
  rw [z, z2]; exact kitAny_nil
def suiT (p : Nat → Pos) (j a b k1 k2 j1 : Nat) : List Stmt :=
  [.Assign [.Name "kinds" (p 0)] (.List [.Call (.Name "isinstance" (p 1)) [.Name "e" (p 2), .Name "ValueError" (p 3)] [] (p 4), .Call (.Name "isinstance" (p 5)) [.Name "e" (p 6), .Name (nmX j) (p 7)] [] (p 8),
     .UnaryOp .Not (.Call (.Name "isinstance" (p 9)) [.Name "e" (p 10), .Tuple [.Name (nmX a) (p 11), .Name (nmX b) (p 12)] k1 (p 13)] [] (p 14)) (p 15)] (p 16)) (p 17),
   .Assign [.Name "found" (p 18)] (.Tuple [.Constant (.str "refused") j1 (p 19), .Call (.Name "all" (p 20)) [.Name "kinds" (p 21)] [] (p 22)] k2 (p 23)) (p 24)]
def fBl (j : Nat) : Nat → V := fun k => .bl (decide (k = j))
theorem all3 (j a b k : Nat) (hj : j < 3) (ha : a < 3) (hb : b < 3) (hk : k < 3) (d1 : j ≠ a) (d2 : j ≠ b) (d3 : a ≠ b) : ([true, decide (k = j), !(decide (k = a) || decide (k = b))] : List Bool).all id = decide (k = j) := by
  by_cases h : k = j
  · have h1 : k ≠ a := by omega
    have h2 : k ≠ b := by omega
    rw [decide_eq_true h, decide_eq_false h1, decide_eq_false h2]; rfl
  · rw [decide_eq_false h]; rfl
theorem suite_told {a : Addr} {oe : Obj} {pn : List (Addr × Obj)} {cls : Value} {d : Option Addr} {p : Nat → Pos} {j a1 b1 k1 k2 j1 : Nat} (hK : Z.K = G.K) (W : Xw G Z.mg) (ha0 : Z.mg "all" = none) (hj : j < 3) (ha : a1 < 3) (hb : b1 < 3) (d1 : j ≠ a1) (d2 : j ≠ b1) (d3 : a1 ≠ b1)
    (hN : Z.N = (["deed", "found", "e", "kinds"] : List Str)) (hz : L2N.Zn cls d oe) (hf : ∃ vs, oe.data = .fields vs)
    (g1 : Gl Z "isinstance") (g2 : ∀ j, j < 3 → Gl Z (nmX j)) (g3 : Gl Z "ValueError") (g4 : Gl Z "all") (l1 : Z.env.scope.names.lookup ("found" : Str) = some .local) (l2 : Z.env.scope.names.lookup ("e" : Str) = some .local) (l3 : Z.env.scope.names.lookup ("kinds" : Str) = some .local) :
    PSs (Z.suite a ((a, oe) :: pn)) (suiT p j a1 b1 k1 k2 j1) (tsW G (fBl j) a cls d) := by
  by_cases hcl : ∃ k, k < 3 ∧ cls = .ref (He.ga G.K (nmX k)) ∧ d = none
  · obtain ⟨k, hk, rfl, rfl⟩ := hcl
    have nd : Z.N.Nodup := by rw [hN]; decide
    have i1 : Z.N[1]? = some ("found" : Str) := by rw [hN]; rfl
    have i2 : Z.N[2]? = some ("e" : Str) := by rw [hN]; rfl
    have i3 : Z.N[3]? = some ("kinds" : Str) := by rw [hN]; rfl
    have hot : L2H.HotC (Z.suite a ((a, oe) :: pn)) := by
      obtain ⟨vs, hv⟩ := hf
      exact ⟨(a, oe), ⟨rfl, vs, hv, hz.2.2 vs hv⟩, List.mem_cons_self⟩
    have ev := pe_isV (Z := Z) (a := a) (p1 := p 1) (p2 := p 2) (p3 := p 3) (pos := p 4) (pn := pn) hK W hk hz.zc hf g1 g3 i2 (.inl l2)
    have ex := pe_isX (Z := Z) (a := a) (p1 := p 5) (p2 := p 6) (p3 := p 7) (pos := p 8) (pn := pn) hK W hk hj hz.zc hf g1 (g2 j hj) i2 (.inl l2)
    have et := pe_isT (Z := Z) (a := a) (x1 := k1) (p1 := p 9) (p2 := p 10) (p3 := p 11) (p4 := p 12) (p5 := p 13) (pos := p 14) (pn := pn) hK W hk ha hb hz.zc hf g1 (g2 a1 ha) (g2 b1 hb) i2 (.inl l2)
    have s1 := ps_set (X := Z.suite a ((a, oe) :: pn)) (i := 3) (pos := p 17) (pos' := p 0) nd i3 (.inl l3) (pe_lst (pos := p 16) (pa_cons ev (pa_cons ex (pa_cons (pe_not (pos := p 15) et) pa_nil)))) rfl (.inr l3)
    have es : PE (Z.suite a ((a, oe) :: pn)) (.Constant (.str "refused") j1 (p 19)) (tC (.str "refused")) := pe_str
    have ek : PE (Z.suite a ((a, oe) :: pn)) (.Name "kinds" (p 21)) (tVar 3) := pe_var i3 (.inl l3) (by decide) (by decide)
    have ea := pe_callB (pos := p 22) (p := p 20) (cr_allH hot) g4 ha0 (by decide +kernel) (pa_cons ek pa_nil)
    have s2 := ps_set (X := Z.suite a ((a, oe) :: pn)) (i := 1) (pos := p 24) (pos' := p 18) nd i1 (.inl l1) (pe_tup (x1 := k2) (pos := p 23) (pa_cons es (pa_cons ea pa_nil))) rfl (.inr l1)
    refine PSs.imp (pss_cons s1 (pss_one s2)) fun D σ H h => ?_
    obtain ⟨k', hk', ec', _, h2, hl, h⟩ := h
    have ek2 : k = k' := by
      have x1 := W.kit k k hk hk
      have x2 := W.kit k k' hk hk'
      have ea : He.ga G.K (nmX k) = He.ga G.K (nmX k') := by injection ec'
      rw [← ea, x1] at x2
      have := Option.some.inj x2
      simpa using this.symm
    subst ek2
    refine ⟨h2, h2, h2, fun q hq => ⟨_, rfl, by show 3 ≤ sizeLine; decide, fun p1 hp1 => ?_⟩⟩
    have hq : H q = none := hq
    have hp1 : (upd H q (.tup [.ref (He.ga G.K (nmX a1)), .ref (He.ga G.K (nmX b1))])) p1 = none := hp1
    have e1 : p1 ≠ q := fun z => by rw [z, upd_same] at hp1; cases hp1
    have hp1' : H p1 = none := by rw [upd_ne e1] at hp1; exact hp1
    have sm : ∀ o, Same H (upd (upd H q (.tup [.ref (He.ga G.K (nmX a1)), .ref (He.ga G.K (nmX b1))])) p1 o) := fun o b u e => by
      rw [upd_ne (ne_of_none e hp1'), upd_ne (ne_of_none e hq)]; exact e
    have l3' : (σ.set 3 (some (V.ref p1)))[3]? = some (some (V.ref p1)) := by rw [List.getElem?_set_self (by omega)]
    refine ⟨.ref p1, l3', p1, [true, decide (k = j), !(decide (k = a1) || decide (k = b1))], rfl, .of upd_same, by show 2 ≤ sizeLine; decide, fun p2 hp2 => ?_⟩
    rw [all3 j a1 b1 k hj ha hb hk d1 d2 d3]
    refine h p2 p1 _ (fun b u e => ?_) ?_ upd_same
    · have e2 := sm (.lst ([true, decide (k = j), !(decide (k = a1) || decide (k = b1))].map V.bl)) b u e
      rw [upd_ne (ne_of_none e2 hp2)]; exact e2
    · cases z : H p2 with
      | none => rfl
      | some o =>
        have e2 := sm (.lst ([true, decide (k = j), !(decide (k = a1) || decide (k = b1))].map V.bl)) p2 o z
        exact absurd (e2.symm.trans hp2) (by simp)
  · exact ⟨fun pins s σ H D I h => by
      obtain ⟨k, h1, h2, h3, _⟩ := h
      exact absurd ⟨k, h1, h2, h3⟩ hcl⟩
end
def toldB (q p : Nat → Pos) (k j k1 k2 j1 jj a b : Nat) : List Stmt :=
  [.Try [.Assign [.Name "found" (q 0)] (.Tuple [.Constant (.str "told") j (q 1), .Call (.Name "deed" (q 2)) [] [] (q 3)] k (q 4)) (q 5)] [.ExceptHandler (some (.Name "HeapError" (q 6))) (some "e") (suiT p jj a b k1 k2 j1) (q 7)] [] [] (q 8),
   .Return (some (.Name "found" (q 9))) (q 10)]
section
variable {G : Gc} {X : Cx}
theorem told_gives {x qn : Str} {sg : Scope} {g : Addr} {cdg : Value} {q p : Nat → Pos} {k j k1 k2 j1 jj a1 b1 : Nat} (hK : X.K = G.K) (W : Xw G X.mg) (ha0 : X.mg "all" = none) (hj : jj < 3) (ha : a1 < 3) (hb : b1 < 3) (d1 : jj ≠ a1) (d2 : jj ≠ b1) (d3 : a1 ≠ b1)
    (g1 : sg.names.lookup ("isinstance" : Str) = some .globalImplicit) (g2 : ∀ j, j < 3 → sg.names.lookup (nmX j) = some .globalImplicit) (g3 : sg.names.lookup ("ValueError" : Str) = some .globalImplicit) (g4 : sg.names.lookup ("HeapError" : Str) = some .globalImplicit) (g5 : sg.names.lookup ("all" : Str) = some .globalImplicit)
    (l0 : sg.names.lookup ("deed" : Str) = some .local) (l1 : sg.names.lookup ("found" : Str) = some .local) (l2 : sg.names.lookup ("e" : Str) = some .local) (l3 : sg.names.lookup ("kinds" : Str) = some .local) :
    GivesN X ["deed", "found", "e", "kinds"] x sg g cdg (toldB q p k j k1 k2 j1 jj a1 b1) "deed" qn (TTword G (fBl jj)) := by
  intro f c' s H Q tl act hc h
  have i1 : (["deed", "found", "e", "kinds"] : List Str)[1]? = some ("found" : Str) := rfl
  have nd : (["deed", "found", "e", "kinds"] : List Str).Nodup := by decide
  refine ⟨_, pss_cons (L2N.ps_try_as (X := (cxOf C8.CX0 X.prog X.w X.K X.mg X.base ["deed", "found", "e", "kinds"] x sg g cdg X.A X.stack s H C8.E0).nox) (i := 2) (n := "e") (c := .ref (He.ga G.K "HeapError")) (Wout := fun _ _ _ _ => False) (ts := tsW G (fBl jj))
      (tb := fun Wx D σ H => ∃ Ech : XK, (∀ cls d σ' H', Ech cls d H' → σ'.length = 4 → Wx cls d σ' H') ∧ σ[0]? = some (some (.ref f)) ∧ H c' = some (LamX.CodeO c' qn) ∧ tl Ech H fun v H1 => ([.str "told", v] : List V).length ≤ sizeLine ∧ ∀ p, H1 p = none → D.nx (σ.set 1 (some (.ref p))) (upd H1 p (.tup [.str "told", v])))
      rfl rfl nd rfl l2 ⟨g4, by decide, .inl W.he⟩ takes0N (fun Wx pn xe tk _ => ?_) (fun a oe cls d pn hz hf => ?_)) (pss_one (ps_ret (pe_var (i := 1) i1 (.inl l1) (by decide) (by decide)))), ?_⟩
  · refine ⟨fun pins s' σ H' D I h' => ?_⟩
    obtain ⟨Ech, hW, h1, h2, h3⟩ := h'
    have hp := act _ pn xe Ech (q 2) (q 3) (takes_len tk) (fun cls d σ' H' e el => hW cls d σ' H' e el)
    have hq := pss_one (ps_set (i := 1) (pos := q 5) (pos' := q 0) nd i1 (.inl l1) (pe_tup (x1 := k) (pos := q 4) (pa_cons (pe_str (x := "told") (j := j) (pos := q 1)) (pa_cons hp pa_nil))) rfl (.inr l1))
    exact hq.run pins s' σ H' D I ⟨h1, h2, h3⟩
  · exact suite_told hK W ha0 hj ha hb d1 d2 d3 rfl hz hf g1 g2 g3 g5 l1 l2 l3
  · refine ⟨EW G (fBl jj) Q, fun cls d σ' H' hE hl => ?_, rfl, hc, h _ _ (fun _ _ _ z => z) fun v H' z => ⟨by show 2 ≤ sizeLine; decide, fun p hp => ⟨.ref p, rfl, z p hp⟩⟩⟩
    obtain ⟨k, hk, rfl, rfl, hQ⟩ := hE
    refine ⟨true, by rw [W.ex k hk]; show PySem.W.exmOne X.K _ _ = _; rw [hK]; exact W.exm k hk, fun _ a ha => ?_, fun z => by cases z⟩
    refine ⟨k, hk, W.ex k hk, rfl, by rw [List.getElem?_set_self (by omega)], by simpa using hl, fun p q H2 s2 hp h2 => ?_⟩
    refine ⟨.ref p, ?_, hQ p H2 s2 hp h2⟩
    rw [List.getElem?_set_ne (by decide), List.getElem?_set_self (by simp; omega)]
end
theorem hf_told (j : Nat) : ∀ k (K : PySem.W.Frag) (F : Hp) (os : List Addr), k < 3 → Rp K F os (fBl j k) (fTold j k) := fun k K F os _ => .bl _
section
variable {G : Gc} {P : Program} {w : World} {mg : Str → Option Value} {base : Heap} {st : Stmt}
theorem tw_told {q p : Nat → Pos} {k j k1 k2 j1 : Nat} (jj a1 b1 : Nat) (F : Fh G.K "_law_told" st) (hm : mg "_law_told" = some (.ref (He.ga G.K "_law_told"))) (W : Xw G mg) (ha0 : mg "all" = none) (hj : jj < 3) (ha : a1 < 3) (hb : b1 < 3) (d1 : jj ≠ a1) (d2 : jj ≠ b1) (d3 : a1 ≠ b1)
    (S : FnScope ["deed", "found", "e", "kinds"] ["deed"] (defScope st))
    (hbi : ∀ (kV doc pm : Value) (an : Option Addr) (cdv ct : Value) (us : List Value), us.length = (["deed"] : List Str).length → bindArgs (PySem.W.fnOf "_law_told" "_law_told" (defArgs st) (defBody st) (defScope st) .none kV doc pm an cdv ct) ⟨us, []⟩ = pure ((["deed"] : List Str).zip us))
    (hbd : defBody st = toldB q p k j k1 k2 j1 jj a1 b1)
    (g1 : (defScope st).names.lookup ("isinstance" : Str) = some .globalImplicit) (g2 : ∀ j, j < 3 → (defScope st).names.lookup (nmX j) = some .globalImplicit) (g3 : (defScope st).names.lookup ("ValueError" : Str) = some .globalImplicit) (g4 : (defScope st).names.lookup ("HeapError" : Str) = some .globalImplicit) (g5 : (defScope st).names.lookup ("all" : Str) = some .globalImplicit)
    (l0 : (defScope st).names.lookup ("deed" : Str) = some .local) (l1 : (defScope st).names.lookup ("found" : Str) = some .local) (l2 : (defScope st).names.lookup ("e" : Str) = some .local) (l3 : (defScope st).names.lookup ("kinds" : Str) = some .local) : Tw G P w mg base "_law_told" "deed" (fBl jj) := by
  obtain ⟨fd, F⟩ := F
  have B := F.bindsN hbi
  obtain ⟨oc, od, dV, kV, doc, pm, an, cdv, ct, osl, rfl, lk, hcd, _, _⟩ := F.ex
  refine ⟨⟨["deed", "found", "e", "kinds"], defArgs st, defBody st, defScope st, dV, kV, doc, pm, cdv, ct, oc, an, od, osl, lk, hcd, B, S, rfl, .inl l0, fun X q e1 e2 e3 e4 e5 hu => ?_⟩, hm, F.kp⟩
  subst e1 e2 e4 e5
  rw [hbd]
  exact told_gives e3 W ha0 hj ha hb d1 d2 d3 g1 g2 g3 g4 g5 l0 l1 l2 l3
end
end Dn
namespace Dn
open PySem PySem.Spec PyProof.Rows L2
theorem passN {X : Cx} : Passes (L2N.CX X.prog X.w) X E0 := fun _ _ _ _ _ _ _ h => by
  obtain ⟨_, _, _, _, _, _, _, _, _, _, _, _, z⟩ := h
  exact z.elim
end Dn

/-! DnT: a def that calls itself, by its meaning: by fuel. -/
namespace Dn
def recN (ps n : Nat) (m : (List D → Sto → R D) → MS) : Nat → List D → Sto → R D
  | 0 => fun _ _ => .bad
  | k + 1 => runDef ps n (m (recN ps n m k))
end Dn
namespace Dn
/-- try: found = f(..) / except the class 1: found = None -/
def readD (g : List D → Sto → R D) (ds : List D) (st : Sto) : R D := if ds.length = 2 then (match g ds st with
  | .ok d st1 => .ok d st1
  | .exc c st1 => if c = 1 then .ok .non st1 else .bad
  | .bad => .bad) else .bad
end Dn
namespace Dn
/-- sorted(set(tuple of texts)) -/
def sortSetTD : List D → Option D
  | [.tup xs] => (strsD xs).bind fun ls => if ls.length < 63 then some (.list ((nubS ls).map D.str)) else none
  | _ => none
end Dn

/-! Dn32: an object of a name's own is returned; a def that calls itself. -/
namespace Dn
open PySem PySem.Spec PyProof.Rows L2
section
variable {G : Gc} {E : XK} {N : En} {O O' : List Nat} {X : Cx} {pos pos' : Pos} {i : Nat} {x : Str}
theorem c_retOwn (hN : X.N[i]? = some x := by rfl) (hO : i ∈ O := by decide) (hv : Vis X.env.scope x := by first | exact Or.inl rfl | exact Or.inr (Or.inl rfl) | exact Or.inr (Or.inr rfl)) (hd : (x == ("__debug__" : Str)) = false := by decide)
    (hcd : (x == ("__classdict__" : Str)) = false := by decide) : PS X (.Return (some (.Name x pos')) pos) (TSk G E N .o O O' (sRet (eVar i))) := by
  refine PS.imp (ps_ret (pe_var hN hv hd hcd)) fun D σ H ⟨env, st, F, zs, r, h⟩ => ?_
  obtain ⟨d, a, h1, h2, h3, h4, h5, h6⟩ := r.own i hO
  have e : sRet (eVar i) env st = .rt d st := by simp [sRet, eVar, h1]
  rw [e] at h
  exact ⟨.ref a, h2, h (.ref a) H F zs r.ext r.sto ⟨a, rfl, h3, h4, h5, h6⟩⟩
end
/-! ### a def that calls itself, by fuel -/
section
variable {G : Gc} {P : Program} {w : World} {mg : Str → Option Value} {base : Heap} {x : Str} {st : Stmt} {Nm ps : List Str} {k : Nat} {kd : Kd}
theorem Fd.zero (F : Fh G.K x st) (hm : mg x = some (.ref (He.ga G.K x)))
    (hbi : ∀ (kV doc pm : Value) (an : Option Addr) (cdv ct : Value) (us : List Value), us.length = ps.length → bindArgs (PySem.W.fnOf x x (defArgs st) (defBody st) (defScope st) .none kV doc pm an cdv ct) ⟨us, []⟩ = pure (ps.zip us)) :
    Fd G P w mg base x kd k ps (fun _ _ => .bad) := by
  obtain ⟨fd, F⟩ := F
  refine ⟨⟨fd, isFn_of F, ⟨fun vs H Q E ⟨F, zs, ds, st, _, _, r, h, _⟩ => r.length.trans h, fun A outer s H args us vs Q E _ _ _ _ ⟨F, zs, ds, st, _, _, _, _, p⟩ => (show False from p).elim⟩, F.bindsN hbi⟩, hm, F.kp, fun _ _ _ => rfl⟩
/-- by fuel: the base level k, one more for each turn -/
theorem Fd.recN {m : (List D → Sto → R D) → MS} (F : Fh G.K x st) (hm : mg x = some (.ref (He.ga G.K x)))
    (hbi : ∀ (kV doc pm : Value) (an : Option Addr) (cdv ct : Value) (us : List Value), us.length = ps.length → bindArgs (PySem.W.fnOf x x (defArgs st) (defBody st) (defScope st) .none kV doc pm an cdv ct) ⟨us, []⟩ = pure (ps.zip us))
    (step : ∀ (n : Nat) (g : List D → Sto → R D), Fd G P w mg base x .v (k + n) ps g → Fd G P w mg base x .v (k + n + 1) ps (runDef ps.length Nm.length (m g))) : ∀ n, Fd G P w mg base x .v (k + n) ps (Dn.recN ps.length Nm.length m n)
  | 0 => Fd.zero F hm hbi
  | n + 1 => step n _ (Fd.recN F hm hbi step n)
end
end Dn

/-! Dn33: try: found = row_of(plan, text) / except NoRow: found = None. -/
namespace Dn
open PySem PySem.Spec PyProof.Rows L2
def readB (q : Nat → Pos) (j : Nat) : List Stmt :=
  [.Try [.Assign [.Name "found" (q 0)] (.Call (.Name "row_of" (q 1)) [.Name "plan" (q 2), .Name "text" (q 3)] [] (q 4)) (q 5)] [.ExceptHandler (some (.Name "NoRow" (q 6))) none [.Assign [.Name "found" (q 7)] (.Constant .none j (q 8)) (q 9)] (q 10)] [] [] (q 11),
   .Return (some (.Name "found" (q 12))) (q 13)]
section
variable {G : Gc} {P : Program} {w : World} {mg : Str → Option Value} {base : Heap} {st : Stmt} {k : Nat} {g : List D → Sto → R D}
theorem read_fn {q : Nat → Pos} {j : Nat} {fd : FuncData} (F : FunD G.K "_law_read" "_law_read" (defArgs st) (defBody st) (defScope st) [] [] (He.ga G.K "_law_read") fd) (S : FnScope ["plan", "text", "found"] ["plan", "text"] (defScope st)) (hbd : defBody st = readB q j)
    (FR : Fd G P w mg base "row_of" .v k ["plan", "text"] g) (x1 : mg "NoRow" = some (.ref (He.ga G.K "NoRow"))) (xm : PySem.W.exmOne G.K (.ref (He.ga G.K "NoRow")) (.ref (He.ga G.K "NoRow")) = some true) (ex1 : G.ex 1 = .ref (He.ga G.K "NoRow"))
    (g1 : (defScope st).names.lookup ("row_of" : Str) = some .globalImplicit) (g2 : (defScope st).names.lookup ("NoRow" : Str) = some .globalImplicit)
    (l0 : (defScope st).names.lookup ("plan" : Str) = some .local) (l1 : (defScope st).names.lookup ("text" : Str) = some .local) (l2 : (defScope st).names.lookup ("found" : Str) = some .local) :
    FnOk P w G.K mg base (L2N.CX P w) (k + 1) (He.ga G.K "_law_read") fd ["plan", "text"] (spOf G .v 2 (readD g)) := by
  obtain ⟨oc, od, dV, kV, doc, pm, an, cdv, ct, osl, rfl, lk, hcd, _, _⟩ := F.ex
  have nd : (["plan", "text", "found"] : List Str).Nodup := by decide
  refine fn_of lk hcd S (fun vs H Q E ⟨F, zs, ds, st, _, _, r, h, _⟩ => r.length.trans h) fun A outer s H vs Q E hr ⟨F0, zs, ds, st0, s1, S1, r, h, p⟩ => ?_
  rw [hbd]
  refine ⟨_, pss_cons (L2N.ps_try_many (X := cxOf (L2N.CX P w) P w G.K mg base ["plan", "text", "found"] "_law_read" (defScope st) (He.ga G.K "_law_read") cdv A outer s H E) (Wout := fun cls d _ H => E cls d H)
      (tb := fun W D σ H' => ∃ Ech : XK, (∀ cls d σ' H2, Ech cls d H2 → σ'.length = 3 → W cls d σ' H2) ∧ TEk G Ech ⟨F0, H, zs⟩ [] .v (eCall g (aCons (eVar 0) (aCons (eVar 1) aNil))) σ H' fun v H1 => D.nx (σ.set 2 (some v)) H1)
      (l := [(.ref (He.ga G.K "NoRow"), fun _ _ _ D σ H' => D.nx (σ.set 2 (some .non)) H')])
      rfl rfl (L2N.takes_of rfl rfl rfl rfl) (fun W pn xe tk _ => ?_) (.cons ⟨g2, by decide, .inl x1⟩ (fun a oe cls d pn _ _ => ?_) .nil)) (pss_one (ps_ret (pe_var (i := 2) rfl (.inl l2) (by decide) (by decide)))), ?_⟩
  · refine ⟨fun pins s' σ H' D I h' => ?_⟩
    obtain ⟨Ech, hW, h'⟩ := h'
    have hx : Passes (L2N.CX P w) ((cxOf (L2N.CX P w) P w G.K mg base ["plan", "text", "found"] "_law_read" (defScope st) (He.ga G.K "_law_read") cdv A outer s H E).tr pn xe) Ech := L2N.passes_call (takes_len tk) fun cls d σ' H' e el => hW cls d σ' H' e el
    have cl := c_callG (X := (cxOf (L2N.CX P w) P w G.K mg base ["plan", "text", "found"] "_law_read" (defScope st) (He.ga G.K "_law_read") cdv A outer s H E).tr pn xe) (N := ⟨F0, H, zs⟩) (O := []) (p := q 1) (pos := q 4) FR hr hx
      (c_acons (c_var (i := 0) (pos := q 2) rfl (by decide) (.inl l0)) (c_acons (c_var (i := 1) (pos := q 3) rfl (by decide) (.inl l1)) c_anil)) rfl g1 (Nat.le_refl _)
    exact (pss_one (ps_set (i := 2) (pos := q 5) (pos' := q 0) nd rfl (.inl l2) cl rfl (.inr l2))).run pins s' σ H' D I h'
  · exact PSs.imp (pss_one (ps_set (X := (cxOf (L2N.CX P w) P w G.K mg base ["plan", "text", "found"] "_law_read" (defScope st) (He.ga G.K "_law_read") cdv A outer s H E).suite a ((a, oe) :: pn)) (i := 2) (pos := q 9) (pos' := q 7) nd rfl (.inl l2) (pe_non (pos := q 8) (j := j)) rfl (.inr l2))) fun D σ H' h => h
  · have rel := rel_start (G := G) (Nm := (["plan", "text", "found"] : List Str)) s1 S1 r (by show _ ≤ 3; omega)
    refine ⟨fun cls d H' => cls = G.ex 1 ∧ d = none ∧ Q .non H', fun cls d σ' H2 hE hl => ?_, env0 3 ds, st0, F0, zs, rel, ?_⟩
    · obtain ⟨rfl, rfl, hQ⟩ := hE
      refine ⟨true, by rw [ex1]; exact xm, fun _ a _ => ?_, fun z => by cases z⟩
      refine ⟨.non, ?_, hQ⟩
      rw [List.getElem?_set_self (by omega)]
    · match ds, h, p with
      | [d0, d1], _, p =>
        have p : Post G E .v F0 H zs (match g [d0, d1] st0 with | .ok d st1 => .ok d st1 | .exc c st1 => if c = 1 then .ok .non st1 else .bad | .bad => .bad) Q := p
        show Post G _ .v F0 H zs (g [d0, d1] st0) _
        cases e : g [d0, d1] st0 with
        | bad => rw [e] at p; exact p
        | ok d st1 =>
          rw [e] at p
          intro v H' F' zs' x S q
          refine ⟨v, ?_, p v H' F' zs' x S q⟩
          rw [List.getElem?_set_self (by simp [L2.start]; have := r.length; simp at this; omega)]
        | exc c st1 =>
          rw [e] at p
          by_cases hc : c = 1
          · simp only [hc, if_true] at p
            intro H' F' zs' x S
            exact ⟨by rw [hc], rfl, p .non H' F' zs' x S .non⟩
          · simp only [hc, if_false] at p; exact p.elim
theorem Fd.read {q : Nat → Pos} {j : Nat} (F : Fh G.K "_law_read" st) (hm : mg "_law_read" = some (.ref (He.ga G.K "_law_read"))) (S : FnScope ["plan", "text", "found"] ["plan", "text"] (defScope st))
    (hbi : ∀ (kV doc pm : Value) (an : Option Addr) (cdv ct : Value) (us : List Value), us.length = (["plan", "text"] : List Str).length → bindArgs (PySem.W.fnOf "_law_read" "_law_read" (defArgs st) (defBody st) (defScope st) .none kV doc pm an cdv ct) ⟨us, []⟩ = pure ((["plan", "text"] : List Str).zip us))
    (hbd : defBody st = readB q j)
    (FR : Fd G P w mg base "row_of" .v k ["plan", "text"] g) (x1 : mg "NoRow" = some (.ref (He.ga G.K "NoRow"))) (xm : PySem.W.exmOne G.K (.ref (He.ga G.K "NoRow")) (.ref (He.ga G.K "NoRow")) = some true) (ex1 : G.ex 1 = .ref (He.ga G.K "NoRow"))
    (g1 : (defScope st).names.lookup ("row_of" : Str) = some .globalImplicit) (g2 : (defScope st).names.lookup ("NoRow" : Str) = some .globalImplicit)
    (l0 : (defScope st).names.lookup ("plan" : Str) = some .local) (l1 : (defScope st).names.lookup ("text" : Str) = some .local) (l2 : (defScope st).names.lookup ("found" : Str) = some .local) :
    Fd G P w mg base "_law_read" .v (k + 1) ["plan", "text"] (readD g) := by
  obtain ⟨fd, F⟩ := F
  exact ⟨⟨fd, isFn_of F, read_fn F S hbd FR x1 xm ex1 g1 g2 l0 l1 l2, F.bindsN hbi⟩, hm, F.kp, fun ds st h => by unfold readD; exact if_neg h⟩
end
end Dn

/-! Dn34: sorted(set(tuple of texts)). -/
namespace Dn
open PySem PySem.Spec PyProof.Rows L2
section
variable {P : Program} {w : World} {A : Around} {E : Value → Shared → Prop} {s : Shared}
set_option maxRecDepth 100000 in
set_option maxHeartbeats 3200000 in
theorem call_set_tupS {l : Addr} {items : Array Value} (ns : List Str) {Q : Value → Shared → Prop} (hh : A.handled = none) (hl : s.heap.IsTuple l items) (hit : StrsAre items.toList ns) (hb : ns.length + 1 < scanBound)
    (h : ∀ (h' : Heap) (tk c : Nat), SetX P w h' s.heap.objs.size (fun j => decide (j ∈ ns)) c → c ≤ ns.length → (∀ b o, s.heap.get? b = some o → h'.get? b = some o) → Q (.ref s.heap.objs.size) { s with heap := h', toks := tk }) :
    wpAny (model P w) A (call (.type "set") [.ref l]) Q E s := by
  have hisz : items.size = ns.length := by
    have q := strs_len hit
    rw [Array.length_toList] at q
    exact q
  obtain ⟨c, tl, hmro⟩ := F.called_set.mro
  have hmade := F.called_set.made
  have hsub := F.called_set.sub
  refine wpAny_call (codeAny_of_tree ?_)
  show wpAny _ _ (callAny (.type "set") _) _ _ _
  refine wpAny_pure ⟨Code.quiet_builtin _ (by decide +kernel), codeAny_builtin F.entry_type_call ?_⟩
  rw [Around.under_plain (weight_type_call_type "set" [.ref l] []) rfl]
  have h1 := F.called_set.notType
  have h2 := F.called_set.canCreate
  have hct := F.typeCall_set_1 (.ref l)
  repeat (any_goals (first | assumption | wp_step))

  refine codeAny_mono (code_set_led1 (.ref l) (E := E) (Q₁ := fun obj s₁ => obj = .ref s.heap.objs.size ∧ s₁ = { s with heap := s.heap.push { cls := .type "set", dict := none, data := .set #[] 0 (.fresh 0 0 (!w.params.followText "set-order")) } }) ⟨rfl, rfl⟩) fun r s₁ hr => ?_
  cases r with
  | error e => exact hr
  | ok fl =>
    cases fl with
    | ret obj =>
      obtain ⟨rfl, rfl⟩ := hr
      have hS : (s.heap.push { cls := .type "set", dict := none, data := .set #[] 0 (.fresh 0 0 (!w.params.followText "set-order")) }).get? s.heap.objs.size = some { cls := .type "set", dict := none, data := .set #[] 0 (.fresh 0 0 (!w.params.followText "set-order")) } := Heap.get?_push_size _ rfl
      have hT : Shared.TypeIs { s with heap := s.heap.push { cls := .type "set", dict := none, data := .set #[] 0 (.fresh 0 0 (!w.params.followText "set-order")) } } (.ref s.heap.objs.size) "set" := ⟨_, hS, rfl⟩
      have hli := F.called_set.init.lookup
      have hbi := F.called_set.init.bind (.ref s.heap.objs.size)
      repeat (any_goals (first | assumption | wp_step))

      refine codeAny_mono (codeAny_call_builtin (R := wants (fun r s₂ => r = .none ∧ ∃ h' tk c, s₂ = { s with heap := h', toks := tk } ∧ SetX P w h' s.heap.objs.size (fun j => decide (j ∈ ns)) c ∧ c ≤ ns.length ∧
          (∀ b o, s.heap.get? b = some o → h'.get? b = some o)) E) F.called_set.init.plain F.entry_set_init (check_set_init_1 hT ?_)) fun r₂ s₂ hr₂ => ?_
      · obtain ⟨ol, hol, hcl, nl, hdl⟩ := hl
        obtain ⟨ocls, odict, odata, oslots⟩ := ol
        simp only at hcl hdl
        subst hcl; subst hdl
        have hol' : (s.heap.push { cls := .type "set", dict := none, data := .set #[] 0 (.fresh 0 0 (!w.params.followText "set-order")) }).get? l = some { cls := .type "tuple", dict := odict, data := .seq items nl, slots := oslots } := Heap.get?_push_of_some _ hol
        have hsls := F.sub_tuple_set
        have hslf := F.sub_tuple_frozenset
        have hne : (Value.type "tuple" == Value.type "dict") = false := by decide
        have hl1 : (s.heap.push { cls := .type "set", dict := none, data := .set #[] 0 (.fresh 0 0 (!w.params.followText "set-order")) }).IsTuple l items := ⟨_, hol', rfl, nl, rfl⟩
        unfold Builtin.«set.__init__» noKeywords Builtin.Frozenset.updateFrom
        generalize hPI : pyIter = PI
        wp_walk
        subst hPI

        refine wpAny_pyIter_tuple hl1 ?_
        refine wpAny_bind (wpAny_runValue ?_)
        have hlS : l < s.heap.objs.size := Heap.lt_size hol
        have hh3 : A.in1.in1.in1.handled = none := by simp [hh]
        have hz1 : (s.heap.push { cls := .type "set", dict := none, data := .set #[] 0 (.fresh 0 0 (!w.params.followText "set-order")) }).objs.size = s.heap.objs.size + 1 := Heap.size_push ..
        have hneI : l ≠ (s.heap.push { cls := .type "set", dict := none, data := .set #[] 0 (.fresh 0 0 (!w.params.followText "set-order")) }).objs.size := by
          rw [Heap.size_push]; exact Nat.ne_of_lt (Nat.lt_succ_of_lt hlS)
        have hSf : s.heap.objs.size ∉ [(s.heap.push { cls := .type "set", dict := none, data := .set #[] 0 (.fresh 0 0 (!w.params.followText "set-order")) }).objs.size, l] := by
          rw [Heap.size_push]; simp only [List.mem_cons, List.mem_singleton, List.not_mem_nil, or_false, not_or]
          exact ⟨Nat.ne_of_lt (Nat.lt_succ_self _), Nat.ne_of_gt hlS⟩
        have hval : ∀ (i : Nat) (v : Value), items[i]? = some v → ∃ k t, ns[i]? = some k ∧ v = .str k t := fun i v hv => by
          exact strs_get hit i v (by rw [Array.getElem?_toList]; exact hv)
        refine set_update_strs ((Walks.tuple hh3 _ l hneI items).toS) s.heap.objs.size
          hSf ns hisz hb hval (items.size - 0) 0 _ (by omega) (Nat.zero_le _)
          ⟨⟨_, Heap.get?_push_size _ rfl, rfl, rfl⟩, (hl1.push _)⟩ ?hS0 ?hR
        case hS0 =>
          have hget : ((s.heap.push { cls := .type "set", dict := none, data := .set #[] 0 (.fresh 0 0 (!w.params.followText "set-order")) }).push { cls := .type "tuple_iterator", data := .fields #[.ref l, .int 0 0] }).get? s.heap.objs.size
              = some { cls := .type "set", dict := none, data := .set #[] 0 (.fresh 0 0 (!w.params.followText "set-order")) } := Heap.get?_push_of_some _ hS
          exact ⟨0, Nat.le_refl 0, setX_new_at hget⟩
        case hR =>
          intro s' c' hm hc' hS'
          obtain ⟨h', g2, d', tk', os'⟩ := s'
          have eg : g2 = s.gens := hm.gens
          have ed : d' = s.drawn := hm.drawn
          have eo : os' = s.os := hm.os
          subst eg; subst ed; subst eo
          show wpAny _ _ _ _ _ _
          refine wpAny_pure ?_
          show wpAny _ _ (ret Value.none) _ _ _
          rw [hisz] at hc'
          refine wpAny_pure ⟨rfl, h', tk', c', rfl, hS', hc', fun b o e => ?_⟩
          have hb0 : b < s.heap.objs.size := Heap.lt_size e
          have hb1 : b ≠ s.heap.objs.size := Nat.ne_of_lt hb0
          have hb2 : b ≠ (s.heap.push { cls := .type "set", dict := none, data := .set #[] 0 (.fresh 0 0 (!w.params.followText "set-order")) }).objs.size := by
            rw [Heap.size_push]; exact Nat.ne_of_lt (Nat.lt_succ_of_lt hb0)
          exact hm.heap b o (by simp only [List.mem_cons, List.mem_singleton, List.not_mem_nil, or_false, not_or]; exact ⟨hb1, hb2⟩) (Heap.get?_push_of_some _ (Heap.get?_push_of_some _ e))

      · cases r₂ with
        | error e => exact hr₂
        | ok fl₂ =>
          cases fl₂ with
          | ret r =>
            obtain ⟨rfl, h', tk, c', rfl, hS', hc', hk'⟩ := hr₂
            repeat (any_goals (first | assumption | wp_step))
            exact h _ _ _ hS' hc' hk'
          | _ => exact hr₂.elim
    | _ => exact hr.elim

end
section
variable {X : Cx}
/-- set(t), t a tuple of texts -/
def rSetOfST (K : PySem.W.Frag) (P : Program) (w : World) : List V → Hp → VK → Prop := fun xs H Q => ∃ (l : Addr) (ns : List Str), xs = [V.ref l] ∧ SqT K H l (ns.map V.str) ∧ ns.length + 1 < scanBound ∧
  ∀ a n, H a = none → n ≤ ns.length → Q (.ref a) (upd H a (SetSO P w a (fun j => decide (j ∈ ns)) n))
theorem cr_setOfST (hc : X.calm = true) : CallR X (.type "set") (rSetOfST X.K X.prog X.w) := by
  intro pins s σ H xs us Q I r h
  obtain ⟨l, ns, rfl, hl, hf, q⟩ := h
  rw [Vals.ref1 r]
  obtain ⟨its, rv, pl, hz⟩ := I.tuple hl
  have hn : H s.heap.objs.size = none := I.hok.fresh (Nat.le_refl _)
  refine call_set_tupS (P := X.prog) (w := X.w) ns (I.ok.hd hc) pl (by simpa using rv.strs) hf fun h' tk c R hc k => ?_
  exact ⟨.ref s.heap.objs.size, _, I.laid (t' := tk) k (Nat.le_refl _) (setSO_new R), rfl, q _ c hn hc⟩
end
section
variable {G : Gc} {E : XK} {N : En} {O : List Nat} {X : Cx} {e a b c f : Expr} {es : List Expr} {m ma mb mc : ME} {ms : MA} {kd rk : Kd} {pos p p2 q1 apos cpos : Pos} {x : Str} {i : Nat}
theorem c_sortSetT (hK : X.K = G.K) (hc : X.calm = true) (hg : Gl X "sorted") (hm : X.mg "sorted" = none) (hg2 : Gl X "set") (hm2 : X.mg "set" = none) (ha : PE X a (TEk G E N O .b ma)) (h1 : starEach [a] X.env = (false, eval a X.env) :: starEach [] X.env := by rfl)
    (h2 : starEach [.Call (.Name "set" p2) [a] [] q1] X.env = (false, eval (.Call (.Name "set" p2) [a] [] q1) X.env) :: starEach [] X.env := by rfl) : PE X (.Call (.Name "sorted" p) [.Call (.Name "set" p2) [a] [] q1] [] pos) (TEk G E N O .o (eA sortSetTD (aCons ma aNil))) := by
  have inner : PE X (.Call (.Name "set" p2) [a] [] q1) (tCB (rSetOfST G.K X.prog X.w) (TAk G E N O .b (aCons ma aNil))) :=
    pe_callTy (by rw [← hK]; exact cr_setOfST hc) hg2 hm2 PyProof.Rows.boot_set (c_acons ha c_anil (hs := h1)) (he := h1) (hpl := by rfl)
  refine PE.imp (pe_callB (cr_sortedSetS hc) hg hm PyProof.Rows.boot_sorted (pa_cons inner pa_nil (hs := h2)) (he := h2) (hpl := by rfl)) fun σ H Q ⟨env, st, F, zs, rel, p⟩ => ?_
  refine ⟨env, st, F, zs, rel, ?_⟩
  have p : Post G E .o F H zs ((aCons ma aNil env st).bind fun xs st => ofOpt (sortSetTD xs) st) Q := p
  cases e : aCons ma aNil env st with
  | exc c st1 => rw [e] at p; exact p
  | bad => rw [e] at p; exact p
  | ok ds st1 =>
    rw [e] at p
    refine fun vs H1 F1 zs1 x1 S1 q1 => ?_
    obtain ⟨d, e1, k⟩ := post_ofOpt S1 (p.back x1)
    have s := x1.sub
    have hx : Paired (Sh G.K F1 H1 zs1) vs ds := q1
    match ds, hx, e1 with
    | [.tup ys], hx, hg =>
      obtain ⟨x, rfl, h⟩ := sh1 hx
      obtain ⟨a, vs, rfl, q, r, _⟩ := h.tup
      have hg : ((strsD ys).bind fun ls => if ls.length < 63 then some (Dn.D.list ((nubS ls).map Dn.D.str)) else none) = some d := hg
      cases e : strsD ys with
      | none => rw [e] at hg; cases hg
      | some ls =>
        rw [e] at hg
        have hg : (if ls.length < 63 then some (Dn.D.list ((nubS ls).map Dn.D.str)) else none) = some d := hg
        split at hg
        · rename_i h64
          cases hg
          rw [strs_of e] at r
          obtain ⟨ss, rfl, e2, e3⟩ := r.strsV
          have hl : ss.length = ls.length := by rw [← e2, List.length_map]
          refine ⟨a, ss, rfl, same_seqT s q, by rw [hl]; unfold scanBound; omega, fun b n hb hn => ?_⟩
          refine ⟨b, _, n, rfl, upd_same, by omega, fun ns p' so nd mem hlen hp => ?_⟩
          have inj : ∀ x y : Str, x.cps.toList = y.cps.toList → x = y := fun x y z => TL.ext_tl z
          have eq : ns.map (fun x => x.cps.toList) = nubS ls := by
            refine nubS_of (sortedS_T so) (List.pairwise_map.mpr (nd.imp fun hne z => hne (inj _ _ z))) fun l => ?_
            rw [← e2]
            constructor
            · rintro hl
              obtain ⟨x, hx, rfl⟩ := List.mem_map.mp hl
              exact List.mem_map.mpr ⟨x, of_decide_eq_true ((mem x).mp hx), rfl⟩
            · rintro hl
              obtain ⟨x, hx, rfl⟩ := List.mem_map.mp hl
              exact List.mem_map.mpr ⟨x, (mem x).mpr (decide_eq_true hx), rfl⟩
          have ok : ∀ x ∈ ns, StrOk x.cps.toList := fun x hx => e3 _ (by rw [← e2]; exact List.mem_map.mpr ⟨x, of_decide_eq_true ((mem x).mp hx), rfl⟩)
          have hlt : (nubS ls).length ≤ SZ := by
            rw [← eq, List.length_map, hlen]; exact small_sz (by omega)
          have hbp : b ≠ p' := fun z => by rw [z, upd_same] at hp; cases hp
          have g1 : Grw F1 H1 F1 (upd H1 b (SetSO X.prog X.w b (fun j => decide (j ∈ ss)) n)) := Grw.oneH s hb
          refine k_newLst g1.sub (S1.grow g1) (fun v H' F' g2 r => k v H' F' (g1.trans g2) ?_) (eq ▸ rp_strs ok) (by rw [List.length_map]; exact hlt) hp
          obtain ⟨a', rfl, r1, r2, r3, r4⟩ := r
          exact ⟨a', rfl, fun o e n => r1 o (g1.h _ _ e) n, r2, r3, r4⟩
        · cases hg
/-! ### dict of pairs -/
end
end Dn

namespace Dn
def m_law_cell_at : MS := (sSeq (sIf (e2 ltD (eVar 1) (eA lenD (aCons (eVar 0) aNil))) (sRet (e2 idxD (eVar 0) (eVar 1))) sSkip) (sRet (eC (.int 0))))
def d_law_cell_at : List D → Sto → R D := runDef 2 2 m_law_cell_at

def m_law_mixed : MS := (sSeq (sAsg (gN 2) (e2 modD (e2 mulD (e2 addD (e2 addD (eCall d_law_cell_at (aCons (eVar 0) (aCons (eVar 1) aNil))) (e2 mulD (eC (.int 7919)) (eVar 1))) (eC (.int 1))) (eC (.int 48271))) (eC (.int 2147483647)))) (sRet (e2 modD (e2 addD (e2 addD (e2 mulD (eVar 2) (eVar 2)) (e2 mulD (eC (.int 7)) (eVar 2))) (eVar 1)) (eC (.int 2147483629)))))
def d_law_mixed : List D → Sto → R D := runDef 2 3 m_law_mixed

def m_law_drawn : MS := (sSeq (sAsg (gN 2) (e2 modD (e2 mulD (e2 addD (e2 addD (eVar 0) (e2 mulD (eC (.int 104729)) (eVar 1))) (eC (.int 17))) (eC (.int 69621))) (eC (.int 2147483647)))) (sRet (e2 modD (e2 addD (e2 addD (e2 mulD (eVar 2) (eVar 2)) (e2 mulD (eC (.int 3)) (eVar 2))) (eVar 1)) (eC (.int 2147483629)))))
def d_law_drawn : List D → Sto → R D := runDef 2 3 m_law_drawn

def m_law_name : MS := (sSeq (sIf (e2 gtD (e2 modD (eVar 0) (eC (.int 5))) (eC (.int 0))) (sRet (e2 idxD (eA dispT (aCons (eC (.str [97])) (aCons (eC (.str [98])) (aCons (eC (.str [99, 99])) (aCons (eC (.str [114, 111, 111, 116])) (aCons (eC (.str [100, 100])) (aCons (eC (.str [101])) (aCons (eC (.str [102])) aNil)))))))) (e2 modD (e2 fdivD (eVar 0) (eC (.int 5))) (eC (.int 7))))) sSkip) (sSeq (sAsg (gN 1) (eC (.str [97, 98, 99, 100, 101, 102, 103, 104, 105, 106, 107, 108, 109, 110, 111, 112, 113, 114, 115, 116, 117, 118, 119, 120, 121, 122]))) (sRet (eM isStrD joinD (eC (.str [])) (aCons (eComp (iRange (e2 addD (eC (.int 1)) (e2 modD (e2 fdivD (eVar 0) (eC (.int 5))) (eC (.int 5))))) [2] (gN 2) (eC (.bool true)) (e2 idxD (eVar 1) (e2 modD (e2 fdivD (eCall d_law_drawn (aCons (eVar 0) (aCons (e2 addD (eC (.int 70)) (eVar 2)) aNil))) (eC (.int 4))) (eC (.int 26))))) aNil)))))
def d_law_name : List D → Sto → R D := runDef 1 3 m_law_name

def m_law_plan : MS := (sSeq (sAsg (gN 1) (e2 modD (e2 fdivD (eVar 0) (eC (.int 8))) (e2 idxD (eA dispT (aCons (eC (.int 1000)) (aCons (eC (.int 5)) aNil))) (e2 modD (eVar 0) (eC (.int 2)))))) (sSeq (sAsg (gN 2) (e2 addD (eVar 1) (e2 modD (e2 fdivD (eVar 0) (eC (.int 4096))) (e2 subD (eC (.int 1000)) (eVar 1))))) (sSeq (sAsg (gN 3) (eComp (iRange (e2 addD (eC (.int 1)) (e2 modD (e2 fdivD (eVar 0) (eC (.int 2))) (eC (.int 3))))) [4] (gN 4) (eC (.bool true)) (eCall d_law_name (aCons (e2 fdivD (eCall d_law_drawn (aCons (eVar 0) (aCons (e2 addD (eC (.int 60)) (eVar 4)) aNil))) (eC (.int 4))) aNil)))) (sRet (eA dispT (aCons (eVar 1) (aCons (eVar 2) (aCons (eA tupleD (aCons (eA sortSetD (aCons (eVar 3) aNil)) aNil)) aNil))))))))
def d_law_plan : List D → Sto → R D := runDef 1 5 m_law_plan

def m_law_row : MS := (sSeq (sAsg (gT [2, 3, 4]) (eVar 0)) (sSeq (sAsg (gN 5) (eCall d_law_name (aCons (e2 fdivD (eVar 1) (eC (.int 3))) aNil))) (sSeq (sIf (e2 eqD (e2 modD (eVar 1) (eC (.int 3))) (eC (.int 0))) (sAsg (gN 5) (eC .non)) sSkip) (sSeq (sAsg (gN 6) (eCall d_law_name (aCons (e2 fdivD (eCall d_law_drawn (aCons (eVar 1) (aCons (eC (.int 1)) aNil))) (eC (.int 4))) aNil))) (sSeq (sAsg (gN 7) (e2 addD (eVar 2) (e2 modD (e2 fdivD (eVar 1) (eC (.int 64))) (e2 addD (e2 subD (eVar 3) (eVar 2)) (eC (.int 1)))))) (sRet (eA dispT (aCons (eVar 6) (aCons (eVar 5) (aCons (eVar 7) (aCons (e2 idxD (eVar 4) (e2 modD (e2 fdivD (eVar 1) (eC (.int 8))) (eA lenD (aCons (eVar 4) aNil)))) aNil)))))))))))
def d_law_row : List D → Sto → R D := runDef 2 8 m_law_row
end Dn

namespace Dn
def m_law_rows : MS := (sSeq (sAsg (gN 3) (eC (.dict []))) (sSeq (sFor (iRange (e2 modD (eVar 1) (e2 addD (eVar 2) (eC (.int 1))))) (gN 4) (sSeq (sAsg (gN 5) (eCall d_law_row (aCons (eVar 0) (aCons (e2 fdivD (eCall d_law_drawn (aCons (eVar 1) (aCons (e2 addD (eC (.int 40)) (eVar 4)) aNil))) (eC (.int 4))) aNil)))) (sUpd 3 isDictD putD (aCons (eVar 5) (aCons (e2 idxD (eVar 5) (eC (.int 0))) aNil))))) (sRet (eA tupleD (aCons (eComp (iSeq (eA sortD (aCons (eVar 3) aNil))) [6] (gN 6) (eC (.bool true)) (e2 idxD (eVar 3) (eVar 6))) aNil)))))
def d_law_rows : List D → Sto → R D := runDef 3 7 m_law_rows

def m_by_keys : MS := (sRet (eA dictD (aCons (eComp (iSeq (eVar 0)) [1] (gN 1) (eC (.bool true)) (eA dispT (aCons (e2 idxD (eVar 1) (eC (.int 0))) (aCons (eVar 1) aNil)))) aNil)))
def d_by_keys : List D → Sto → R D := runDefO 1 2 m_by_keys

def m_changes : MS := (sSeq (sAsg (gN 2) (eCall d_by_keys (aCons (eVar 0) aNil))) (sRet (eA tupleD (aCons (eComp (iSeq (eVar 1)) [3] (gN 3) (e2 neD (eM isDictD getD3 (eVar 2) (aCons (e2 idxD (eVar 3) (eC (.int 0))) (aCons (eC .non) aNil))) (eVar 3)) (eA dispT (aCons (e2 idxD (eVar 3) (eC (.int 0))) (aCons (eM isDictD getD3 (eVar 2) (aCons (e2 idxD (eVar 3) (eC (.int 0))) (aCons (eC .non) aNil))) (aCons (eVar 3) aNil))))) aNil))))
def d_changes : List D → Sto → R D := runDef 2 4 m_changes

def m_as_rows : MS := (sRet (eA tupleD (aCons (eComp (iSeq (eA sortD (aCons (eVar 0) aNil))) [1] (gN 1) (eC (.bool true)) (e2 idxD (eVar 0) (eVar 1))) aNil)))
def d_as_rows : List D → Sto → R D := runDef 1 2 m_as_rows

def m_put : MS := (sSeq (sAsg (gN 2) (eCall d_by_keys (aCons (eVar 0) aNil))) (sSeq (sUpd 2 isDictD updateD (aCons (eCall d_by_keys (aCons (eVar 1) aNil)) aNil)) (sRet (eCall d_as_rows (aCons (eVar 2) aNil)))))
def d_put : List D → Sto → R D := runDef 2 3 m_put

def m_back : MS := (sSeq (sAsg (gN 2) (eCall d_by_keys (aCons (eVar 0) aNil))) (sSeq (sFor (iSeq (eVar 1)) (gT [3, 4, 5]) (sSeq (sIf (e2 neD (eM isDictD getD3 (eVar 2) (aCons (eVar 3) (aCons (eC .non) aNil))) (eVar 5)) (sRaise 2) sSkip) (sSeq (sUpd 2 isDictD popKD (aCons (eVar 3) aNil)) (sIf (e2 notN2 (eVar 4) (eC .non)) (sUpd 2 isDictD putD (aCons (eVar 4) (aCons (eVar 3) aNil))) sSkip)))) (sRet (eCall d_as_rows (aCons (eVar 2) aNil)))))
def d_back : List D → Sto → R D := runDef 2 6 m_back

def m_law_store : MS := (sSeq (sAsg (gN 2) (eC (.dict []))) (sSeq (sFor (iRange (e2 modD (eVar 1) (eC (.int 7)))) (gN 3) (sSeq (sAsg (gN 4) (eCall d_law_row (aCons (eVar 0) (aCons (e2 fdivD (eCall d_law_drawn (aCons (eVar 1) (aCons (eVar 3) aNil))) (eC (.int 4))) aNil)))) (sUpd 2 isDictD putD (aCons (eVar 4) (aCons (e2 idxD (eVar 4) (eC (.int 0))) aNil))))) (sRet (eA tupleD (aCons (eComp (iSeq (eA sortD (aCons (eVar 2) aNil))) [5] (gN 5) (eC (.bool true)) (e2 idxD (eVar 2) (eVar 5))) aNil)))))
def d_law_store : List D → Sto → R D := runDef 2 6 m_law_store
end Dn

namespace Dn
def m_is_amount : MS := (sRet (eAnd (e1 (instD isIntD) (eVar 0)) (eAnd (eNot (e1 (instD isBoolD) (eVar 0))) (eChain leD leD (eC (.int 0)) (eVar 0) (eC (.int 999))))))
def d_is_amount : List D → Sto → R D := runDef 1 1 m_is_amount

def m_is_name : MS := (sRet (eAnd (e1 (instD isStrD) (eVar 0)) (eAnd (eChain leD leD (eC (.int 1)) (eA lenD (aCons (eVar 0) aNil)) (eC (.int 5))) (eA allD (aCons (eComp (iSeq (eVar 0)) [1] (gN 1) (eC (.bool true)) (e2 inD (eVar 1) (eC (.str [97, 98, 99, 100, 101, 102, 103, 104, 105, 106, 107, 108, 109, 110, 111, 112, 113, 114, 115, 116, 117, 118, 119, 120, 121, 122])))) aNil)))))
def d_is_name : List D → Sto → R D := runDef 1 2 m_is_name

def m_is_plan : MS := (sSeq (sIf (eOr (eNot (e1 (instD isTupD) (eVar 0))) (eOr (e2 neD (eA lenD (aCons (eVar 0) aNil)) (eC (.int 3))) (eOr (eNot (eCall d_is_amount (aCons (e2 idxD (eVar 0) (eC (.int 0))) aNil))) (eNot (eCall d_is_amount (aCons (e2 idxD (eVar 0) (eC (.int 1))) aNil)))))) (sRet (eC (.bool false))) sSkip) (sSeq (sAsg (gN 1) (e2 idxD (eVar 0) (eC (.int 2)))) (sSeq (sIf (eOr (e2 gtD (e2 idxD (eVar 0) (eC (.int 0))) (e2 idxD (eVar 0) (eC (.int 1)))) (eOr (eNot (e1 (instD isTupD) (eVar 1))) (eNot (eChain leD leD (eC (.int 1)) (eA lenD (aCons (eVar 1) aNil)) (eC (.int 3)))))) (sRet (eC (.bool false))) sSkip) (sRet (eAnd (eA allD (aCons (eComp (iSeq (eVar 1)) [2] (gN 2) (eC (.bool true)) (eCall d_is_name (aCons (eVar 2) aNil))) aNil)) (eA allD (aCons (eComp (iA zipA (aCons (eSlice (eVar 1) oNone (oSome (e1 negD (eC (.int 1))))) (aCons (eSlice (eVar 1) (oSome (eC (.int 1))) oNone) aNil))) [3, 4] (gT [3, 4]) (eC (.bool true)) (e2 ltD (eVar 3) (eVar 4))) aNil)))))))
def d_is_plan : List D → Sto → R D := runDef 1 5 m_is_plan

def m_is_row : MS := (sSeq (sIf (eOr (eNot (e1 (instD isTupD) (eVar 0))) (eOr (e2 neD (eA lenD (aCons (eVar 0) aNil)) (eC (.int 4))) (eNot (eCall d_is_name (aCons (e2 idxD (eVar 0) (eC (.int 0))) aNil))))) (sRet (eC (.bool false))) sSkip) (sRet (eAnd (eOr (e2 isN2 (e2 idxD (eVar 0) (eC (.int 1))) (eC .non)) (eCall d_is_name (aCons (e2 idxD (eVar 0) (eC (.int 1))) aNil))) (eAnd (eCall d_is_amount (aCons (e2 idxD (eVar 0) (eC (.int 2))) aNil)) (eCall d_is_name (aCons (e2 idxD (eVar 0) (eC (.int 3))) aNil))))))
def d_is_row : List D → Sto → R D := runDef 1 1 m_is_row
end Dn

namespace Dn
def m_amount_in : MS := (sSeq (sIf (eOr (eNot (eChain leD leD (eC (.int 1)) (eA lenD (aCons (eVar 0) aNil)) (eC (.int 3)))) (eOr (eNot (eA allD (aCons (eComp (iSeq (eVar 0)) [1] (gN 1) (eC (.bool true)) (e2 inD (eVar 1) (eC (.str [48, 49, 50, 51, 52, 53, 54, 55, 56, 57])))) aNil))) (e2 neD (eA strD (aCons (eA intD (aCons (eVar 0) aNil)) aNil)) (eVar 0)))) (sRet (eC .non)) sSkip) (sRet (eA intD (aCons (eVar 0) aNil))))
def d_amount_in : List D → Sto → R D := runDef 1 2 m_amount_in

def m_faults : MS := (sSeq (sAsg (gN 2) (eM isStrD splitD (eVar 1) (aCons (eC (.str [32])) aNil))) (sSeq (sIf (eOr (e2 neD (eA lenD (aCons (eVar 2) aNil)) (eC (.int 4))) (e2 inD (eC (.str [])) (eVar 2))) (sRet (eA dispT (aCons (eC (.str [99, 111, 117, 110, 116])) aNil))) sSkip) (sSeq (sAsg (gN 3) (eA dispL aNil)) (sSeq (sAsg (gN 4) (eCall d_amount_in (aCons (e2 idxD (eVar 2) (eC (.int 2))) aNil))) (sSeq (sIf (eNot (eCall d_is_name (aCons (e2 idxD (eVar 2) (eC (.int 0))) aNil))) (sUpd 3 isListD appendD (aCons (eC (.str [107, 101, 121])) aNil)) sSkip) (sSeq (sIf (eAnd (e2 neD (e2 idxD (eVar 2) (eC (.int 1))) (eC (.str [45]))) (eNot (eCall d_is_name (aCons (e2 idxD (eVar 2) (eC (.int 1))) aNil)))) (sUpd 3 isListD appendD (aCons (eC (.str [112, 97, 114, 101, 110, 116])) aNil)) sSkip) (sSeq (sIf (eOr (e2 isN2 (eVar 4) (eC .non)) (eNot (eChain leD leD (e2 idxD (eVar 0) (eC (.int 0))) (eVar 4) (e2 idxD (eVar 0) (eC (.int 1)))))) (sUpd 3 isListD appendD (aCons (eC (.str [97, 109, 111, 117, 110, 116])) aNil)) sSkip) (sSeq (sIf (e2 ninD (e2 idxD (eVar 2) (eC (.int 3))) (e2 idxD (eVar 0) (eC (.int 2)))) (sUpd 3 isListD appendD (aCons (eC (.str [116, 97, 103])) aNil)) sSkip) (sRet (eA tupleD (aCons (eVar 3) aNil)))))))))))
def d_faults : List D → Sto → R D := runDef 2 5 m_faults

def m_row_of : MS := (sSeq (sIf (e2 gtD (eA lenD (aCons (eCall d_faults (aCons (eVar 0) (aCons (eVar 1) aNil))) aNil)) (eC (.int 0))) (sRaise 1) sSkip) (sSeq (sAsg (gL [2, 3, 4, 5]) (eM isStrD splitD (eVar 1) (aCons (eC (.str [32])) aNil))) (sSeq (sIf (e2 eqD (eVar 3) (eC (.str [45]))) (sRet (eA dispT (aCons (eVar 2) (aCons (eC .non) (aCons (eA intD (aCons (eVar 4) aNil)) (aCons (eVar 5) aNil)))))) sSkip) (sRet (eA dispT (aCons (eVar 2) (aCons (eVar 3) (aCons (eA intD (aCons (eVar 4) aNil)) (aCons (eVar 5) aNil)))))))))
def d_row_of : List D → Sto → R D := runDef 2 6 m_row_of

def m_written_key : MS := (sSeq (sAsg (gT [1, 2, 3, 4]) (eVar 0)) (sSeq (sIf (e2 isN2 (eVar 2) (eC .non)) (sRet (eA dispT (aCons (eVar 1) (aCons (eC (.str [])) (aCons (eVar 3) (aCons (eVar 4) aNil)))))) sSkip) (sRet (eVar 0))))
def d_written_key : List D → Sto → R D := runDef 1 5 m_written_key

def q_good_rows_1 : ME := (eComp (iSeq (eVar 1)) [2] (gN 2) (e2 eqD (eA lenD (aCons (eCall d_faults (aCons (eVar 0) (aCons (eVar 2) aNil))) aNil)) (eC (.int 0))) (eCall d_written_key (aCons (eCall d_row_of (aCons (eVar 0) (aCons (eVar 2) aNil))) aNil)))
def m_good_rows : MS := (sRet (eA sortSet4D (aCons q_good_rows_1 aNil)))
def d_good_rows : List D → Sto → R D := runDef 2 3 m_good_rows

def m_way_up : MS := (sSeq (sAsg (gN 2) (eA dispL (aCons (eVar 1) aNil))) (sSeq (sWhile (eAnd (e2 neD (eM isDictD getD3 (eVar 0) (aCons (e2 idxD (eVar 2) (e1 negD (eC (.int 1)))) (aCons (eC (.str [])) aNil))) (eC (.str []))) (e2 eqD (eM isListD countD (eVar 2) (aCons (e2 idxD (eVar 2) (e1 negD (eC (.int 1)))) aNil)) (eC (.int 1)))) (sUpd 2 isListD appendD (aCons (e2 idxD (eVar 0) (e2 idxD (eVar 2) (e1 negD (eC (.int 1))))) aNil))) (sRet (eVar 2))))
def d_way_up : List D → Sto → R D := runDef 2 3 m_way_up

def m_together : MS := (sSeq (sAsg (gN 2) (eCall d_way_up (aCons (eVar 0) (aCons (eVar 1) aNil)))) (sSeq (sIf (e2 gtD (eM isListD countD (eVar 2) (aCons (e2 idxD (eVar 2) (e1 negD (eC (.int 1)))) aNil)) (eC (.int 1))) (sSeq (sIf (e2 eqD (e2 idxD (eVar 2) (e1 negD (eC (.int 1)))) (eVar 1)) (sRet (eA dispT (aCons (eC (.str [114, 105, 110, 103])) aNil))) sSkip) (sRet (eA dispT (aCons (eC (.str [108, 111, 115, 116])) aNil)))) sSkip) (sSeq (sIf (e2 ninD (e2 idxD (eVar 2) (e1 negD (eC (.int 1)))) (eVar 0)) (sRet (eA dispT (aCons (eC (.str [108, 111, 115, 116])) aNil))) sSkip) (sRet (eA dispT aNil)))))
def d_together : List D → Sto → R D := runDef 2 3 m_together

def q_judged_1 : ME := (eComp (iSeq (eVar 2)) [9] (gN 9) (eC (.bool true)) (e2 idxD (eVar 9) (eC (.int 0))))
def q_judged_2 : ME := (eComp (iSeq (eVar 2)) [9] (gN 9) (e2 eqD (eM isListD countD (eVar 3) (aCons (e2 idxD (eVar 9) (eC (.int 0))) aNil)) (eC (.int 1))) (eA dispT (aCons (e2 idxD (eVar 9) (eC (.int 0))) (aCons (e2 idxD (eVar 9) (eC (.int 1))) aNil))))
def b_judged_3 : MS := (sSeq (sAsg (gN 7) (eCall d_faults (aCons (eVar 0) (aCons (eVar 6) aNil)))) (sSeq (sIf (e2 eqD (eA lenD (aCons (eVar 7) aNil)) (eC (.int 0))) (sSeq (sAsg (gN 8) (e2 idxD (eCall d_row_of (aCons (eVar 0) (aCons (eVar 6) aNil))) (eC (.int 0)))) (sIf (e2 ninD (eVar 8) (eVar 4)) (sAsg (gN 7) (eA dispT (aCons (eC (.str [116, 119, 105, 99, 101])) aNil))) (sAsg (gN 7) (eCall d_together (aCons (eVar 4) (aCons (eVar 8) aNil)))))) sSkip) (sUpd 5 isListD appendD (aCons (eVar 7) aNil))))
def m_judged : MS := (sSeq (sAsg (gN 2) (eCall d_good_rows (aCons (eVar 0) (aCons (eVar 1) aNil)))) (sSeq (sAsg (gN 3) q_judged_1) (sSeq (sAsg (gN 4) (eA dictD (aCons q_judged_2 aNil))) (sSeq (sAsg (gN 5) (eA dispL aNil)) (sSeq (sFor (iSeq (eVar 1)) (gN 6) b_judged_3) (sRet (eA tupleD (aCons (eVar 5) aNil))))))))
def d_judged : List D → Sto → R D := runDef 2 10 m_judged

def b_kept_1 : MS := (sIf (e2 eqD (eA lenD (aCons (eVar 4) aNil)) (eC (.int 0))) (sSeq (sAsg (gN 5) (eCall d_row_of (aCons (eVar 0) (aCons (eVar 3) aNil)))) (sUpd 2 isDictD putD (aCons (eVar 5) (aCons (e2 idxD (eVar 5) (eC (.int 0))) aNil)))) sSkip)
def q_kept_2 : ME := (eComp (iSeq (eA sortD (aCons (eVar 2) aNil))) [6] (gN 6) (eC (.bool true)) (e2 idxD (eVar 2) (eVar 6)))
def m_kept : MS := (sSeq (sAsg (gN 2) (eC (.dict []))) (sSeq (sFor (iA zipA (aCons (eVar 1) (aCons (eCall d_judged (aCons (eVar 0) (aCons (eVar 1) aNil))) aNil))) (gT [3, 4]) b_kept_1) (sRet (eA tupleD (aCons q_kept_2 aNil)))))
def d_kept : List D → Sto → R D := runDef 2 7 m_kept
end Dn

namespace Dn
def m_written : MS := (sSeq (sAsg (gT [1, 2, 3, 4]) (eVar 0)) (sSeq (sIf (e2 isN2 (eVar 2) (eC .non)) (sAsg (gN 2) (eC (.str [45]))) sSkip) (sRet (eM isStrD joinD (eC (.str [32])) (aCons (eA dispL (aCons (eVar 1) (aCons (eVar 2) (aCons (eA strD (aCons (eVar 3) aNil)) (aCons (eVar 4) aNil))))) aNil)))))
def d_written : List D → Sto → R D := runDef 1 5 m_written

def m_law_text : MS := (sSeq (sAsg (gN 1) (e2 idxD (eVar 0) (eC (.int 1)))) (sSeq (sIf (e2 isN2 (eVar 1) (eC .non)) (sAsg (gN 1) (eC (.str [45]))) sSkip) (sRet (e2 addD (e2 addD (e2 addD (e2 addD (e2 addD (e2 addD (e2 idxD (eVar 0) (eC (.int 0))) (eC (.str [32]))) (eVar 1)) (eC (.str [32]))) (eA strD (aCons (e2 idxD (eVar 0) (eC (.int 2))) aNil))) (eC (.str [32]))) (e2 idxD (eVar 0) (eC (.int 3)))))))
def d_law_text : List D → Sto → R D := runDef 1 2 m_law_text

def m_law_spoilt_text : MS := (sSeq (sAsg (gN 2) (eM isStrD splitD (eVar 0) (aCons (eC (.str [32])) aNil))) (sSeq (sAsg (gN 3) (e2 modD (e2 fdivD (eVar 1) (eC (.int 8))) (eA lenD (aCons (eVar 2) aNil)))) (sSeq (sAsg (gN 4) (eA dispL (aCons (eC (.str [45])) (aCons (eC (.str [97])) (aCons (eC (.str [48])) (aCons (eC (.str [48, 55])) (aCons (eC (.str [49, 48, 48, 48])) (aCons (eC (.str [57, 57, 57])) (aCons (eC (.str [115, 105, 120, 115, 105, 120])) (aCons (eC (.str [65])) (aCons (eC (.str [])) (aCons (eC (.str [45, 49])) (aCons (eC (.str [97, 32, 98])) (aCons (eC (.str [111, 107])) aNil)))))))))))))) (sSeq (sAsg (gN 5) (eA dispL (aCons (e2 addD (eSlice (eVar 2) oNone (oSome (eVar 3))) (eSlice (eVar 2) (oSome (e2 addD (eVar 3) (eC (.int 1)))) oNone)) (aCons (e2 addD (e2 addD (eSlice (eVar 2) oNone (oSome (eVar 3))) (eSlice (eVar 2) (oSome (eVar 3)) (oSome (e2 addD (eVar 3) (eC (.int 1)))))) (eSlice (eVar 2) (oSome (eVar 3)) oNone)) aNil)))) (sSeq (sUpd 5 isListD appendD (aCons (e2 addD (e2 addD (eSlice (eVar 2) oNone (oSome (eVar 3))) (eA dispL (aCons (e2 idxD (eVar 4) (e2 modD (e2 fdivD (eVar 1) (eC (.int 256))) (eC (.int 12)))) aNil))) (eSlice (eVar 2) (oSome (e2 addD (eVar 3) (eC (.int 1)))) oNone)) aNil)) (sSeq (sUpd 5 isListD appendD (aCons (e2 addD (e2 addD (eSlice (eVar 2) oNone (oSome (eVar 3))) (eA dispL (aCons (eSlice (e2 idxD (eVar 2) (eVar 3)) oNone (oSome (e1 negD (eC (.int 1))))) aNil))) (eSlice (eVar 2) (oSome (e2 addD (eVar 3) (eC (.int 1)))) oNone)) aNil)) (sSeq (sUpd 5 isListD appendD (aCons (e2 addD (e2 addD (eSlice (eVar 2) oNone (oSome (eVar 3))) (eA dispL (aCons (e2 addD (e2 idxD (eVar 2) (eVar 3)) (eC (.str [48]))) aNil))) (eSlice (eVar 2) (oSome (e2 addD (eVar 3) (eC (.int 1)))) oNone)) aNil)) (sSeq (sUpd 5 isListD appendD (aCons (e1 revD (eVar 2)) aNil)) (sRet (eM isStrD joinD (eC (.str [32])) (aCons (e2 idxD (eVar 5) (e2 modD (eVar 1) (eC (.int 6)))) aNil)))))))))))
def d_law_spoilt_text : List D → Sto → R D := runDef 2 6 m_law_spoilt_text

def b_law_heap_1 : MS := (sSeq (sAsg (gN 5) (e2 fdivD (eCall d_law_drawn (aCons (eVar 1) (aCons (e2 addD (eC (.int 10)) (eVar 4)) aNil))) (eC (.int 4)))) (sSeq (sAsg (gN 6) (eCall d_law_text (aCons (eCall d_law_row (aCons (eVar 0) (aCons (e2 fdivD (eVar 5) (eC (.int 8))) aNil))) aNil))) (sSeq (sIf (e2 eqD (e2 modD (eVar 5) (eC (.int 8))) (eC (.int 0))) (sAsg (gN 6) (eCall d_law_spoilt_text (aCons (eVar 6) (aCons (e2 fdivD (eVar 5) (eC (.int 8))) aNil)))) sSkip) (sSeq (sIf (eAnd (e2 eqD (e2 modD (eVar 5) (eC (.int 8))) (eC (.int 1))) (e2 neD (eVar 3) (eA dispT aNil))) (sAsg (gN 6) (e2 idxD (eVar 3) (e2 modD (e2 fdivD (eVar 5) (eC (.int 8))) (eA lenD (aCons (eVar 3) aNil))))) sSkip) (sAsg (gN 3) (e2 addD (eVar 3) (eA dispT (aCons (eVar 6) aNil))))))))
def m_law_heap : MS := (sSeq (sAsg (gN 3) (eA dispT aNil)) (sSeq (sFor (iRange (e2 modD (eVar 1) (e2 addD (eVar 2) (eC (.int 1))))) (gN 4) b_law_heap_1) (sRet (eVar 3))))
def d_law_heap : List D → Sto → R D := runDef 3 7 m_law_heap
end Dn

namespace Dn
def m_law_amount : MS := (sSeq (sAsg (gN 1) (eAnd (eChain leD leD (eC (.int 1)) (eA lenD (aCons (eVar 0) aNil)) (eC (.int 3))) (e2 eqD (eComp (iSeq (eVar 0)) [2] (gN 2) (eNot (eChain leD leD (eC (.str [48])) (eVar 2) (eC (.str [57])))) (eVar 2)) (eA dispL aNil)))) (sSeq (sIf (eAnd (eVar 1) (eOr (e2 eqD (eA lenD (aCons (eVar 0) aNil)) (eC (.int 1))) (e2 neD (e2 idxD (eVar 0) (eC (.int 0))) (eC (.str [48]))))) (sRet (eA intD (aCons (eVar 0) aNil))) sSkip) (sRet (e1 negD (eC (.int 1))))))
def d_law_amount : List D → Sto → R D := runDef 1 3 m_law_amount

def m_law_is_name_1 : MS := (sRet (eAnd (eChain leD leD (eC (.int 1)) (eA lenD (aCons (eVar 0) aNil)) (eC (.int 5))) (e2 eqD (eComp (iSeq (eVar 0)) [1] (gN 1) (eNot (eChain leD leD (eC (.str [97])) (eVar 1) (eC (.str [122])))) (eVar 1)) (eA dispL aNil))))
def d_law_is_name_1 : List D → Sto → R D := runDef 1 2 m_law_is_name_1

def q_law_faults_1 : ME := (eComp (iSeq (eVar 2)) [4] (gN 4) (e2 eqD (eVar 4) (eC (.str []))) (eVar 4))
def q_law_faults_2 : ME := (eComp (iA zipA (aCons (eA dispT (aCons (eC (.str [107, 101, 121])) (aCons (eC (.str [112, 97, 114, 101, 110, 116])) (aCons (eC (.str [97, 109, 111, 117, 110, 116])) (aCons (eC (.str [116, 97, 103])) aNil))))) (aCons (eVar 3) aNil))) [5, 6] (gT [5, 6]) (eVar 6) (eVar 5))
def m_law_faults : MS := (sSeq (sAsg (gN 2) (eM isStrD splitD (eVar 1) (aCons (eC (.str [32])) aNil))) (sSeq (sIf (eOr (e2 neD (eA lenD (aCons (eVar 2) aNil)) (eC (.int 4))) (e2 neD q_law_faults_1 (eA dispL aNil))) (sRet (eA dispT (aCons (eC (.str [99, 111, 117, 110, 116])) aNil))) sSkip) (sSeq (sAsg (gN 3) (eA dispL (aCons (eNot (eCall d_law_is_name_1 (aCons (e2 idxD (eVar 2) (eC (.int 0))) aNil))) (aCons (eAnd (e2 neD (e2 idxD (eVar 2) (eC (.int 1))) (eC (.str [45]))) (eNot (eCall d_law_is_name_1 (aCons (e2 idxD (eVar 2) (eC (.int 1))) aNil)))) aNil)))) (sSeq (sUpd 3 isListD appendD (aCons (eNot (eChain leD leD (e2 idxD (eVar 0) (eC (.int 0))) (eCall d_law_amount (aCons (e2 idxD (eVar 2) (eC (.int 2))) aNil)) (e2 idxD (eVar 0) (eC (.int 1))))) aNil)) (sSeq (sUpd 3 isListD appendD (aCons (e2 ninD (e2 idxD (eVar 2) (eC (.int 3))) (e2 idxD (eVar 0) (eC (.int 2)))) aNil)) (sRet (eA tupleD (aCons q_law_faults_2 aNil))))))))
def d_law_faults : List D → Sto → R D := runDef 2 7 m_law_faults

def m_law_row_of : MS := (sSeq (sAsg (gN 1) (eM isStrD splitD (eVar 0) (aCons (eC (.str [32])) aNil))) (sSeq (sIf (e2 eqD (e2 idxD (eVar 1) (eC (.int 1))) (eC (.str [45]))) (sUpd 1 isListD putD (aCons (eC .non) (aCons (eC (.int 1)) aNil))) sSkip) (sRet (eA dispT (aCons (e2 idxD (eVar 1) (eC (.int 0))) (aCons (e2 idxD (eVar 1) (eC (.int 1))) (aCons (eA intD (aCons (e2 idxD (eVar 1) (eC (.int 2))) aNil)) (aCons (e2 idxD (eVar 1) (eC (.int 3))) aNil))))))))
def d_law_row_of : List D → Sto → R D := runDef 1 2 m_law_row_of

def b_law_together_1 : MS := (sSeq (sIf (e2 isN2 (eVar 2) (eC .non)) (sRet (eA dispT aNil)) sSkip) (sSeq (sIf (e2 eqD (eVar 2) (eVar 1)) (sRet (eA dispT (aCons (eC (.str [114, 105, 110, 103])) aNil))) sSkip) (sSeq (sIf (e2 ninD (eVar 2) (eVar 0)) (sRet (eA dispT (aCons (eC (.str [108, 111, 115, 116])) aNil))) sSkip) (sAsg (gN 2) (e2 idxD (eVar 0) (eVar 2))))))
def m_law_together : MS := (sSeq (sIf (e2 ninD (eVar 1) (eVar 0)) (sRet (eA dispT (aCons (eC (.str [116, 119, 105, 99, 101])) aNil))) sSkip) (sSeq (sAsg (gN 2) (e2 idxD (eVar 0) (eVar 1))) (sSeq (sFor (iRange (e2 addD (eA lenD (aCons (eVar 0) aNil)) (eC (.int 1)))) (gN 3) b_law_together_1) (sRet (eA dispT (aCons (eC (.str [108, 111, 115, 116])) aNil))))))
def d_law_together : List D → Sto → R D := runDef 2 4 m_law_together

def b_law_judged_1 : MS := (sIf (eAnd (e2 eqD (eCall d_law_faults (aCons (eVar 0) (aCons (eVar 3) aNil))) (eA dispT aNil)) (e2 ninD (eCall d_law_row_of (aCons (eVar 3) aNil)) (eVar 2))) (sUpd 2 isListD appendD (aCons (eCall d_law_row_of (aCons (eVar 3) aNil)) aNil)) sSkip)
def q_law_judged_2 : ME := (eComp (iSeq (eVar 2)) [8] (gN 8) (eC (.bool true)) (e2 idxD (eVar 8) (eC (.int 0))))
def q_law_judged_3 : ME := (eComp (iSeq (eVar 2)) [8] (gN 8) (e2 eqD (eM isListD countD (eVar 4) (aCons (e2 idxD (eVar 8) (eC (.int 0))) aNil)) (eC (.int 1))) (eA dispT (aCons (e2 idxD (eVar 8) (eC (.int 0))) (aCons (e2 idxD (eVar 8) (eC (.int 1))) aNil))))
def b_law_judged_4 : MS := (sSeq (sAsg (gN 7) (eCall d_law_faults (aCons (eVar 0) (aCons (eVar 3) aNil)))) (sSeq (sIf (e2 eqD (eVar 7) (eA dispT aNil)) (sAsg (gN 7) (eCall d_law_together (aCons (eVar 5) (aCons (e2 idxD (eCall d_law_row_of (aCons (eVar 3) aNil)) (eC (.int 0))) aNil)))) sSkip) (sUpd 6 isListD appendD (aCons (eVar 7) aNil))))
def m_law_judged : MS := (sSeq (sAsg (gN 2) (eA dispL aNil)) (sSeq (sFor (iSeq (eVar 1)) (gN 3) b_law_judged_1) (sSeq (sAsg (gN 4) q_law_judged_2) (sSeq (sAsg (gN 5) (eA dictD (aCons q_law_judged_3 aNil))) (sSeq (sAsg (gN 6) (eA dispL aNil)) (sSeq (sFor (iSeq (eVar 1)) (gN 3) b_law_judged_4) (sRet (eA tupleD (aCons (eVar 6) aNil)))))))))
def d_law_judged : List D → Sto → R D := runDef 2 9 m_law_judged

def b_law_kept_1 : MS := (sIf (e2 eqD (eVar 4) (eA dispT aNil)) (sUpd 2 isDictD putD (aCons (eCall d_law_row_of (aCons (eVar 3) aNil)) (aCons (e2 idxD (eM isStrD splitD (eVar 3) (aCons (eC (.str [32])) aNil)) (eC (.int 0))) aNil))) sSkip)
def q_law_kept_2 : ME := (eComp (iSeq (eA sortD (aCons (eVar 2) aNil))) [5] (gN 5) (eC (.bool true)) (e2 idxD (eVar 2) (eVar 5)))
def m_law_kept : MS := (sSeq (sAsg (gN 2) (eC (.dict []))) (sSeq (sFor (iA zipA (aCons (eVar 1) (aCons (eCall d_law_judged (aCons (eVar 0) (aCons (eVar 1) aNil))) aNil))) (gT [3, 4]) b_law_kept_1) (sRet (eA tupleD (aCons q_law_kept_2 aNil)))))
def d_law_kept : List D → Sto → R D := runDef 2 6 m_law_kept
end Dn

namespace Dn
def m_report_text : MS := (sSeq (sAsg (gN 1) (eA dispL aNil)) (sSeq (sFor (iA enumA (aCons (eVar 0) aNil)) (gT [2, 3]) (sUpd 1 isListD appendD (aCons (eM isStrD joinD (eC (.str [32])) (aCons (e2 addD (eA dispL (aCons (eA strD (aCons (eVar 2) aNil)) aNil)) (e2 addD (eA listD (aCons (eVar 3) aNil)) (e2 repD (eA dispL (aCons (eC (.str [111, 107])) aNil)) (eA intD (aCons (e2 eqD (eA lenD (aCons (eVar 3) aNil)) (eC (.int 0))) aNil))))) aNil)) aNil))) (sRet (eM isStrD joinD (eC (.str [])) (aCons (eComp (iSeq (eVar 1)) [4] (gN 4) (eC (.bool true)) (e2 addD (eVar 4) (eC (.str [10])))) aNil)))))
def d_report_text : List D → Sto → R D := runDef 1 5 m_report_text

def m_law_some : MS := (sSeq (sIf (e2 eqD (e2 modD (eVar 0) (eC (.int 4))) (eC (.int 0))) (sRet (eA dispT aNil)) sSkip) (sSeq (sIf (e2 eqD (e2 modD (eVar 0) (eC (.int 4))) (eC (.int 1))) (sRet (eA dispT (aCons (e2 idxD (eA dispT (aCons (eC (.str [99, 111, 117, 110, 116])) (aCons (eC (.str [116, 119, 105, 99, 101])) (aCons (eC (.str [114, 105, 110, 103])) (aCons (eC (.str [108, 111, 115, 116])) aNil))))) (e2 modD (e2 fdivD (eVar 0) (eC (.int 4))) (eC (.int 4)))) aNil))) sSkip) (sSeq (sAsg (gN 1) (eA dispT aNil)) (sSeq (sFor (iA enumA (aCons (eA dispT (aCons (eC (.str [107, 101, 121])) (aCons (eC (.str [112, 97, 114, 101, 110, 116])) (aCons (eC (.str [97, 109, 111, 117, 110, 116])) (aCons (eC (.str [116, 97, 103])) aNil))))) aNil)) (gT [2, 3]) (sIf (e2 eqD (e2 modD (e2 fdivD (eVar 0) (e2 idxD (eA dispT (aCons (eC (.int 4)) (aCons (eC (.int 8)) (aCons (eC (.int 16)) (aCons (eC (.int 32)) aNil))))) (eVar 2))) (eC (.int 2))) (eC (.int 1))) (sAsg (gN 1) (e2 addD (eVar 1) (eA dispT (aCons (eVar 3) aNil)))) sSkip)) (sRet (eVar 1))))))
def d_law_some : List D → Sto → R D := runDef 1 4 m_law_some

def m_need : MS := (sIf (eNot (eVar 0)) (sRaise 0) sSkip)
def d_need : List D → Sto → R D := runDef 1 1 m_need

def q_faults_in_1 : ME := (eComp (iSeq (eC (.tup ([[107, 101, 121], [112, 97, 114, 101, 110, 116], [97, 109, 111, 117, 110, 116], [116, 97, 103]].map D.str)))) [2] (gN 2) (e2 inD (eVar 2) (eVar 1)) (eVar 2))
def m_faults_in : MS := (sSeq (sIf (e2 eqD (eVar 0) (eA dispL (aCons (eC (.str [111, 107])) aNil))) (sRet (eA dispT aNil)) sSkip) (sSeq (sAsg (gN 1) (eA tupleD (aCons (eVar 0) aNil))) (sSeq (sIf (eAnd (e2 eqD (eA lenD (aCons (eVar 1) aNil)) (eC (.int 1))) (e2 inD (e2 idxD (eVar 1) (eC (.int 0))) (eC (.tup ([[99, 111, 117, 110, 116], [116, 119, 105, 99, 101], [114, 105, 110, 103], [108, 111, 115, 116]].map D.str))))) (sRet (eVar 1)) sSkip) (sSeq (sExpr (eCall d_need (aCons (eAnd (e2 gtD (eA lenD (aCons (eVar 1) aNil)) (eC (.int 0))) (e2 eqD (eVar 1) (eA tupleD (aCons q_faults_in_1 aNil)))) aNil))) (sRet (eVar 1))))))
def d_faults_in : List D → Sto → R D := runDef 1 3 m_faults_in

def b_read_report_1 : MS := (sSeq (sAsg (gN 4) (eM isStrD splitD (eVar 3) (aCons (eC (.str [32])) aNil))) (sSeq (sExpr (eCall d_need (aCons (e2 eqD (e2 idxD (eVar 4) (eC (.int 0))) (eA strD (aCons (eVar 2) aNil))) aNil))) (sUpd 1 isListD appendD (aCons (eCall d_faults_in (aCons (eSlice (eVar 4) (oSome (eC (.int 1))) oNone) aNil)) aNil))))
def m_read_report : MS := (sSeq (sExpr (eCall d_need (aCons (e1 (instD isStrD) (eVar 0)) aNil))) (sSeq (sAsg (gN 1) (eA dispL aNil)) (sSeq (sFor (iA enumA (aCons (eSlice (eM isStrD splitD (eVar 0) (aCons (eC (.str [10])) aNil)) oNone (oSome (e1 negD (eC (.int 1))))) aNil)) (gT [2, 3]) b_read_report_1) (sSeq (sExpr (eCall d_need (aCons (e2 eqD (eCall d_report_text (aCons (eVar 1) aNil)) (eVar 0)) aNil))) (sRet (eA tupleD (aCons (eVar 1) aNil)))))))
def d_read_report : List D → Sto → R D := runDef 1 5 m_read_report
end Dn

namespace Dn
def m_below (g : List D → Sto → R D) : MS := (sSeq (sIf (e2 ninD (eVar 1) (eComp (iSeq (eVar 0)) [3] (gN 3) (eC (.bool true)) (e2 idxD (eVar 3) (eC (.int 0))))) (sRaise 1) sSkip) (sSeq (sAsg (gN 2) (eC (.int 0))) (sSeq (sFor (iSeq (eVar 0)) (gN 3) (sIf (e2 eqD (e2 idxD (eVar 3) (eC (.int 0))) (eVar 1)) (sAsg (gN 2) (e2 addD (eVar 2) (e2 idxD (eVar 3) (eC (.int 2))))) (sIf (e2 eqD (e2 idxD (eVar 3) (eC (.int 1))) (eVar 1)) (sAsg (gN 2) (e2 addD (eVar 2) (eCall g (aCons (eVar 0) (aCons (e2 idxD (eVar 3) (eC (.int 0))) aNil))))) sSkip))) (sRet (eVar 2)))))
def d_below : List D → Sto → R D := recN 2 4 m_below 20
end Dn

namespace Dn
def d_law_read : List D → Sto → R D := readD d_row_of

def b_law_k12_1 : MS := (sSeq (sAsg (gN 13) (e2 fdivD (eCall d_law_drawn (aCons (eVar 7) (aCons (eVar 11) aNil))) (eC (.int 4)))) (sIf (e2 eqD (e2 modD (eVar 13) (eC (.int 2))) (eC (.int 1))) (sSeq (sUpd 8 isListD putD (aCons (e2 idxD (e2 idxD (eVar 9) (eVar 11)) (e2 modD (e2 fdivD (eVar 13) (eC (.int 2))) (eA lenD (aCons (e2 idxD (eVar 9) (eVar 11)) aNil)))) (aCons (eVar 11) aNil))) (sAsg (gN 10) (e2 addD (eVar 10) (eA dispT (aCons (eVar 12) aNil))))) sSkip))
def q_law_k12_2 : ME := (eComp (iSeq (eCall d_faults (aCons (eVar 15) (aCons (eVar 14) aNil)))) [19] (gN 19) (e2 ninD (eVar 19) (e2 addD (eVar 10) (eA dispT (aCons (eC (.str [116, 97, 103])) aNil)))) (eVar 19))
def b_law_k12_3 : MS := (sIf (eChain leD ltD (eC (.int 0)) (eVar 16) (eC (.int 1000))) (sSeq (sAsg (gN 17) (eCall d_faults (aCons (eVar 1) (aCons (eM isStrD joinD (eC (.str [32])) (aCons (eA dispL (aCons (e2 idxD (eVar 5) (eC (.int 0))) (aCons (eC (.str [45])) (aCons (eA strD (aCons (eVar 16) aNil)) (aCons (e2 idxD (eVar 5) (eC (.int 3))) aNil))))) aNil)) aNil)))) (sIf (e2 neD (eVar 17) (e2 repD (eA dispT (aCons (eC (.str [97, 109, 111, 117, 110, 116])) aNil)) (eA intD (aCons (eNot (eChain leD leD (eVar 2) (eVar 16) (eVar 3))) aNil)))) (sRet (eC (.bool false))) sSkip)) sSkip)
def b_law_k12_4 : MS := (sIf (e2 neD (eCall d_faults (aCons (eVar 1) (aCons (eVar 18) aNil))) (eA dispT (aCons (eC (.str [99, 111, 117, 110, 116])) aNil))) (sRet (eC (.bool false))) sSkip)
def m_law_k12 : MS := (sSeq (sAsg (gN 1) (eCall d_law_plan (aCons (eCall d_law_mixed (aCons (eVar 0) (aCons (eC (.int 0)) aNil))) aNil))) (sSeq (sAsg (gT [2, 3, 4]) (eVar 1)) (sSeq (sAsg (gN 5) (eCall d_law_row (aCons (eVar 1) (aCons (eCall d_law_mixed (aCons (eVar 0) (aCons (eC (.int 1)) aNil))) aNil)))) (sSeq (sAsg (gN 6) (eCall d_written (aCons (eVar 5) aNil))) (sSeq (sIf (eOr (e2 neD (eCall d_faults (aCons (eVar 1) (aCons (eVar 6) aNil))) (eA dispT aNil)) (e2 neD (eCall d_law_read (aCons (eVar 1) (aCons (eVar 6) aNil))) (eVar 5))) (sRet (eC (.bool false))) sSkip) (sSeq (sAsg (gN 7) (eCall d_law_mixed (aCons (eVar 0) (aCons (eC (.int 2)) aNil)))) (sSeq (sAsg (gN 8) (eM isStrD splitD (eVar 6) (aCons (eC (.str [32])) aNil))) (sSeq (sAsg (gN 9) (eA dispT (aCons (eA dispT (aCons (eC (.str [65])) (aCons (eC (.str [115, 105, 120, 115, 105, 120])) (aCons (eC (.str [45])) aNil)))) (aCons (eA dispT (aCons (eC (.str [57])) (aCons (eC (.str [115, 105, 120, 115, 105, 120])) aNil))) (aCons (eA dispT (aCons (eC (.str [48, 49])) (aCons (eC (.str [45, 49])) (aCons (eC (.str [49, 48, 48, 48])) (aCons (eC (.str [120])) aNil))))) (aCons (eA dispT (aCons (eC (.str [66])) (aCons (eC (.str [116, 97, 103, 116, 97, 103])) aNil))) aNil)))))) (sSeq (sAsg (gN 10) (eA dispT aNil)) (sSeq (sFor (iA enumA (aCons (eA dispT (aCons (eC (.str [107, 101, 121])) (aCons (eC (.str [112, 97, 114, 101, 110, 116])) (aCons (eC (.str [97, 109, 111, 117, 110, 116])) (aCons (eC (.str [116, 97, 103])) aNil))))) aNil)) (gT [11, 12]) b_law_k12_1) (sSeq (sAsg (gN 14) (eM isStrD joinD (eC (.str [32])) (aCons (eVar 8) aNil))) (sSeq (sIf (eOr (e2 neD (eCall d_faults (aCons (eVar 1) (aCons (eVar 14) aNil))) (eVar 10)) (e2 neD (e2 isN2 (eCall d_law_read (aCons (eVar 1) (aCons (eVar 14) aNil))) (eC .non)) (e2 neD (eVar 10) (eA dispT aNil)))) (sRet (eC (.bool false))) sSkip) (sSeq (sAsg (gN 15) (eA dispT (aCons (eC (.int 0)) (aCons (eC (.int 999)) (aCons (eA tupleD (aCons (eSlice (eA sortSetTD (aCons (e2 addD (eVar 4) (eA dispT (aCons (eC (.str [122, 122])) aNil))) aNil)) oNone (oSome (eC (.int 3)))) aNil)) aNil))))) (sSeq (sIf (e2 neD q_law_k12_2 (eA dispL aNil)) (sRet (eC (.bool false))) sSkip) (sSeq (sIf (e2 neD (eCall d_faults (aCons (eA dispT (aCons (eC (.int 0)) (aCons (eC (.int 999)) (aCons (eVar 4) aNil)))) (aCons (eVar 14) aNil))) (eVar 10)) (sRet (eC (.bool false))) sSkip) (sSeq (sFor (iSeq (eA dispT (aCons (e2 subD (eVar 2) (eC (.int 1))) (aCons (eVar 2) (aCons (eVar 3) (aCons (e2 addD (eVar 3) (eC (.int 1))) aNil)))))) (gN 16) b_law_k12_3) (sSeq (sFor (iSeq (eA dispT (aCons (e2 addD (eVar 6) (eC (.str [32]))) (aCons (e2 addD (eC (.str [32])) (eVar 14)) (aCons (eC (.str [])) (aCons (e2 addD (eVar 14) (eC (.str [32, 120]))) aNil)))))) (gN 18) b_law_k12_4) (sRet (eC (.bool true))))))))))))))))))))
def d_law_k12 : List D → Sto → R D := runDef 1 20 m_law_k12
end Dn

namespace Lk12
open PySem PySem.Spec PyProof.Rows L2 Dn
def top (i : Nat) : Stmt := PySem.Challenge.pw_heapintake_k12_whole_fields_by_themselve.main.body.getD i (.Pass ⟨0, 0, 0, 0⟩)
/-- what the head tells -/
structure Wd (G : Gc) (mg : Str → Option Value) : Prop where
  f__law_drawn : Fh G.K "_law_drawn" (top 17)
  g__law_drawn : mg "_law_drawn" = some (.ref (He.ga G.K "_law_drawn"))
  f__law_name : Fh G.K "_law_name" (top 18)
  g__law_name : mg "_law_name" = some (.ref (He.ga G.K "_law_name"))
  f__law_plan : Fh G.K "_law_plan" (top 19)
  g__law_plan : mg "_law_plan" = some (.ref (He.ga G.K "_law_plan"))
  f__law_row : Fh G.K "_law_row" (top 20)
  g__law_row : mg "_law_row" = some (.ref (He.ga G.K "_law_row"))
  f_written : Fh G.K "written" (top 9)
  g_written : mg "written" = some (.ref (He.ga G.K "written"))
  f__law_cell_at : Fh G.K "_law_cell_at" (top 15)
  g__law_cell_at : mg "_law_cell_at" = some (.ref (He.ga G.K "_law_cell_at"))
  f__law_mixed : Fh G.K "_law_mixed" (top 16)
  g__law_mixed : mg "_law_mixed" = some (.ref (He.ga G.K "_law_mixed"))
  f_amount_in : Fh G.K "amount_in" (top 10)
  g_amount_in : mg "amount_in" = some (.ref (He.ga G.K "amount_in"))
  f_is_name : Fh G.K "is_name" (top 8)
  g_is_name : mg "is_name" = some (.ref (He.ga G.K "is_name"))
  f_faults : Fh G.K "faults" (top 12)
  g_faults : mg "faults" = some (.ref (He.ga G.K "faults"))
  f_row_of : Fh G.K "row_of" (top 13)
  g_row_of : mg "row_of" = some (.ref (He.ga G.K "row_of"))
  f__law_read : Fh G.K "_law_read" (top 21)
  g__law_read : mg "_law_read" = some (.ref (He.ga G.K "_law_read"))
  f_law : Fh G.K "law" (top 22)
  g_law : mg "law" = some (.ref (He.ga G.K "law"))
  b_all : mg "all" = none
  b_enumerate : mg "enumerate" = none
  b_int : mg "int" = none
  b_isinstance : mg "isinstance" = none
  b_len : mg "len" = none
  b_range : mg "range" = none
  b_set : mg "set" = none
  b_sorted : mg "sorted" = none
  b_str : mg "str" = none
  b_tuple : mg "tuple" = none
  x_NoRow : Xf G mg 1 "NoRow"
  k_FIGURES : ∃ t, mg "FIGURES" = some (.str "0123456789" t)
  k_LETTERS : ∃ t, mg "LETTERS" = some (.str "abcdefghijklmnopqrstuvwxyz" t)
  k_LONGEST : ∃ t, mg "LONGEST" = some (.int 5 t)
  k_NONE : ∃ t, mg "NONE" = some (.str "-" t)
  xr : PySem.W.exmOne G.K (.ref (He.ga G.K "NoRow")) (.ref (He.ga G.K "NoRow")) = some true
section
variable {G : Gc} {P : Program} {w : World} {mg : Str → Option Value} {base : Heap}
theorem sc__law_drawn : FnScope ["number", "k", "drawn"] ["number", "k"] (defScope (top 17)) := ⟨rfl, rfl, rfl, by decide +kernel, rfl, by decide +kernel, by decide +kernel⟩
theorem ok__law_drawn (W : Wd G mg) : Fd G P w mg base "_law_drawn" .v 1 ["number", "k"] d_law_drawn := by
  refine Fd.of (Nm := ["number", "k", "drawn"]) W.f__law_drawn W.g__law_drawn sc__law_drawn (fun _ _ _ _ _ _ us hl => match us, hl with | [_, _], _ => rfl) (m := m_law_drawn) (k := 0) (O' := []) (fun cdv A outer s H E N hr => ?_)
  exact (c_seq (c_set sc__law_drawn.nd (c_mod (c_vb (c_mul (c_vb (c_add rfl (c_vb (c_add rfl (c_vb c_var) (c_vb (c_mul (c_vb c_int) (c_vb c_var))))) (c_vb c_int))) (c_vb c_int))) (c_vb c_int)))
      (c_last (c_ret (c_mod (c_vb (c_add rfl (c_vb (c_add rfl (c_vb (c_mul (c_vb c_var) (c_vb c_var))) (c_vb (c_mul (c_vb c_int) (c_vb c_var))))) (c_vb c_var))) (c_vb c_int)))))

theorem sc__law_name : FnScope ["number", "signs", "k"] ["number"] (defScope (top 18)) := ⟨rfl, rfl, rfl, by decide +kernel, rfl, by decide +kernel, by decide +kernel⟩
theorem ok__law_name (W : Wd G mg) : Fd G P w mg base "_law_name" .v 2 ["number"] d_law_name := by
  refine Fd.of (Nm := ["number", "signs", "k"]) W.f__law_name W.g__law_name sc__law_name (fun _ _ _ _ _ _ us hl => match us, hl with | [_], _ => rfl) (m := m_law_name) (k := 1) (O' := []) (fun cdv A outer s H E N hr => ?_)
  exact (c_seq (c_if (t_gt (c_vb (c_mod (c_vb c_var) (c_vb c_int))) (c_vb c_int))
      (c_last (c_ret (c_subscr rfl (huR hr) (c_vb (c_tup (c_acons c_str (c_acons c_str (c_acons c_str (c_acons c_str (c_acons c_str (c_acons c_str (c_acons c_str c_anil))))))))) (c_vb (c_mod (c_vb (c_fdiv (c_vb c_var) (c_vb c_int))) (c_vb c_int))))))
      c_skip)
      (c_seq (c_set sc__law_name.nd c_str)
      (c_last (c_ret (c_join rfl (c_vb c_str) (c_ob (c_lc (own := [("k", 2)]) rfl sc__law_name.nd (c_irange rfl W.b_range (c_add rfl (c_vb c_int) (c_vb (c_mod (c_vb (c_fdiv (c_vb c_var) (c_vb c_int))) (c_vb c_int))))) (blk_ok (by kernel_rfl)) (fun _ _ _ _ _ => (g_name sc__law_name.nd)) (fun _ _ _ _ _ => c_tsnil) (fun _ _ _ _ _ => (c_subscr rfl (huR hr) (c_vb c_var) (c_vb (c_mod (c_vb (c_fdiv (c_vb (c_callG (ok__law_drawn W) hr passN (c_acons c_var (c_acons (c_add rfl (c_vb c_int) (c_vb c_var)) c_anil)))) (c_vb c_int))) (c_vb c_int))))))))))))

theorem sc__law_plan : FnScope ["number", "low", "high", "tags", "k"] ["number"] (defScope (top 19)) := ⟨rfl, rfl, rfl, by decide +kernel, rfl, by decide +kernel, by decide +kernel⟩
theorem ok__law_plan (W : Wd G mg) : Fd G P w mg base "_law_plan" .v 3 ["number"] d_law_plan := by
  refine Fd.of (Nm := ["number", "low", "high", "tags", "k"]) W.f__law_plan W.g__law_plan sc__law_plan (fun _ _ _ _ _ _ us hl => match us, hl with | [_], _ => rfl) (m := m_law_plan) (k := 2) (O' := []) (fun cdv A outer s H E N hr => ?_)
  exact (c_seq (c_set sc__law_plan.nd (c_mod (c_vb (c_fdiv (c_vb c_var) (c_vb c_int))) (c_vb (c_subscr rfl (huR hr) (c_vb (c_tup (c_acons c_int (c_acons c_int c_anil)))) (c_vb (c_mod (c_vb c_var) (c_vb c_int)))))))
      (c_seq (c_set sc__law_plan.nd (c_add rfl (c_vb c_var) (c_vb (c_mod (c_vb (c_fdiv (c_vb c_var) (c_vb c_int))) (c_vb (c_sub (c_vb c_int) (c_vb c_var)))))))
      (c_seq (c_setLc (own := [("k", 4)]) rfl sc__law_plan.nd rfl (c_irange rfl W.b_range (c_add rfl (c_vb c_int) (c_vb (c_mod (c_vb (c_fdiv (c_vb c_var) (c_vb c_int))) (c_vb c_int))))) (blk_ok (by kernel_rfl)) (fun _ _ _ _ _ => (g_name sc__law_plan.nd)) (fun _ _ _ _ _ => c_tsnil) (fun _ _ _ _ _ => (c_callG (ok__law_name W) hr passN (c_acons (c_fdiv (c_vb (c_callG (ok__law_drawn W) hr passN (c_acons c_var (c_acons (c_add rfl (c_vb c_int) (c_vb c_var)) c_anil)))) (c_vb c_int)) c_anil))) (sw_true rfl rfl rfl (by kernel_rfl)))
      (c_last (c_ret (c_tup (c_acons c_var (c_acons c_var (c_acons (c_tuple rfl rfl W.b_tuple (c_ob (c_sortSet rfl rfl rfl W.b_sorted rfl W.b_set (c_vb c_var)))) c_anil)))))))))

theorem sc__law_row : FnScope ["plan", "number", "low", "high", "tags", "parent", "key", "amount"] ["plan", "number"] (defScope (top 20)) := ⟨rfl, rfl, rfl, by decide +kernel, rfl, by decide +kernel, by decide +kernel⟩
theorem ok__law_row (W : Wd G mg) : Fd G P w mg base "_law_row" .v 3 ["plan", "number"] d_law_row := by
  refine Fd.of (Nm := ["plan", "number", "low", "high", "tags", "parent", "key", "amount"]) W.f__law_row W.g__law_row sc__law_row (fun _ _ _ _ _ _ us hl => match us, hl with | [_, _], _ => rfl) (m := m_law_row) (k := 2) (O' := []) (fun cdv A outer s H E N hr => ?_)
  exact (c_seq (c_setT c_var (g_tup rfl rfl (gs_cons (gs_cons (gs_cons gs_nil sc__law_row.nd) sc__law_row.nd) sc__law_row.nd)))
      (c_seq (c_set sc__law_row.nd (c_callG (ok__law_name W) hr pas (c_acons (c_fdiv (c_vb c_var) (c_vb c_int)) c_anil)))
      (c_seq (c_if (t_eq rfl (huR hr) (c_vb (c_mod (c_vb c_var) (c_vb c_int))) (c_vb c_int))
      (c_last (c_set sc__law_row.nd c_non))
      c_skip)
      (c_seq (c_set sc__law_row.nd (c_callG (ok__law_name W) hr pas (c_acons (c_fdiv (c_vb (c_callG (ok__law_drawn W) hr pas (c_acons c_var (c_acons c_int c_anil)))) (c_vb c_int)) c_anil)))
      (c_seq (c_set sc__law_row.nd (c_add rfl (c_vb c_var) (c_vb (c_mod (c_vb (c_fdiv (c_vb c_var) (c_vb c_int))) (c_vb (c_add rfl (c_vb (c_sub (c_vb c_var) (c_vb c_var))) (c_vb c_int)))))))
      (c_last (c_ret (c_tup (c_acons c_var (c_acons c_var (c_acons c_var (c_acons (c_subscr rfl (huR hr) (c_vb c_var) (c_vb (c_mod (c_vb (c_fdiv (c_vb c_var) (c_vb c_int))) (c_vb (c_len rfl rfl W.b_len (c_vb c_var)))))) c_anil))))))))))))

theorem sc_written : FnScope ["row", "key", "parent", "amount", "tag"] ["row"] (defScope (top 9)) := ⟨rfl, rfl, rfl, by decide +kernel, rfl, by decide +kernel, by decide +kernel⟩
theorem ok_written (W : Wd G mg) : Fd G P w mg base "written" .v 1 ["row"] d_written := by
  refine Fd.of (Nm := ["row", "key", "parent", "amount", "tag"]) W.f_written W.g_written sc_written (fun _ _ _ _ _ _ us hl => match us, hl with | [_], _ => rfl) (m := m_written) (k := 0) (O' := []) (fun cdv A outer s H E N hr => ?_)
  exact (c_seq (c_setT c_var (g_tup rfl rfl (gs_cons (gs_cons (gs_cons (gs_cons gs_nil sc_written.nd) sc_written.nd) sc_written.nd) sc_written.nd)))
      (c_seq (c_if (t_isN (c_vb c_var) (c_vb c_non))
      (c_last (c_set sc_written.nd (c_gstr W.k_NONE)))
      c_skip)
      (c_last (c_ret (c_join rfl (c_vb c_str) (c_ob (c_lst (c_acons c_var (c_acons c_var (c_acons (c_strI rfl W.b_str (c_vb c_var)) (c_acons c_var c_anil)))))))))))

theorem sc__law_cell_at : FnScope ["script", "k"] ["script", "k"] (defScope (top 15)) := ⟨rfl, rfl, rfl, by decide +kernel, rfl, by decide +kernel, by decide +kernel⟩
theorem ok__law_cell_at (W : Wd G mg) : Fd G P w mg base "_law_cell_at" .v 1 ["script", "k"] d_law_cell_at := by
  refine Fd.of (Nm := ["script", "k"]) W.f__law_cell_at W.g__law_cell_at sc__law_cell_at (fun _ _ _ _ _ _ us hl => match us, hl with | [_, _], _ => rfl) (m := m_law_cell_at) (k := 0) (O' := []) (fun cdv A outer s H E N hr => ?_)
  exact (c_seq (c_if (t_lt (c_vb c_var) (c_vb (c_len rfl rfl W.b_len (c_vb c_var))))
      (c_last (c_ret (c_subscr rfl (huR hr) (c_vb c_var) (c_vb c_var))))
      c_skip)
      (c_last (c_ret c_int)))

theorem sc__law_mixed : FnScope ["script", "k", "drawn"] ["script", "k"] (defScope (top 16)) := ⟨rfl, rfl, rfl, by decide +kernel, rfl, by decide +kernel, by decide +kernel⟩
theorem ok__law_mixed (W : Wd G mg) : Fd G P w mg base "_law_mixed" .v 2 ["script", "k"] d_law_mixed := by
  refine Fd.of (Nm := ["script", "k", "drawn"]) W.f__law_mixed W.g__law_mixed sc__law_mixed (fun _ _ _ _ _ _ us hl => match us, hl with | [_, _], _ => rfl) (m := m_law_mixed) (k := 1) (O' := []) (fun cdv A outer s H E N hr => ?_)
  exact (c_seq (c_set sc__law_mixed.nd (c_mod (c_vb (c_mul (c_vb (c_add rfl (c_vb (c_add rfl (c_vb (c_callG (ok__law_cell_at W) hr pas (c_acons c_var (c_acons c_var c_anil)))) (c_vb (c_mul (c_vb c_int) (c_vb c_var))))) (c_vb c_int))) (c_vb c_int))) (c_vb c_int)))
      (c_last (c_ret (c_mod (c_vb (c_add rfl (c_vb (c_add rfl (c_vb (c_mul (c_vb c_var) (c_vb c_var))) (c_vb (c_mul (c_vb c_int) (c_vb c_var))))) (c_vb c_var))) (c_vb c_int)))))

theorem sc_amount_in : FnScope ["word", "sign"] ["word"] (defScope (top 10)) := ⟨rfl, rfl, rfl, by decide +kernel, rfl, by decide +kernel, by decide +kernel⟩
theorem ok_amount_in (W : Wd G mg) : Fd G P w mg base "amount_in" .v 1 ["word"] d_amount_in := by
  refine Fd.of (Nm := ["word", "sign"]) W.f_amount_in W.g_amount_in sc_amount_in (fun _ _ _ _ _ _ us hl => match us, hl with | [_], _ => rfl) (m := m_amount_in) (k := 0) (O' := []) (fun cdv A outer s H E N hr => ?_)
  exact (c_seq (c_if (PW.pt (c_wor (c_tnot (t_lele (c_vb c_int) (c_vb (c_len rfl rfl W.b_len (c_vb c_var))) (c_vb c_int))) (c_wor (c_tnot (c_tval (c_all rfl rfl rfl W.b_all (c_ob (c_lc (own := [("sign", 1)]) rfl sc_amount_in.nd (c_iseq rfl c_var) (blk_ok (by kernel_rfl)) (fun _ _ _ _ _ => (g_name sc_amount_in.nd)) (fun _ _ _ _ _ => c_tsnil) (fun _ _ _ _ _ => (c_in rfl (huR hr) (c_vb c_var) (c_vb (c_gstr W.k_FIGURES))))))))) (c_wor1 (t_ne rfl (huR hr) (c_vb (c_strI rfl W.b_str (c_vb (c_int1 rfl W.b_int (c_vb c_var))))) (c_vb c_var))))))
      (c_last (c_ret c_non))
      c_skip)
      (c_last (c_ret (c_int1 rfl W.b_int (c_vb c_var)))))

theorem sc_is_name : FnScope ["thing", "sign"] ["thing"] (defScope (top 8)) := ⟨rfl, rfl, rfl, by decide +kernel, rfl, by decide +kernel, by decide +kernel⟩
theorem ok_is_name (W : Wd G mg) : Fd G P w mg base "is_name" .v 1 ["thing"] d_is_name := by
  refine Fd.of (Nm := ["thing", "sign"]) W.f_is_name W.g_is_name sc_is_name (fun _ _ _ _ _ _ us hl => match us, hl with | [_], _ => rfl) (m := m_is_name) (k := 0) (O' := []) (fun cdv A outer s H E N hr => ?_)
  exact (c_last (c_ret (c_and (c_inst rfl rfl W.b_isinstance rfl W.b_str PyProof.Rows.boot_str (c_vb c_var) i_str) (c_and (c_lele (c_vb c_int) (c_vb (c_len rfl rfl W.b_len (c_vb c_var))) (c_vb (c_gint W.k_LONGEST))) (c_one (c_all rfl rfl rfl W.b_all (c_ob (c_lc (own := [("sign", 1)]) rfl sc_is_name.nd (c_iseq rfl c_var) (blk_ok (by kernel_rfl)) (fun _ _ _ _ _ => (g_name sc_is_name.nd)) (fun _ _ _ _ _ => c_tsnil) (fun _ _ _ _ _ => (c_in rfl (huR hr) (c_vb c_var) (c_vb (c_gstr W.k_LETTERS))))))))))))

theorem sc_faults : FnScope ["plan", "text", "words", "found", "amount"] ["plan", "text"] (defScope (top 12)) := ⟨rfl, rfl, rfl, by decide +kernel, rfl, by decide +kernel, by decide +kernel⟩
theorem ok_faults (W : Wd G mg) : Fd G P w mg base "faults" .v 2 ["plan", "text"] d_faults := by
  refine Fd.of (Nm := ["plan", "text", "words", "found", "amount"]) W.f_faults W.g_faults sc_faults (fun _ _ _ _ _ _ us hl => match us, hl with | [_, _], _ => rfl) (m := m_faults) (k := 1) (O' := []) (fun cdv A outer s H E N hr => ?_)
  exact (c_seq (c_set sc_faults.nd (c_ov (c_split rfl (c_vb c_var) (c_vb c_str))))
      (c_seq (c_if (PW.pt (c_wor (t_ne rfl (huR hr) (c_vb (c_len rfl rfl W.b_len (c_vb c_var))) (c_vb c_int)) (c_wor1 (t_in rfl (huR hr) (c_vb c_str) (c_vb c_var)))))
      (c_last (c_ret (c_tup (c_acons c_str c_anil))))
      c_skip)
      (c_seq (c_setO sc_faults.nd (c_lst c_anil))
      (c_seq (c_set sc_faults.nd (c_callG (ok_amount_in W) hr pas (c_acons (c_subscr rfl (huR hr) (c_vb c_var) (c_vb c_int)) c_anil)))
      (c_seq (c_if (c_tnot (c_tval (c_callG (ok_is_name W) hr pas (c_acons (c_subscr rfl (huR hr) (c_vb c_var) (c_vb c_int)) c_anil))))
      (c_last (c_append rfl (by decide) c_str))
      c_skip)
      (c_seq (c_if (PW.pt (c_wand (t_ne rfl (huR hr) (c_vb (c_subscr rfl (huR hr) (c_vb c_var) (c_vb c_int))) (c_vb (c_gstr W.k_NONE))) (c_wand1 (c_tnot (c_tval (c_callG (ok_is_name W) hr pas (c_acons (c_subscr rfl (huR hr) (c_vb c_var) (c_vb c_int)) c_anil)))))))
      (c_last (c_append rfl (by decide) c_str))
      c_skip)
      (c_seq (c_if (PW.pt (c_wor (t_isN (c_vb c_var) (c_vb c_non)) (c_wor1 (c_tnot (t_lele (c_vb (c_subscr rfl (huR hr) (c_vb c_var) (c_vb c_int))) (c_vb c_var) (c_vb (c_subscr rfl (huR hr) (c_vb c_var) (c_vb c_int))))))))
      (c_last (c_append rfl (by decide) c_str))
      c_skip)
      (c_seq (c_if (t_nin rfl (huR hr) (c_vb (c_subscr rfl (huR hr) (c_vb c_var) (c_vb c_int))) (c_vb (c_subscr rfl (huR hr) (c_vb c_var) (c_vb c_int))))
      (c_last (c_append rfl (by decide) c_str))
      c_skip)
      (c_last (c_ret (c_tuple rfl rfl W.b_tuple c_bor)))))))))))

theorem sc_row_of : FnScope ["plan", "text", "key", "parent", "amount", "tag"] ["plan", "text"] (defScope (top 13)) := ⟨rfl, rfl, rfl, by decide +kernel, rfl, by decide +kernel, by decide +kernel⟩
theorem ok_row_of (W : Wd G mg) : Fd G P w mg base "row_of" .v 3 ["plan", "text"] d_row_of := by
  refine Fd.of (Nm := ["plan", "text", "key", "parent", "amount", "tag"]) W.f_row_of W.g_row_of sc_row_of (fun _ _ _ _ _ _ us hl => match us, hl with | [_, _], _ => rfl) (m := m_row_of) (k := 2) (O' := []) (fun cdv A outer s H E N hr => ?_)
  exact (c_seq (c_if (t_gt (c_vb (c_len rfl rfl W.b_len (c_vb (c_callG (ok_faults W) hr pas (c_acons c_var (c_acons c_var c_anil)))))) (c_vb c_int))
      (c_last (c_raiseX W.x_NoRow (L2N.takes_of rfl rfl rfl rfl)))
      c_skip)
      (c_seq (c_setT (c_ov (c_split rfl (c_vb c_var) (c_vb c_str))) (g_lst rfl rfl (gs_cons (gs_cons (gs_cons (gs_cons gs_nil sc_row_of.nd) sc_row_of.nd) sc_row_of.nd) sc_row_of.nd)))
      (c_seq (c_if (t_eq rfl (huR hr) (c_vb c_var) (c_vb (c_gstr W.k_NONE)))
      (c_last (c_ret (c_tup (c_acons c_var (c_acons c_non (c_acons (c_int1 rfl W.b_int (c_vb c_var)) (c_acons c_var c_anil)))))))
      c_skip)
      (c_last (c_ret (c_tup (c_acons c_var (c_acons c_var (c_acons (c_int1 rfl W.b_int (c_vb c_var)) (c_acons c_var c_anil))))))))))

def qr : Nat → Pos := fun n => ([⟨76, 8, 76, 13⟩, ⟨76, 16, 76, 22⟩, ⟨76, 23, 76, 27⟩, ⟨76, 29, 76, 33⟩, ⟨76, 16, 76, 34⟩, ⟨76, 8, 76, 34⟩, ⟨77, 11, 77, 16⟩, ⟨78, 8, 78, 13⟩, ⟨78, 16, 78, 20⟩, ⟨78, 8, 78, 20⟩, ⟨77, 4, 78, 20⟩, ⟨75, 4, 78, 20⟩, ⟨79, 11, 79, 16⟩, ⟨79, 4, 79, 16⟩] : List Pos).getD n ⟨0, 0, 0, 0⟩
theorem ok__law_read (W : Wd G mg) : Fd G P w mg base "_law_read" .v 4 ["plan", "text"] d_law_read :=
  Fd.read (q := qr) W.f__law_read W.g__law_read ⟨rfl, rfl, rfl, by decide +kernel, rfl, by decide +kernel, by decide +kernel⟩ (fun _ _ _ _ _ _ us hl => match us, hl with | [_, _], _ => rfl) rfl (ok_row_of W) W.x_NoRow.glo W.xr W.x_NoRow.ex rfl rfl rfl rfl rfl

theorem sc_law : FnScope ["script", "plan", "low", "high", "tags", "row", "text", "number", "words", "odd", "due", "k", "name", "drawn", "new", "wide", "amount", "some", "odd_text", "fault"] ["script"] (defScope (top 22)) := ⟨rfl, rfl, rfl, by decide +kernel, rfl, by decide +kernel, by decide +kernel⟩
theorem ok_law (W : Wd G mg) : Fd G P w mg base "law" .v 5 ["script"] d_law_k12 := by
  refine Fd.of (Nm := ["script", "plan", "low", "high", "tags", "row", "text", "number", "words", "odd", "due", "k", "name", "drawn", "new", "wide", "amount", "some", "odd_text", "fault"]) W.f_law W.g_law sc_law (fun _ _ _ _ _ _ us hl => match us, hl with | [_], _ => rfl) (m := m_law_k12) (k := 4) (O' := []) (fun cdv A outer s H E N hr => ?_)
  exact (c_seq (c_set sc_law.nd (c_callG (ok__law_plan W) hr pas (c_acons (c_callG (ok__law_mixed W) hr pas (c_acons c_var (c_acons c_int c_anil))) c_anil)))
      (c_seq (c_setT c_var (g_tup rfl rfl (gs_cons (gs_cons (gs_cons gs_nil sc_law.nd) sc_law.nd) sc_law.nd)))
      (c_seq (c_set sc_law.nd (c_callG (ok__law_row W) hr pas (c_acons c_var (c_acons (c_callG (ok__law_mixed W) hr pas (c_acons c_var (c_acons c_int c_anil))) c_anil))))
      (c_seq (c_set sc_law.nd (c_callG (ok_written W) hr pas (c_acons c_var c_anil)))
      (c_seq (c_if (PW.pt (c_wor (t_ne rfl (huR hr) (c_vb (c_callG (ok_faults W) hr pas (c_acons c_var (c_acons c_var c_anil)))) (c_vb (c_tup c_anil))) (c_wor1 (t_ne rfl (huR hr) (c_vb (c_callG (ok__law_read W) hr pas (c_acons c_var (c_acons c_var c_anil)))) (c_vb c_var)))))
      (c_last (c_ret c_bl))
      c_skip)
      (c_seq (c_set sc_law.nd (c_callG (ok__law_mixed W) hr pas (c_acons c_var (c_acons c_int c_anil))))
      (c_seq (c_setO sc_law.nd (c_split rfl (c_vb c_var) (c_vb c_str)))
      (c_seq (c_set sc_law.nd (c_tup (c_acons (c_tup (c_acons c_str (c_acons c_str (c_acons c_str c_anil)))) (c_acons (c_tup (c_acons c_str (c_acons c_str c_anil))) (c_acons (c_tup (c_acons c_str (c_acons c_str (c_acons c_str (c_acons c_str c_anil))))) (c_acons (c_tup (c_acons c_str (c_acons c_str c_anil))) c_anil))))))
      (c_seq (c_set sc_law.nd (c_tup c_anil))
      (c_seq (c_for pasO rfl (c_ienum rfl rfl W.b_enumerate (c_acons (c_tup (c_acons c_str (c_acons c_str (c_acons c_str (c_acons c_str c_anil))))) c_anil)) (g_tup rfl rfl (gs_cons (gs_cons gs_nil sc_law.nd) sc_law.nd))
      (c_seq (c_set sc_law.nd (c_fdiv (c_vb (c_callG (ok__law_drawn W) hr pas (c_acons c_var (c_acons c_var c_anil)))) (c_vb c_int)))
      (c_last (c_if (t_eq rfl (huR hr) (c_vb (c_mod (c_vb c_var) (c_vb c_int))) (c_vb c_int))
      (c_seq (c_putL (by decide) (c_subscr rfl (huR hr) (c_vb (c_subscr rfl (huR hr) (c_vb c_var) (c_vb c_var))) (c_vb (c_mod (c_vb (c_fdiv (c_vb c_var) (c_vb c_int))) (c_vb (c_len rfl rfl W.b_len (c_vb (c_subscr rfl (huR hr) (c_vb c_var) (c_vb c_var)))))))) c_var)
      (c_last (c_set sc_law.nd (c_add rfl (c_vb c_var) (c_vb (c_tup (c_acons c_var c_anil)))))))
      c_skip))))
      (c_seq (c_set sc_law.nd (c_join rfl (c_vb c_str) c_bor))
      (c_seq (c_if (PW.pt (c_wor (t_ne rfl (huR hr) (c_vb (c_callG (ok_faults W) hr pas (c_acons c_var (c_acons c_var c_anil)))) (c_vb c_var)) (c_wor1 (t_ne rfl (huR hr) (c_vb (c_isN (c_vb (c_callG (ok__law_read W) hr pas (c_acons c_var (c_acons c_var c_anil)))) (c_vb c_non))) (c_vb (c_ne rfl (huR hr) (c_vb c_var) (c_vb (c_tup c_anil))))))))
      (c_last (c_ret c_bl))
      c_skip)
      (c_seq (c_set sc_law.nd (c_tup (c_acons c_int (c_acons c_int (c_acons (c_tuple rfl rfl W.b_tuple (c_vb (c_slice rfl (c_ob (c_sortSetT rfl rfl rfl W.b_sorted rfl W.b_set (c_vb (c_add rfl (c_vb c_var) (c_vb (c_tup (c_acons c_str c_anil))))))) o_none (o_some c_int)))) c_anil)))))
      (c_seq (c_if (t_ne rfl (huR hr) (c_ob (c_lc (own := [("fault", 19)]) rfl sc_law.nd (c_iseq rfl (c_callG (ok_faults W) hr pas (c_acons c_var (c_acons c_var c_anil)))) (blk_ok (by kernel_rfl)) (fun _ _ _ _ _ => (g_name sc_law.nd)) (fun _ _ _ _ _ => (c_ts1 (t_nin rfl (huR hr) (c_vb c_var) (c_vb (c_add rfl (c_vb c_var) (c_vb (c_tup (c_acons c_str c_anil)))))))) (fun _ _ _ _ _ => c_var))) (c_ob (c_lst c_anil)))
      (c_last (c_ret c_bl))
      c_skip)
      (c_seq (c_if (t_ne rfl (huR hr) (c_vb (c_callG (ok_faults W) hr pas (c_acons (c_tup (c_acons c_int (c_acons c_int (c_acons c_var c_anil)))) (c_acons c_var c_anil)))) (c_vb c_var))
      (c_last (c_ret c_bl))
      c_skip)
      (c_seq (c_for pasO rfl (c_iseq rfl (c_tup (c_acons (c_sub (c_vb c_var) (c_vb c_int)) (c_acons c_var (c_acons c_var (c_acons (c_add rfl (c_vb c_var) (c_vb c_int)) c_anil)))))) (g_name sc_law.nd)
      (c_last (c_if (t_lelt (c_vb c_int) (c_vb c_var) (c_vb c_int))
      (c_seq (c_set sc_law.nd (c_callG (ok_faults W) hr pas (c_acons c_var (c_acons (c_join rfl (c_vb c_str) (c_ob (c_lst (c_acons (c_subscr rfl (huR hr) (c_vb c_var) (c_vb c_int)) (c_acons c_str (c_acons (c_strI rfl W.b_str (c_vb c_var)) (c_acons (c_subscr rfl (huR hr) (c_vb c_var) (c_vb c_int)) c_anil))))))) c_anil))))
      (c_last (c_if (t_ne rfl (huR hr) (c_vb c_var) (c_vb (c_rep rfl (c_vb (c_tup (c_acons c_str c_anil))) (c_vb (c_int1 rfl W.b_int (c_vb (c_not (c_lele (c_vb c_var) (c_vb c_var) (c_vb c_var)))))))))
      (c_last (c_ret c_bl))
      c_skip)))
      c_skip)))
      (c_seq (c_for pasO rfl (c_iseq rfl (c_tup (c_acons (c_add rfl (c_vb c_var) (c_vb c_str)) (c_acons (c_add rfl (c_vb c_str) (c_vb c_var)) (c_acons c_str (c_acons (c_add rfl (c_vb c_var) (c_vb c_str)) c_anil)))))) (g_name sc_law.nd)
      (c_last (c_if (t_ne rfl (huR hr) (c_vb (c_callG (ok_faults W) hr pas (c_acons c_var (c_acons c_var c_anil)))) (c_vb (c_tup (c_acons c_str c_anil))))
      (c_last (c_ret c_bl))
      c_skip)))
      (c_last (c_ret c_bl)))))))))))))))))))

end
end Lk12

/-! Ev: the meanings, computed (pure). -/
namespace Dn
section
variable {env : Env} {st : Sto} {a b c m n : ME} {ms : MA} {p q : MS} {d d2 : D} {i : Nat}
@[simp] theorem ev_var : eVar i env st = (match env[i]? with | some (some d) => .ok d st | _ => .bad) := rfl
@[simp] theorem ev_c : eC d env st = .ok d st := rfl
@[simp] theorem ev_e1 {g : D → Option D} : e1 g m env st = (m env st).bind fun x st => ofOpt (g x) st := rfl
@[simp] theorem ev_e2 {g : D → D → Option D} : e2 g m n env st = (m env st).bind fun x st => (n env st).bind fun y st => ofOpt (g x y) st := rfl
@[simp] theorem ev_and : eAnd a b env st = (a env st).bind fun x st => match x with | .bool true => b env st | .bool false => .ok (.bool false) st | _ => .bad := rfl
@[simp] theorem ev_or : eOr a b env st = (a env st).bind fun x st => match x with | .bool true => .ok (.bool true) st | .bool false => b env st | _ => .bad := rfl
@[simp] theorem ev_not : eNot a env st = (a env st).bind fun x st => match x with | .bool b => .ok (.bool (!b)) st | _ => .bad := rfl
@[simp] theorem ev_if : eIf c a b env st = (c env st).bind fun x st => match x with | .bool true => a env st | .bool false => b env st | _ => .bad := rfl
@[simp] theorem ev_chain {g h : D → D → Option D} : eChain g h a b c env st = (a env st).bind fun x st => (b env st).bind fun y st => match g x y with | some (.bool true) => (c env st).bind fun z st => ofOpt (h y z) st | some (.bool false) => .ok (.bool false) st | _ => .bad := rfl
@[simp] theorem ev_nil : aNil env st = .ok [] st := rfl
@[simp] theorem ev_cons : aCons m ms env st = (m env st).bind fun x st => (ms env st).bind fun xs st => .ok (x :: xs) st := rfl
@[simp] theorem ev_eA {g : List D → Option D} : eA g ms env st = (ms env st).bind fun xs st => ofOpt (g xs) st := rfl
@[simp] theorem ev_call {f : List D → Sto → R D} : eCall f ms env st = (ms env st).bind fun xs st => f xs st := rfl
@[simp] theorem ev_eM {ty : D → Bool} {g : D → List D → Option D} : eM ty g m ms env st = (m env st).bind fun x st => if ty x then (ms env st).bind fun xs st => ofOpt (g x xs) st else .bad := rfl
@[simp] theorem ev_slice {lo hi : MO} : eSlice m lo hi env st = (m env st).bind fun x st => (lo env st).bind fun l st => (hi env st).bind fun h st => ofOpt (sliceD x l h) st := rfl
@[simp] theorem ev_oNone : oNone env st = .ok none st := rfl
@[simp] theorem ev_oSome : oSome m env st = (m env st).bind fun x st => match x with | .int i => .ok (some i) st | _ => .bad := rfl
@[simp] theorem ev_iSeq : iSeq m env st = (m env st).bind fun x st => ofOpt (itemsOf x) st := rfl
@[simp] theorem ev_iRange : iRange m env st = (m env st).bind fun x st => ofOpt (rangeD x) st := rfl
@[simp] theorem ev_iEnum : iEnum m env st = (m env st).bind fun x st => ofOpt (enumD x) st := rfl
@[simp] theorem ev_iZip : iZip m n env st = (m env st).bind fun x st => (n env st).bind fun y st => ofOpt (zipD x y) st := rfl
@[simp] theorem ev_gN : gN i d env = if i < env.length then some (env.set i (some d)) else none := rfl
@[simp] theorem ev_skip : sSkip env st = .nx env st := rfl
@[simp] theorem ev_seq : sSeq p q env st = match p env st with | .nx e1 s1 => q e1 s1 | r => r := rfl
@[simp] theorem ev_asg {tg : TGt} : sAsg tg m env st = match m env st with | .ok d st1 => (match tg d env with | some env1 => .nx env1 st1 | none => .bad) | .exc c st1 => .exc c st1 | .bad => .bad := rfl
@[simp] theorem ev_sif : sIf c p q env st = match c env st with | .ok (.bool true) st1 => p env st1 | .ok (.bool false) st1 => q env st1 | .exc x st1 => .exc x st1 | _ => .bad := rfl
@[simp] theorem ev_ret : sRet m env st = match m env st with | .ok d st1 => .rt d st1 | .exc c st1 => .exc c st1 | .bad => .bad := rfl
@[simp] theorem ev_raise {k : Nat} : sRaise k env st = .exc k st := rfl
@[simp] theorem ev_expr : sExpr m env st = match m env st with | .ok _ st1 => .nx env st1 | .exc c st1 => .exc c st1 | .bad => .bad := rfl
@[simp] theorem ev_for {it : MI} {tg : TGt} : sFor it tg p env st = match it env st with | .ok ds st1 => forL tg p ds env st1 | .exc c st1 => .exc c st1 | .bad => .bad := rfl
@[simp] theorem ev_upd {ty : D → Bool} {g : D → List D → Option D} : sUpd i ty g ms env st = match env[i]? with
  | some (some d) => if ty d then (match ms env st with
    | .ok ds st1 => (match g d ds with
      | some d' => .nx (env.set i (some d')) st1
      | none => .bad)
    | .exc c st1 => .exc c st1
    | .bad => .bad) else .bad
  | _ => .bad := rfl
@[simp] theorem ev_gT {is : List Nat} {ds : List D} : gT is (.tup ds) env = gSetAll is ds env := rfl
@[simp] theorem ev_gL {is : List Nat} {ds : List D} : gL is (.list ds) env = gSetAll is ds env := rfl
@[simp] theorem ev_gS0 : gSetAll [] [] env = some env := rfl
@[simp] theorem ev_gS1 {is : List Nat} {ds : List D} : gSetAll (i :: is) (d :: ds) env = if i < env.length then gSetAll is ds (env.set i (some d)) else none := rfl
@[simp] theorem ev_for0 {tg : TGt} : forL tg p [] env st = .nx env st := rfl
@[simp] theorem sz_eq : SZ = 16777216 := rfl
/-- comprehensions -/
theorem compL_ok {tg : TGt} {t e : ME} {f : D → Option D} : ∀ {ds : List D}, (∀ d ∈ ds, ∃ env1, tg d env = some env1 ∧ ((∃ y, t env1 st = .ok (.bool true) st ∧ e env1 st = .ok y st ∧ f d = some y) ∨ (t env1 st = .ok (.bool false) st ∧ f d = none))) →
    compL tg t e env ds st = .ok (ds.filterMap f) st
  | [], _ => rfl
  | d :: ds, h => by
    have ih := compL_ok (ds := ds) fun d' hd => h d' (List.mem_cons_of_mem _ hd)
    obtain ⟨env1, h1, h2⟩ := h d List.mem_cons_self
    unfold compL
    rw [h1]
    rcases h2 with ⟨y, h2, h3, h4⟩ | ⟨h2, h3⟩
    · simp only [h2, h3, ih, R.bind_ok, List.filterMap_cons, h4]
    · simp only [h2, ih, List.filterMap_cons, h3]
theorem comp_ok {it : MI} {own : List Nat} {tg : TGt} {t e : ME} {f : D → Option D} {ds : List D} (hi : it env st = .ok ds st) (h : ∀ d ∈ ds, ∃ env1, tg d (wipeE env own) = some env1 ∧ ((∃ y, t env1 st = .ok (.bool true) st ∧ e env1 st = .ok y st ∧ f d = some y) ∨ (t env1 st = .ok (.bool false) st ∧ f d = none))) :
    eComp it own tg t e env st = .ok (.list (ds.filterMap f)) st := by
  unfold eComp
  rw [hi]
  simp only [R.bind_ok, compL_ok h, noexc_ok]
theorem comp_map {it : MI} {own : List Nat} {tg : TGt} {e : ME} {f : D → D} {ds : List D} (hi : it env st = .ok ds st) (h : ∀ d ∈ ds, ∃ env1, tg d (wipeE env own) = some env1 ∧ e env1 st = .ok (f d) st) :
    eComp it own tg (eC (.bool true)) e env st = .ok (.list (ds.map f)) st := by
  rw [comp_ok (f := fun d => some (f d)) hi fun d hd => ?_]
  · simp
  · obtain ⟨e1, h1, h2⟩ := h d hd
    exact ⟨e1, h1, .inl ⟨f d, rfl, h2, rfl⟩⟩
theorem comp_filter {it : MI} {own : List Nat} {tg : TGt} {t e : ME} {g : D → Bool} {ds : List D} (hi : it env st = .ok ds st) (h : ∀ d ∈ ds, ∃ env1, tg d (wipeE env own) = some env1 ∧ t env1 st = .ok (.bool (g d)) st ∧ e env1 st = .ok d st) :
    eComp it own tg t e env st = .ok (.list (ds.filter g)) st := by
  rw [comp_ok (f := fun d => if g d then some d else none) hi fun d hd => ?_]
  · congr 2
    induction ds with
    | nil => rfl
    | cons d ds ih => 
      simp only [List.filterMap_cons, List.filter_cons]
      cases g d <;> simp
      all_goals (have := List.filterMap_eq_filter (p := g) ; exact congrFun this ds)
  · obtain ⟨e1, h1, h2, h3⟩ := h d hd
    refine ⟨e1, h1, ?_⟩
    cases e : g d with
    | true => rw [e] at h2; exact .inl ⟨d, h2, h3, by simp [e]⟩
    | false => rw [e] at h2; exact .inr ⟨h2, by simp [e]⟩
/-- a loop by an invariant over what is left -/
theorem forL_inv {tg : TGt} {I : List D → Env → Prop} (step : ∀ d ds env, I (d :: ds) env → ∃ env1 env2, tg d env = some env1 ∧ p env1 st = .nx env2 st ∧ I ds env2) : ∀ {ds : List D} {env : Env}, I ds env → ∃ env', forL tg p ds env st = .nx env' st ∧ I [] env'
  | [], env, h => ⟨env, rfl, h⟩
  | d :: ds, env, h => by
    obtain ⟨e1, e2, h1, h2, h3⟩ := step d ds env h
    obtain ⟨e', h4, h5⟩ := forL_inv step h3
    exact ⟨e', by unfold forL; simp only [h1, h2]; exact h4, h5⟩
end
end Dn

/-! PuPre: the laws' draws, names, plans, rows (pure). -/
namespace Dn
abbrev scr (ns : List Int) : D := .ro (ns.map D.int)
theorem cell_at (ns : List Int) (k : Nat) (st : Sto) : ∃ c : Int, d_law_cell_at [scr ns, .int k] st = .ok (.int c) st := by
  by_cases h : k < ns.length
  · refine ⟨ns[k], ?_⟩
    have h2 : (k : Int) < (ns.length : Int) := by omega
    simp [d_law_cell_at, runDef, env0, m_law_cell_at, lenD, ltD, idxD, ixD, h, h2]
  · refine ⟨0, ?_⟩
    have h2 : ¬ (k : Int) < (ns.length : Int) := by omega
    simp [d_law_cell_at, runDef, env0, m_law_cell_at, lenD, ltD, h2]
theorem lcg_lt (x m : Int) (hm : 0 < m) : 0 ≤ x % m ∧ x % m < m := ⟨Int.emod_nonneg _ (by omega), Int.emod_lt_of_pos _ hm⟩
theorem mul_small {i j : Int} (h : -W64 < i ∧ i < W64 ∨ -W64 < j ∧ j < W64) : mulD (.int i) (.int j) = some (.int (i * j)) := by simp only [mulD]; rw [if_pos h]
theorem mod_pos {i j : Int} (h : 0 < j) : modD (.int i) (.int j) = some (.int (i % j)) := by simp only [modD]; rw [if_pos h]
theorem fdiv_pos {i j : Int} (h : 0 < j ∧ j < 1073741824) : fdivD (.int i) (.int j) = some (.int (i / j)) := by simp only [fdivD]; rw [if_pos h]
@[simp] theorem add_int {i j : Int} : addD (.int i) (.int j) = some (.int (i + j)) := rfl
@[simp] theorem sub_int {i j : Int} : subD (.int i) (.int j) = some (.int (i - j)) := rfl
theorem mixed (ns : List Int) (k : Nat) (st : Sto) : ∃ n : Int, d_law_mixed [scr ns, .int k] st = .ok (.int n) st ∧ 0 ≤ n ∧ n < 2147483629 := by
  obtain ⟨c, hc⟩ := cell_at ns k st
  have w : W64 = 18446744073709551616 := rfl
  obtain ⟨h1, h2⟩ := lcg_lt ((c + 7919 * (k : Int) + 1) * 48271) 2147483647 (by omega)
  generalize hd : (c + 7919 * (k : Int) + 1) * 48271 % 2147483647 = dr at h1 h2
  have m1 : mulD (.int 7919) (.int k) = some (.int (7919 * k)) := mul_small (.inl (by omega))
  have m2 : mulD (.int (c + 7919 * (k : Int) + 1)) (.int 48271) = some (.int ((c + 7919 * (k : Int) + 1) * 48271)) := mul_small (.inr (by omega))
  have m3 : mulD (.int dr) (.int dr) = some (.int (dr * dr)) := mul_small (.inl (by omega))
  have m4 : mulD (.int 7) (.int dr) = some (.int (7 * dr)) := mul_small (.inl (by omega))
  have m5 : modD (.int ((c + 7919 * (k : Int) + 1) * 48271)) (.int 2147483647) = some (.int dr) := by rw [mod_pos (by omega), hd]
  refine ⟨(dr * dr + 7 * dr + k) % 2147483629, ?_, lcg_lt _ _ (by omega)⟩
  simp [d_law_mixed, runDef, env0, m_law_mixed, hc, m1, m2, m3, m4, m5, mod_pos]
theorem mixedZ (ns : List Int) (k : Int) (hk : 0 ≤ k) (st : Sto) : ∃ n : Int, d_law_mixed [scr ns, .int k] st = .ok (.int n) st ∧ 0 ≤ n ∧ n < 2147483629 := by
  have := mixed ns k.toNat st
  rwa [Int.toNat_of_nonneg hk] at this
/-- the number drawn -/
def drawnN (n k : Int) : Int := let dr := (n + 104729 * k + 17) * 69621 % 2147483647; (dr * dr + 3 * dr + k) % 2147483629
theorem drawn_eq (n k : Int) (st : Sto) : d_law_drawn [.int n, .int k] st = .ok (.int (drawnN n k)) st := by
  have w : W64 = 18446744073709551616 := rfl
  obtain ⟨h1, h2⟩ := lcg_lt ((n + 104729 * k + 17) * 69621) 2147483647 (by omega)
  unfold drawnN
  generalize hd : (n + 104729 * k + 17) * 69621 % 2147483647 = dr at h1 h2 ⊢
  have m1 : mulD (.int 104729) (.int k) = some (.int (104729 * k)) := mul_small (.inl (by omega))
  have m2 : mulD (.int (n + 104729 * k + 17)) (.int 69621) = some (.int ((n + 104729 * k + 17) * 69621)) := mul_small (.inr (by omega))
  have m3 : mulD (.int dr) (.int dr) = some (.int (dr * dr)) := mul_small (.inl (by omega))
  have m4 : mulD (.int 3) (.int dr) = some (.int (3 * dr)) := mul_small (.inl (by omega))
  have m5 : modD (.int ((n + 104729 * k + 17) * 69621)) (.int 2147483647) = some (.int dr) := by rw [mod_pos (by omega), hd]
  simp [d_law_drawn, runDef, env0, m_law_drawn, m1, m2, m3, m4, m5, mod_pos]
theorem drawn_bd (n k : Int) : 0 ≤ drawnN n k ∧ drawnN n k < 2147483629 := lcg_lt _ _ (by omega)
/-- a name: one to five letters -/
def NameC (l : List Nat) : Prop := 1 ≤ l.length ∧ l.length ≤ 5 ∧ ∀ c ∈ l, 97 ≤ c ∧ c ≤ 122
instance (l : List Nat) : Decidable (NameC l) := inferInstanceAs (Decidable (_ ∧ _ ∧ _))
theorem range_ok {n : Int} (h0 : 0 ≤ n) (h1 : n ≤ 16777216) : rangeD (.int n) = some ((List.range n.toNat).map fun (k : Nat) => D.int (k : Int)) := by
  simp only [rangeD]; rw [if_pos (by have : SZ = 16777216 := rfl; omega)]
def abc : List Nat := [97, 98, 99, 100, 101, 102, 103, 104, 105, 106, 107, 108, 109, 110, 111, 112, 113, 114, 115, 116, 117, 118, 119, 120, 121, 122]
theorem abc_get {i : Int} (h0 : 0 ≤ i) (h1 : i < 26) : ∃ c : Nat, idxD (.str abc) (.int i) = some (.str [c]) ∧ 97 ≤ c ∧ c ≤ 122 := by
  have h2 : i.toNat < 26 := by omega
  have hl : abc.length = 26 := rfl
  have e : abc[i.toNat]? = some (97 + i.toNat) := by
    have key : ∀ j, j < 26 → abc[j]? = some (97 + j) := by decide
    exact key _ h2
  refine ⟨97 + i.toNat, ?_, by omega, by omega⟩
  simp only [idxD, ixD, hl]
  rw [if_pos h0, if_pos (by omega)]
  simp [e]
theorem strs_map (ls : List (List Nat)) : strsD (ls.map D.str) = some ls := by
  induction ls with
  | nil => rfl
  | cons l ls ih => simp [strsD, ih]
theorem joinC_nil : ∀ ls : List (List Nat), joinC [] ls = ls.flatten
  | [] => rfl
  | [l] => by simp [joinC]
  | l :: m :: ls => by simp [joinC, joinC_nil (m :: ls)]
theorem name_ok (n : Int) (h0 : 0 ≤ n) (st : Sto) : ∃ l, d_law_name [.int n] st = .ok (.str l) st ∧ NameC l := by
  have f5 : ∀ j : Int, fdivD (.int j) (.int 5) = some (.int (j / 5)) := fun j => fdiv_pos (by omega)
  have f4 : ∀ j : Int, fdivD (.int j) (.int 4) = some (.int (j / 4)) := fun j => fdiv_pos (by omega)
  have q5 : ∀ j : Int, modD (.int j) (.int 5) = some (.int (j % 5)) := fun j => mod_pos (by omega)
  have q7 : ∀ j : Int, modD (.int j) (.int 7) = some (.int (j % 7)) := fun j => mod_pos (by omega)
  have q26 : ∀ j : Int, modD (.int j) (.int 26) = some (.int (j % 26)) := fun j => mod_pos (by omega)
  by_cases h : 0 < n % 5
  · obtain ⟨i1, i2⟩ := lcg_lt (n / 5) 7 (by omega)
    have key : ∀ j : Nat, j < 7 → ∃ l, idxD (.tup [.str [97], .str [98], .str [99, 99], .str [114, 111, 111, 116], .str [100, 100], .str [101], .str [102]]) (.int (j : Int)) = some (.str l) ∧ NameC l := by
      intro j hj
      match j, hj with
      | 0, _ => exact ⟨_, rfl, by decide⟩
      | 1, _ => exact ⟨_, rfl, by decide⟩
      | 2, _ => exact ⟨_, rfl, by decide⟩
      | 3, _ => exact ⟨_, rfl, by decide⟩
      | 4, _ => exact ⟨_, rfl, by decide⟩
      | 5, _ => exact ⟨_, rfl, by decide⟩
      | 6, _ => exact ⟨_, rfl, by decide⟩
      | j + 7, h => omega
    obtain ⟨l, hl, hn⟩ := key (n / 5 % 7).toNat (by omega)
    rw [Int.toNat_of_nonneg i1] at hl
    refine ⟨l, ?_, hn⟩
    simp [d_law_name, runDef, env0, m_law_name, f5, q5, q7, gtD, h, dispT, hl]
  · obtain ⟨i1, i2⟩ := lcg_lt (n / 5) 5 (by omega)
    have hr : rangeD (.int (1 + n / 5 % 5)) = some ((List.range (1 + n / 5 % 5).toNat).map fun (k : Nat) => D.int (k : Int)) := range_ok (by omega) (by omega)
    have sgn : ∀ k : Nat, ∃ c : Nat, idxD (.str abc) (.int (drawnN n (70 + k) / 4 % 26)) = some (.str [c]) ∧ 97 ≤ c ∧ c ≤ 122 := fun k => by
      obtain ⟨j1, j2⟩ := lcg_lt (drawnN n (70 + k) / 4) 26 (by omega)
      exact abc_get j1 j2
    have fs : ∃ f : Nat → Nat, ∀ k : Nat, idxD (.str abc) (.int (drawnN n (70 + k) / 4 % 26)) = some (.str [f k]) ∧ 97 ≤ f k ∧ f k ≤ 122 := ⟨fun k => Classical.choose (sgn k), fun k => Classical.choose_spec (sgn k)⟩
    obtain ⟨f, hf⟩ := fs
    have e := comp_map (env := [some (.int n), some (.str abc), none]) (st := st) (it := iRange (e2 addD (eC (.int 1)) (e2 modD (e2 fdivD (eVar 0) (eC (.int 5))) (eC (.int 5))))) (own := [2]) (tg := gN 2) (ds := (List.range (1 + n / 5 % 5).toNat).map fun (k : Nat) => D.int (k : Int))
      (e := e2 idxD (eVar 1) (e2 modD (e2 fdivD (eCall d_law_drawn (aCons (eVar 0) (aCons (e2 addD (eC (.int 70)) (eVar 2)) aNil))) (eC (.int 4))) (eC (.int 26)))) (f := fun d => match d with | .int k => .str [f k.toNat] | _ => .non)
      (by simp [f5, q5, hr]) (fun d hd => by
        obtain ⟨k, hk, rfl⟩ := List.mem_map.mp hd
        exact ⟨_, rfl, by simp [wipeE, drawn_eq, f4, q26, (hf k).1]⟩)
    have hlen : (1 + n / 5 % 5).toNat ≤ 5 := by omega
    have hlen1 : 1 ≤ (1 + n / 5 % 5).toNat := by omega
    generalize (1 + n / 5 % 5).toNat = N at e hlen hlen1
    have e2' : ((List.range N).map fun (k : Nat) => D.int (k : Int)).map (fun d => match d with | .int k => D.str [f k.toNat] | _ => .non) = ((List.range N).map fun k => [f k]).map D.str := by
      simp [List.map_map, Function.comp_def]
    rw [e2'] at e
    have hL : ∃ L : List (List Nat), L = (List.range N).map fun k => [f k] := ⟨_, rfl⟩
    obtain ⟨L, hL⟩ := hL
    rw [← hL] at e
    have s1 : (L.map List.length).sum = N := by
      have key : ∀ xs : List Nat, ((xs.map fun k => [f k]).map List.length).sum = xs.length := by
        intro xs
        induction xs with
        | nil => rfl
        | cons x xs ih => simp only [List.map_cons, List.sum_cons, ih, List.length_cons, List.length_nil]; omega
      rw [hL, key, List.length_range]
    have s2 : L.flatten = (List.range N).map f := by
      rw [hL]
      induction (List.range N) with
      | nil => rfl
      | cons x xs ih => simp [ih]
    have hj : joinD (.str []) [.list (L.map D.str)] = some (.str ((List.range N).map f)) := by
      simp only [joinD, strs_map, Option.bind_some, List.length_nil, Nat.mul_zero, Nat.add_zero, s1]
      rw [if_pos (by have : SZ = 16777216 := rfl; omega), joinC_nil, s2]
    refine ⟨(List.range N).map f, ?_, by simpa using hlen1, by simpa using hlen, fun c hc => ?_⟩
    · have h' : ¬ (0 : Int) < n % 5 := h
      simp only [abc] at e
      simp [d_law_name, runDef, env0, m_law_name, q5, gtD, h', e, isStrD, hj]
    · obtain ⟨k, _, rfl⟩ := List.mem_map.mp hc
      exact (hf k).2
/-- a plan: low, high, tags -/
def planD (lo hi : Int) (tags : List (List Nat)) : D := .tup [.int lo, .int hi, .tup (tags.map D.str)]
structure PlanOk (lo hi : Int) (tags : List (List Nat)) : Prop where
  lo0 : 0 ≤ lo
  hi0 : lo ≤ hi
  hi1 : hi ≤ 999
  ne : 1 ≤ tags.length
  few : tags.length ≤ 3
  name : ∀ t ∈ tags, NameC t
  srt : SortedT tags
  nd : tags.Nodup
theorem nub_len (ls : List (List Nat)) : (nubS ls).length ≤ ls.length := by
  have go : ∀ (l acc : List (List Nat)), (l.foldl (fun acc x => if x ∈ acc then acc else insS ltS x acc) acc).length ≤ l.length + acc.length := by
    intro l
    induction l with
    | nil => intro acc; simp
    | cons x r ih =>
      intro acc
      simp only [List.foldl_cons, List.length_cons]
      split
      · have := ih acc; omega
      · have := ih (insS ltS x acc)
        have e := (insS_perm ltS x acc).length_eq
        rw [List.length_cons] at e
        omega
  exact go ls []
theorem plan_ok (n : Int) (h0 : 0 ≤ n) (st : Sto) : ∃ lo hi tags, d_law_plan [.int n] st = .ok (planD lo hi tags) st ∧ PlanOk lo hi tags := by
  have f8 : ∀ j : Int, fdivD (.int j) (.int 8) = some (.int (j / 8)) := fun j => fdiv_pos (by omega)
  have f4 : ∀ j : Int, fdivD (.int j) (.int 4) = some (.int (j / 4)) := fun j => fdiv_pos (by omega)
  have f2 : ∀ j : Int, fdivD (.int j) (.int 2) = some (.int (j / 2)) := fun j => fdiv_pos (by omega)
  have f4096 : ∀ j : Int, fdivD (.int j) (.int 4096) = some (.int (j / 4096)) := fun j => fdiv_pos (by omega)
  have q2 : ∀ j : Int, modD (.int j) (.int 2) = some (.int (j % 2)) := fun j => mod_pos (by omega)
  have q3 : ∀ j : Int, modD (.int j) (.int 3) = some (.int (j % 3)) := fun j => mod_pos (by omega)
  obtain ⟨i1, i2⟩ := lcg_lt n 2 (by omega)
  -- low
  have hlow : ∃ lo : Int, 0 ≤ lo ∧ lo ≤ 999 ∧ ∃ j : Int, idxD (.tup [.int 1000, .int 5]) (.int (n % 2)) = some (.int j) ∧ modD (.int (n / 8)) (.int j) = some (.int lo) := by
    have : n % 2 = 0 ∨ n % 2 = 1 := by omega
    rcases this with h | h
    · rw [h]
      obtain ⟨a, b⟩ := lcg_lt (n / 8) 1000 (by omega)
      exact ⟨_, a, by omega, 1000, rfl, mod_pos (by omega)⟩
    · rw [h]
      obtain ⟨a, b⟩ := lcg_lt (n / 8) 5 (by omega)
      exact ⟨_, a, by omega, 5, rfl, mod_pos (by omega)⟩
  obtain ⟨lo, l1, l2, j, z1, z2⟩ := hlow
  obtain ⟨k1, k2⟩ := lcg_lt (n / 4096) (1000 - lo) (by omega)
  have z3 : modD (.int (n / 4096)) (.int (1000 - lo)) = some (.int (n / 4096 % (1000 - lo))) := mod_pos (by omega)
  have hr : rangeD (.int (1 + n / 2 % 3)) = some ((List.range (1 + n / 2 % 3).toNat).map fun (k : Nat) => D.int (k : Int)) := range_ok (by omega) (by omega)
  have nm : ∀ k : Nat, ∃ l, d_law_name [.int (drawnN n (60 + k) / 4)] st = .ok (.str l) st ∧ NameC l := fun k => name_ok _ (by have := (drawn_bd n (60 + k)).1; omega) st
  obtain ⟨f, hf⟩ : ∃ f : Nat → List Nat, ∀ k : Nat, d_law_name [.int (drawnN n (60 + k) / 4)] st = .ok (.str (f k)) st ∧ NameC (f k) := ⟨fun k => Classical.choose (nm k), fun k => Classical.choose_spec (nm k)⟩
  have e := comp_map (env := [some (.int n), some (.int lo), some (.int (lo + n / 4096 % (1000 - lo))), none, none]) (st := st) (it := iRange (e2 addD (eC (.int 1)) (e2 modD (e2 fdivD (eVar 0) (eC (.int 2))) (eC (.int 3))))) (own := [4]) (tg := gN 4) (ds := (List.range (1 + n / 2 % 3).toNat).map fun (k : Nat) => D.int (k : Int))
    (e := eCall d_law_name (aCons (e2 fdivD (eCall d_law_drawn (aCons (eVar 0) (aCons (e2 addD (eC (.int 60)) (eVar 4)) aNil))) (eC (.int 4))) aNil)) (f := fun d => match d with | .int k => .str (f k.toNat) | _ => .non)
    (by simp [f2, q3, hr]) (fun d hd => by
      obtain ⟨k, hk, rfl⟩ := List.mem_map.mp hd
      exact ⟨_, rfl, by simp [wipeE, drawn_eq, f4, (hf k).1]⟩)
  have hlen : (1 + n / 2 % 3).toNat ≤ 3 := by omega
  have hlen1 : 1 ≤ (1 + n / 2 % 3).toNat := by omega
  generalize (1 + n / 2 % 3).toNat = N at e hlen hlen1
  have e2' : ((List.range N).map fun (k : Nat) => D.int (k : Int)).map (fun d => match d with | .int k => D.str (f k.toNat) | _ => .non) = ((List.range N).map f).map D.str := by
    simp [List.map_map, Function.comp_def]
  rw [e2'] at e
  have hs : sortSetD [.list (((List.range N).map f).map D.str)] = some (.list ((nubS ((List.range N).map f)).map D.str)) := by
    simp only [sortSetD, strs_map, Option.bind_some]
    rw [if_pos (by simp; omega)]
  obtain ⟨n1, n2, n3⟩ := nubS_ok ((List.range N).map f)
  obtain ⟨L, hL⟩ : ∃ L, L = (List.range N).map f := ⟨_, rfl⟩
  rw [← hL] at e hs
  refine ⟨lo, lo + n / 4096 % (1000 - lo), nubS ((List.range N).map f), ?_, l1, by omega, by omega, ?_, Nat.le_trans (nub_len _) (by simpa using hlen), fun t ht => ?_, n1, n2⟩
  · simp [d_law_plan, runDef, env0, m_law_plan, f8, q2, dispT, z1, z2, f4096, z3, e, hs, tupleD, planD, ← hL]
  · have m0 : f 0 ∈ nubS ((List.range N).map f) := (n3 _).mpr (List.mem_map.mpr ⟨0, List.mem_range.mpr (by omega), rfl⟩)
    exact List.length_pos_iff.mpr (List.ne_nil_of_mem m0)
  · obtain ⟨k, _, rfl⟩ := List.mem_map.mp ((n3 t).mp ht)
    exact (hf k).2
/-- a row -/
def rowD (k : List Nat) (p : Option (List Nat)) (a : Int) (t : List Nat) : D := .tup [.str k, (match p with | none => .non | some q => .str q), .int a, .str t]
theorem row_ok {lo hi : Int} {tags : List (List Nat)} (P : PlanOk lo hi tags) (n : Int) (h0 : 0 ≤ n) (st : Sto) : ∃ k p a t, d_law_row [planD lo hi tags, .int n] st = .ok (rowD k p a t) st ∧ NameC k ∧ (∀ q, p = some q → NameC q) ∧ lo ≤ a ∧ a ≤ hi ∧ t ∈ tags := by
  have f3 : ∀ j : Int, fdivD (.int j) (.int 3) = some (.int (j / 3)) := fun j => fdiv_pos (by omega)
  have f4 : ∀ j : Int, fdivD (.int j) (.int 4) = some (.int (j / 4)) := fun j => fdiv_pos (by omega)
  have f8 : ∀ j : Int, fdivD (.int j) (.int 8) = some (.int (j / 8)) := fun j => fdiv_pos (by omega)
  have f64 : ∀ j : Int, fdivD (.int j) (.int 64) = some (.int (j / 64)) := fun j => fdiv_pos (by omega)
  have q3 : ∀ j : Int, modD (.int j) (.int 3) = some (.int (j % 3)) := fun j => mod_pos (by omega)
  obtain ⟨pl, z1, hp⟩ := name_ok (n / 3) (by omega) st
  obtain ⟨kl, z2, hk⟩ := name_ok (drawnN n 1 / 4) (by have := (drawn_bd n 1).1; omega) st
  have hh := P.hi0
  have hl := P.lo0
  obtain ⟨a1, a2⟩ := lcg_lt (n / 64) (hi - lo + 1) (by omega)
  have z3 : modD (.int (n / 64)) (.int (hi - lo + 1)) = some (.int (n / 64 % (hi - lo + 1))) := mod_pos (by omega)
  have ht := P.ne
  obtain ⟨t1, t2⟩ := lcg_lt (n / 8) (tags.length : Int) (by omega)
  have z4 : modD (.int (n / 8)) (.int (tags.length : Int)) = some (.int (n / 8 % (tags.length : Int))) := mod_pos (by omega)
  have ti : (n / 8 % (tags.length : Int)).toNat < tags.length := by omega
  have z5 : idxD (.tup (tags.map D.str)) (.int (n / 8 % (tags.length : Int))) = some (.str tags[(n / 8 % (tags.length : Int)).toNat]) := by
    simp only [idxD, ixD, List.length_map]
    rw [if_pos t1, if_pos t2]
    simp [ti]
  have sz : tags.length ≤ 16777216 := by have := P.few; omega
  by_cases h : n % 3 = 0
  · refine ⟨kl, none, lo + n / 64 % (hi - lo + 1), _, ?_, hk, (fun q hq => by cases hq), by omega, by omega, List.getElem_mem ti⟩
    simp [d_law_row, runDef, env0, m_law_row, planD, f3, z1, q3, eqD, okD, eqB, h, drawn_eq, f4, z2, f64, z3, lenD, f8, z4, z5, dispT, rowD]
  · refine ⟨kl, some pl, lo + n / 64 % (hi - lo + 1), _, ?_, hk, (fun q hq => by cases hq; exact hp), by omega, by omega, List.getElem_mem ti⟩
    have hb : (n % 3 == 0) = false := by simpa using h
    simp [hb, d_law_row, runDef, env0, m_law_row, planD, f3, z1, q3, eqD, okD, eqB, h, drawn_eq, f4, z2, f64, z3, lenD, f8, z4, z5, dispT, rowD]
end Dn

/-! PuSto: stores (pure). -/
namespace Dn
/-! ### equality of plain data -/
mutual
def plB : D → Bool
  | .non => true
  | .int _ => true
  | .str _ => true
  | .list xs => plBs xs
  | .tup xs => plBs xs
  | _ => false
def plBs : List D → Bool
  | [] => true
  | x :: xs => plB x && plBs xs
end
mutual
theorem eqB_iff : ∀ (x y : D), plB x = true → plB y = true → (eqB x y = true ↔ x = y)
  | .non, y, _, hy => by cases y <;> simp [eqB, plB] at *
  | .int i, y, _, hy => by cases y <;> simp [eqB, plB] at *
  | .str i, y, _, hy => by cases y <;> simp [eqB, plB] at *
  | .list xs, y, hx, hy => by
    cases y <;> simp [eqB, plB] at *
    exact eqBs_iff xs _ hx hy
  | .tup xs, y, hx, hy => by
    cases y <;> simp [eqB, plB] at *
    exact eqBs_iff xs _ hx hy
  | .bool b, _, hx, _ => by simp [plB] at hx
  | .ro _, _, hx, _ => by simp [plB] at hx
  | .dict _, _, hx, _ => by simp [plB] at hx
  | .obj _, _, hx, _ => by simp [plB] at hx
theorem eqBs_iff : ∀ (xs ys : List D), plBs xs = true → plBs ys = true → (eqBs xs ys = true ↔ xs = ys)
  | [], ys, _, _ => by cases ys <;> simp [eqBs]
  | x :: xs, [], _, _ => by simp [eqBs]
  | x :: xs, y :: ys, hx, hy => by
    simp only [plBs, Bool.and_eq_true] at hx hy
    simp only [eqBs, Bool.and_eq_true, List.cons.injEq]
    rw [eqB_iff x y hx.1 hy.1, eqBs_iff xs ys hx.2 hy.2]
end
theorem eqB_dec {x y : D} (hx : plB x = true) (hy : plB y = true) [Decidable (x = y)] : eqB x y = decide (x = y) := by
  by_cases h : x = y
  · rw [decide_eq_true h]; exact (eqB_iff x y hx hy).mpr h
  · rw [decide_eq_false h]
    cases e : eqB x y with
    | false => rfl
    | true => exact absurd ((eqB_iff x y hx hy).mp e) h
theorem plBs_all {xs : List D} : plBs xs = true ↔ ∀ x ∈ xs, plB x = true := by
  induction xs with
  | nil => simp [plBs]
  | cons x xs ih => simp [plBs, ih]
theorem okDs_all {n : Nat} {xs : List D} : okDs n xs = true ↔ ∀ x ∈ xs, okD n x = true := by
  induction xs with
  | nil => simp [okDs]
  | cons x xs ih => simp [okDs, ih]
/-- plain, of a depth of at most n -/
def Pl (n : Nat) (d : D) : Prop := plB d = true ∧ ∀ k, n ≤ k → okD k d = true
theorem Pl.str (l : List Nat) (n : Nat) : Pl n (.str l) := ⟨rfl, fun k _ => by cases k <;> rfl⟩
theorem Pl.int (l : Int) (n : Nat) : Pl n (.int l) := ⟨rfl, fun k _ => by cases k <;> rfl⟩
theorem Pl.non (n : Nat) : Pl n .non := ⟨rfl, fun k _ => by cases k <;> rfl⟩
theorem Pl.tup {n : Nat} {xs : List D} (h : ∀ x ∈ xs, Pl n x) : Pl (n + 1) (.tup xs) := ⟨plBs_all.mpr fun x hx => (h x hx).1, fun k hk => by
  cases k with
  | zero => omega
  | succ k => exact okDs_all.mpr fun x hx => (h x hx).2 k (by omega)⟩
theorem Pl.list {n : Nat} {xs : List D} (h : ∀ x ∈ xs, Pl n x) : Pl (n + 1) (.list xs) := ⟨plBs_all.mpr fun x hx => (h x hx).1, fun k hk => by
  cases k with
  | zero => omega
  | succ k => exact okDs_all.mpr fun x hx => (h x hx).2 k (by omega)⟩
theorem Pl.mono {n m : Nat} {d : D} (h : Pl n d) (hm : n ≤ m) : Pl m d := ⟨h.1, fun k hk => h.2 k (by omega)⟩
open Classical in
theorem eq_ok {n : Nat} {x y : D} (hx : Pl n x) (hy : Pl n y) (hn : n ≤ 40) : eqD x y = some (.bool (decide (x = y))) := by
  unfold eqD
  rw [hx.2 DP hn, hy.2 DP hn, eqB_dec hx.1 hy.1]; rfl
open Classical in
theorem ne_ok {n : Nat} {x y : D} (hx : Pl n x) (hy : Pl n y) (hn : n ≤ 40) : neD x y = some (.bool (decide (x ≠ y))) := by
  unfold neD
  rw [hx.2 DP hn, hy.2 DP hn, eqB_dec hx.1 hy.1]
  by_cases h : x = y <;> simp [h]
theorem eq_self {n : Nat} {x : D} (hx : Pl n x) (hn : n ≤ 40) : eqD x x = some (.bool true) := by classical rw [eq_ok hx hx hn]; simp
theorem ne_self {n : Nat} {x : D} (hx : Pl n x) (hn : n ≤ 40) : neD x x = some (.bool false) := by classical rw [ne_ok hx hx hn]; simp
open Classical in
theorem mem_ok {n : Nat} {x : D} {xs : List D} (hx : Pl n x) (hxs : ∀ y ∈ xs, Pl n y) : memB x xs = decide (x ∈ xs) := by
  unfold memB
  by_cases h : x ∈ xs
  · rw [decide_eq_true h]; exact List.any_eq_true.mpr ⟨x, h, (eqB_iff x x hx.1 hx.1).mpr rfl⟩
  · rw [decide_eq_false h]
    cases e : xs.any fun y => eqB y x with
    | false => rfl
    | true =>
      obtain ⟨y, hy, q⟩ := List.any_eq_true.mp e
      exact absurd ((eqB_iff y x (hxs y hy).1 hx.1).mp q ▸ hy) h
open Classical in
theorem inT_ok {n : Nat} {x : D} {xs : List D} (hx : Pl n x) (hxs : ∀ y ∈ xs, Pl n y) (hn : n < 40) : inD x (.tup xs) = some (.bool (decide (x ∈ xs))) := by
  have h1 := hx.2 DP (by have : DP = 40 := rfl; omega)
  have h2 := (Pl.tup hxs).2 DP (by have : DP = 40 := rfl; omega)
  cases x <;> simp only [inD, h1, h2, Bool.and_self, if_true, mem_ok hx hxs]
open Classical in
theorem inL_ok {n : Nat} {x : D} {xs : List D} (hx : Pl n x) (hxs : ∀ y ∈ xs, Pl n y) (hn : n < 40) : inD x (.list xs) = some (.bool (decide (x ∈ xs))) := by
  have h1 := hx.2 DP (by have : DP = 40 := rfl; omega)
  have h2 := (Pl.list hxs).2 DP (by have : DP = 40 := rfl; omega)
  cases x <;> simp only [inD, h1, h2, Bool.and_self, if_true, mem_ok hx hxs]
open Classical in
theorem ninT_ok {n : Nat} {x : D} {xs : List D} (hx : Pl n x) (hxs : ∀ y ∈ xs, Pl n y) (hn : n < 40) : ninD x (.tup xs) = some (.bool (decide (x ∉ xs))) := by
  unfold ninD; rw [inT_ok hx hxs hn]
  by_cases h : x ∈ xs <;> simp [h]
open Classical in
theorem ninL_ok {n : Nat} {x : D} {xs : List D} (hx : Pl n x) (hxs : ∀ y ∈ xs, Pl n y) (hn : n < 40) : ninD x (.list xs) = some (.bool (decide (x ∉ xs))) := by
  unfold ninD; rw [inL_ok hx hxs hn]
  by_cases h : x ∈ xs <;> simp [h]

/-! ### rows, stores -/
def RowOk (k : List Nat) (r : D) : Prop := ∃ p a t, r = rowD k p a t
theorem rowD_pl {k : List Nat} {p : Option (List Nat)} {a : Int} {t : List Nat} : Pl 1 (rowD k p a t) := by
  refine Pl.tup fun x hx => ?_
  cases p <;> simp at hx <;> rcases hx with rfl | rfl | rfl | rfl <;> first | exact Pl.str _ _ | exact Pl.int _ _ | exact Pl.non _
theorem RowOk.pl {k : List Nat} {r : D} (h : RowOk k r) : Pl 1 r := by obtain ⟨p, a, t, rfl⟩ := h; exact rowD_pl
theorem RowOk.key {k : List Nat} {r : D} (h : RowOk k r) : idxD r (.int 0) = some (.str k) := by obtain ⟨p, a, t, rfl⟩ := h; rfl
theorem RowOk.nn {k : List Nat} {r : D} (h : RowOk k r) : r ≠ .non := by obtain ⟨p, a, t, rfl⟩ := h; intro z; cases z
theorem RowOk.one {k k' : List Nat} {r : D} (h : RowOk k r) (h' : RowOk k' r) : k = k' := by
  obtain ⟨p, a, t, rfl⟩ := h; obtain ⟨p', a', t', e⟩ := h'
  simp [rowD] at e; exact e.1
abbrev KV := List (List Nat × D)
/-- a book: each key once, rows under their keys -/
structure Book (S : KV) : Prop where
  nd : (S.map (·.1)).Nodup
  row : ∀ p ∈ S, RowOk p.1 p.2
/-- a store: in the order of the keys -/
structure Sto1 (S : KV) : Prop where
  srt : (S.map (·.1)).Pairwise fun x y => ltS x y = true
  row : ∀ p ∈ S, RowOk p.1 p.2
def stoD (S : KV) : D := .tup (S.map (·.2))
theorem Sto1.book {S : KV} (h : Sto1 S) : Book S := ⟨h.srt.imp (fun {a b} q z => by rw [z, ltS_irrefl] at q; cases q), h.row⟩
theorem Sto1.nil : Sto1 [] := ⟨List.Pairwise.nil, fun _ h => nomatch h⟩
theorem lookD_mem : ∀ {S : KV} {k : List Nat} {d : D}, lookD S k = some d → (k, d) ∈ S
  | [], _, _, h => by cases h
  | (k', d') :: S, k, d, h => by
    unfold lookD at h
    split at h
    · rename_i e; subst e; cases h; exact List.mem_cons_self
    · exact List.mem_cons_of_mem _ (lookD_mem h)
theorem lookD_none : ∀ {S : KV} {k : List Nat}, lookD S k = none ↔ k ∉ S.map (·.1)
  | [], k => by simp [lookD]
  | (k', d') :: S, k => by
    unfold lookD
    by_cases e : k' = k
    · simp [e]
    · rw [if_neg e, lookD_none]; simp [Ne.symm e]
theorem lookD_of : ∀ {S : KV} {k : List Nat} {d : D}, (S.map (·.1)).Nodup → (k, d) ∈ S → lookD S k = some d
  | (k', d') :: S, k, d, nd, h => by
    rw [List.map_cons, List.nodup_cons] at nd
    unfold lookD
    rcases List.mem_cons.mp h with e | h
    · cases e; rw [if_pos rfl]
    · have : k' ≠ k := fun z => nd.1 (z ▸ List.mem_map.mpr ⟨(k, d), h, rfl⟩)
      rw [if_neg this]; exact lookD_of nd.2 h
theorem lookD_iff {S : KV} (nd : (S.map (·.1)).Nodup) {k : List Nat} {d : D} : lookD S k = some d ↔ (k, d) ∈ S := ⟨lookD_mem, lookD_of nd⟩
theorem Book.look {S : KV} (h : Book S) {k : List Nat} {d : D} (e : lookD S k = some d) : RowOk k d := h.row _ (lookD_mem e)
/-- stores with the same rows are the same -/
theorem sto_ext : ∀ {S T : KV}, Sto1 S → Sto1 T → (∀ k, lookD S k = lookD T k) → S = T := by
  intro S T hS hT e
  have mem : ∀ p, p ∈ S ↔ p ∈ T := fun p => by rw [← lookD_iff hS.book.nd, ← lookD_iff hT.book.nd, e]
  have nS : S.Nodup := List.Pairwise.of_map (·.1) (fun _ _ h z => h (congrArg _ z)) hS.book.nd
  have nT : T.Nodup := List.Pairwise.of_map (·.1) (fun _ _ h z => h (congrArg _ z)) hT.book.nd
  have pm : S.Perm T := (List.perm_ext_iff_of_nodup nS nT).mpr mem
  refine List.Perm.eq_of_pairwise (le := fun p q => ltS p.1 q.1 = true) (fun a b _ _ h1 h2 => ?_) (List.pairwise_map.mp hS.srt) (List.pairwise_map.mp hT.srt) pm
  have := ltS_asym h1; rw [h2] at this; cases this
/-! ### changes of books -/
theorem map_rep : ∀ (S : KV) (k : List Nat) (d : D), (S.map fun p => if p.1 = k then (p.1, d) else p).map (·.1) = S.map (·.1)
  | [], _, _ => rfl
  | p :: S, k, d => by
    rw [List.map_cons, List.map_cons, List.map_cons, map_rep S k d]
    split <;> rfl
theorem look_rep : ∀ (S : KV) (k k' : List Nat) (d : D), lookD (S.map fun p => if p.1 = k then (p.1, d) else p) k' = if k' = k then (lookD S k).map fun _ => d else lookD S k'
  | [], k, k', d => by simp [lookD]
  | (a, b) :: S, k, k', d => by
    have ih := look_rep S k k' d
    simp only [List.map_cons]
    by_cases h1 : a = k
    · subst h1
      simp only [if_true, lookD]
      by_cases h2 : a = k'
      · subst h2; simp
      · rw [if_neg h2, ih, if_neg (Ne.symm h2), if_neg (Ne.symm h2), if_neg h2]
    · simp only [h1, if_false, lookD]
      by_cases h2 : a = k'
      · subst h2; simp [h1]
      · rw [if_neg h2, ih, if_neg h2]
theorem look_app : ∀ (S T : KV) (k : List Nat), lookD (S ++ T) k = (lookD S k).or (lookD T k)
  | [], T, k => by simp [lookD]
  | (a, b) :: S, T, k => by
    simp only [List.cons_append, lookD]
    split
    · simp
    · exact look_app S T k
theorem look_put (S : KV) (k k' : List Nat) (d : D) : lookD (putKD S k d) k' = if k' = k then some d else lookD S k' := by
  unfold putKD
  cases e : lookD S k with
  | some x => simp only [Option.isSome_some, if_true]; rw [look_rep, e]; rfl
  | none =>
    simp only [Option.isSome_none, Bool.false_eq_true, if_false]
    rw [look_app]
    by_cases h : k' = k
    · subst h; simp [e, lookD]
    · simp [h, lookD, Ne.symm h]
theorem put_book {S : KV} (h : Book S) {k : List Nat} {d : D} (hd : RowOk k d) : Book (putKD S k d) := by
  unfold putKD
  cases e : lookD S k with
  | some x =>
    simp only [Option.isSome_some, if_true]
    refine ⟨by rw [map_rep]; exact h.nd, fun p hp => ?_⟩
    obtain ⟨q, hq, rfl⟩ := List.mem_map.mp hp
    split
    · rename_i e; rw [e]; exact hd
    · exact h.row q hq
  | none =>
    simp only [Option.isSome_none, Bool.false_eq_true, if_false]
    refine ⟨?_, fun p hp => ?_⟩
    · rw [List.map_append, List.nodup_append]
      refine ⟨h.nd, by simp, fun a ha b hb => ?_⟩
      simp at hb; subst hb
      intro z; subst z
      exact (lookD_none.mp e) ha
    · rcases List.mem_append.mp hp with hp | hp
      · exact h.row p hp
      · simp at hp; subst hp; exact hd
theorem putKD_len2 (kvs : KV) (k : List Nat) (d : D) : (putKD kvs k d).length ≤ kvs.length + 1 := by
  unfold putKD
  split <;> simp
theorem merge_book : ∀ {R S : KV}, Book S → Book R → Book (mergeD S R)
  | [], S, h, _ => h
  | (k, d) :: R, S, h, hR => by
    have hd := hR.row (k, d) List.mem_cons_self
    have nR : Book R := ⟨by have := hR.nd; rw [List.map_cons, List.nodup_cons] at this; exact this.2, fun p hp => hR.row p (List.mem_cons_of_mem _ hp)⟩
    exact merge_book (R := R) (S := putKD S k d) (put_book h hd) nR
theorem look_merge : ∀ (R S : KV), (R.map (·.1)).Nodup → ∀ k, lookD (mergeD S R) k = (lookD R k).or (lookD S k)
  | [], S, _, k => by simp [mergeD, lookD]
  | (a, d) :: R, S, nd, k => by
    rw [List.map_cons, List.nodup_cons] at nd
    show lookD (mergeD (putKD S a d) R) k = _
    rw [look_merge R _ nd.2, look_put]
    simp only [lookD]
    by_cases h : a = k
    · subst h
      rw [lookD_none.mpr nd.1]; simp
    · rw [if_neg h, if_neg (Ne.symm h)]
theorem merge_len : ∀ (R S : KV), (mergeD S R).length ≤ S.length + R.length
  | [], S => Nat.le_refl _
  | (k, d) :: r, kvs => by
    have h1 := merge_len r (putKD kvs k d)
    have h2 := putKD_len2 kvs k d
    show (mergeD (putKD kvs k d) r).length ≤ _
    rw [List.length_cons]; omega
theorem merge_nil : ∀ {R S : KV}, (∀ k ∈ R.map (·.1), k ∉ S.map (·.1)) → (R.map (·.1)).Nodup → mergeD S R = S ++ R
  | [], S, _, _ => by simp [mergeD]
  | (k, d) :: R, S, h, nd => by
    rw [List.map_cons, List.nodup_cons] at nd
    have e : putKD S k d = S ++ [(k, d)] := by
      unfold putKD
      rw [lookD_none.mpr (h k (by simp))]; simp
    show mergeD (putKD S k d) R = _
    rw [e, merge_nil (fun k' hk' => ?_) nd.2]
    · simp
    · intro z
      rw [List.map_append, List.mem_append] at z
      rcases z with z | z
      · exact h k' (List.mem_cons_of_mem _ hk') z
      · simp at z; subst z; exact nd.1 hk'
theorem look_drop : ∀ (S : KV) (k k' : List Nat), lookD (dropKD S k) k' = if k' = k then none else lookD S k'
  | [], k, k' => by simp [dropKD, lookD]
  | (a, b) :: S, k, k' => by
    have ih := look_drop S k k'
    unfold dropKD at ih ⊢
    by_cases h : a = k
    · subst h
      rw [List.filter_cons_of_neg (by simp), ih]
      by_cases h2 : k' = a
      · simp [h2]
      · simp [h2, lookD, Ne.symm h2]
    · rw [List.filter_cons_of_pos (by simpa using h)]
      simp only [lookD]
      by_cases h2 : a = k'
      · subst h2; simp [h]
      · rw [if_neg h2, ih, if_neg h2]
theorem drop_book {S : KV} (h : Book S) (k : List Nat) : Book (dropKD S k) :=
  ⟨h.nd.sublist (List.Sublist.map _ List.filter_sublist), fun p hp => h.row p (List.mem_filter.mp hp).1⟩
/-- the store of a book -/
def canon (S : KV) : KV := (sortB ltS (S.map (·.1))).map fun k => (k, (lookD S k).getD .non)
theorem canon_keys (S : KV) : (canon S).map (·.1) = sortB ltS (S.map (·.1)) := by
  unfold canon; rw [List.map_map]; exact List.map_id _
theorem canon_ok {S : KV} (h : Book S) : Sto1 (canon S) := by
  have pm := sortB_perm (S.map (·.1))
  have nd : (sortB ltS (S.map (·.1))).Nodup := pm.nodup_iff.mpr h.nd
  refine ⟨?_, fun p hp => ?_⟩
  · rw [canon_keys]
    have srt : (sortB ltS (S.map (·.1))).Pairwise leS := sortB_sorted _
    refine (List.Pairwise.and srt nd).imp fun {a b} q => ?_
    obtain ⟨q1, q2⟩ := q
    cases e : ltS a b with
    | true => rfl
    | false => exact absurd (ltS_tri e q1) q2
  · unfold canon at hp
    obtain ⟨k, hk, rfl⟩ := List.mem_map.mp hp
    have hk2 : k ∈ S.map (·.1) := pm.mem_iff.mp hk
    cases e : lookD S k with
    | none => exact absurd hk2 (lookD_none.mp e)
    | some d => exact h.look e
theorem look_canon {S : KV} (h : Book S) (k : List Nat) : lookD (canon S) k = lookD S k := by
  have nd := (canon_ok h).book.nd
  have pm := sortB_perm (S.map (·.1))
  cases e : lookD S k with
  | none =>
    refine lookD_none.mpr fun z => lookD_none.mp e ?_
    rw [canon_keys] at z
    exact pm.mem_iff.mp z
  | some d =>
    refine lookD_of nd ?_
    unfold canon
    exact List.mem_map.mpr ⟨k, pm.mem_iff.mpr (List.mem_map.mpr ⟨(k, d), lookD_mem e, rfl⟩), by rw [e]; rfl⟩
theorem canon_len (S : KV) : (canon S).length = S.length := by
  unfold canon; rw [List.length_map, (sortB_perm _).length_eq, List.length_map]
theorem canon_sto {S : KV} (h : Sto1 S) : canon S = S := sto_ext (canon_ok h.book) h fun k => look_canon h.book k
theorem sto_pl {S : KV} (h : ∀ p ∈ S, RowOk p.1 p.2) : ∀ x ∈ S.map (·.2), Pl 1 x := fun x hx => by
  obtain ⟨p, hp, rfl⟩ := List.mem_map.mp hx
  exact (h p hp).pl
theorem stoD_pl {S : KV} (h : ∀ p ∈ S, RowOk p.1 p.2) : Pl 2 (stoD S) := Pl.tup (sto_pl h)
theorem stoD_inj {S T : KV} (hS : ∀ p ∈ S, RowOk p.1 p.2) (hT : ∀ p ∈ T, RowOk p.1 p.2) (e : stoD S = stoD T) : S = T := by
  have e : S.map (·.2) = T.map (·.2) := by unfold stoD at e; injection e
  induction S generalizing T with
  | nil => cases T with
    | nil => rfl
    | cons q T => simp at e
  | cons p S ih => cases T with
    | nil => simp at e
    | cons q T =>
      simp only [List.map_cons, List.cons.injEq] at e
      have h1 := hS p List.mem_cons_self
      have h2 := hT q List.mem_cons_self
      rw [← e.1] at h2
      have e1 := h1.one h2
      have e2 := ih (T := T) (fun x hx => hS x (List.mem_cons_of_mem _ hx)) (fun x hx => hT x (List.mem_cons_of_mem _ hx)) (by unfold stoD; rw [e.2]) e.2
      rw [e2]; congr 1
      exact Prod.ext e1 e.1
end Dn

/-! PuSto2: what the stores' functions tell (pure). -/
namespace Dn
/-- the pairs -/
def prD (p : List Nat × D) : D := .tup [.str p.1, p.2]
theorem pairs_map (S : KV) : pairsD (S.map prD) = some S := by
  induction S with
  | nil => rfl
  | cons p S ih => simp [pairsD, prD, ih]
theorem by_keys_ok {S : KV} (h : Sto1 S) (st : Sto) : d_by_keys [stoD S] st = .ok (.dict S) st := by
  have e := comp_map (env := [some (stoD S), none]) (st := st) (it := iSeq (eVar 0)) (own := [1]) (tg := gN 1) (ds := S.map (·.2)) (e := eA dispT (aCons (e2 idxD (eVar 1) (eC (.int 0))) (aCons (eVar 1) aNil)))
    (f := fun d => .tup [(idxD d (.int 0)).getD .non, d]) (by simp [stoD, itemsOf]) (fun d hd => by
      obtain ⟨p, hp, rfl⟩ := List.mem_map.mp hd
      exact ⟨_, rfl, by simp [wipeE, (h.row p hp).key, dispT]⟩)
  have e2' : (S.map (·.2)).map (fun d => D.tup [(idxD d (.int 0)).getD .non, d]) = S.map prD := by
    rw [List.map_map]
    refine List.map_congr_left fun p hp => ?_
    show D.tup [(idxD p.2 (.int 0)).getD .non, p.2] = _
    rw [(h.row p hp).key]; rfl
  rw [e2'] at e
  have m : mergeD [] S = S := by rw [merge_nil (by simp) h.book.nd]; rfl
  simp [d_by_keys, runDefO, env0, m_by_keys, e, dictD, pairs_map, m]
theorem as_rows_ok {S : KV} (h : Book S) (hl : S.length < 64) (st : Sto) : d_as_rows [.dict S] st = .ok (stoD (canon S)) st := by
  have hs : sortD [.dict S] = some (.list ((sortB ltS (S.map (·.1))).map D.str)) := by
    simp only [sortD]; rw [if_pos hl]
  have e := comp_map (env := [some (.dict S), none]) (st := st) (it := iSeq (eA sortD (aCons (eVar 0) aNil))) (own := [1]) (tg := gN 1) (ds := (sortB ltS (S.map (·.1))).map D.str) (e := e2 idxD (eVar 0) (eVar 1))
    (f := fun d => match d with | .str k => (lookD S k).getD .non | _ => .non) (by simp [hs, itemsOf]) (fun d hd => by
      obtain ⟨k, hk, rfl⟩ := List.mem_map.mp hd
      have hk2 : k ∈ S.map (·.1) := (sortB_perm _).mem_iff.mp hk
      cases q : lookD S k with
      | none => exact absurd hk2 (lookD_none.mp q)
      | some x => exact ⟨_, rfl, by simp [wipeE, idxD, q]⟩)
  have e2' : ((sortB ltS (S.map (·.1))).map D.str).map (fun d => match d with | .str k => (lookD S k).getD .non | _ => .non) = (canon S).map (·.2) := by
    unfold canon
    rw [List.map_map, List.map_map]; rfl
  rw [e2'] at e
  simp [d_as_rows, runDef, env0, m_as_rows, e, tupleD, stoD]
/-- put -/
def putS (S R : KV) : KV := canon (mergeD S R)
theorem putS_ok {S R : KV} (hS : Sto1 S) (hR : Sto1 R) : Sto1 (putS S R) := canon_ok (merge_book hS.book hR.book)
theorem look_putS {S R : KV} (hS : Sto1 S) (hR : Sto1 R) (k : List Nat) : lookD (putS S R) k = (lookD R k).or (lookD S k) := by
  unfold putS; rw [look_canon (merge_book hS.book hR.book), look_merge _ _ hR.book.nd]
theorem putS_len {S R : KV} : (putS S R).length ≤ S.length + R.length := by unfold putS; rw [canon_len]; exact merge_len R S
theorem put_ok {S R : KV} (hS : Sto1 S) (hR : Sto1 R) (hl : S.length + R.length < 64) (st : Sto) : d_put [stoD S, stoD R] st = .ok (stoD (putS S R)) st := by
  have u : updateD (.dict S) [.dict R] = some (.dict (mergeD S R)) := by
    simp only [updateD]; rw [if_pos (by have : SZ = 16777216 := rfl; omega)]
  have a := as_rows_ok (merge_book hS.book hR.book) (Nat.lt_of_le_of_lt (merge_len R S) hl) st
  simp [d_put, runDef, env0, m_put, by_keys_ok hS, by_keys_ok hR, isDictD, u, a, putS]
/-- a change: key, old row, new row -/
def chD (c : List Nat × Option D × D) : D := .tup [.str c.1, c.2.1.getD .non, c.2.2]
abbrev CH := List (List Nat × Option D × D)
open Classical in
noncomputable def chg (S R : KV) : CH := R.filterMap fun p => if lookD S p.1 = some p.2 then none else some (p.1, lookD S p.1, p.2)
theorem getD_row {S : KV} (h : Book S) (k : List Nat) : Pl 1 ((lookD S k).getD .non) := by
  cases e : lookD S k with
  | none => exact Pl.non _
  | some d => exact (h.look e).pl
theorem getD_eq {S : KV} {k : List Nat} {r : D} (hr : RowOk k r) : (lookD S k).getD .non = r ↔ lookD S k = some r := by
  cases e : lookD S k with
  | none => simp only [Option.getD_none]; exact ⟨fun z => absurd z.symm hr.nn, fun z => by cases z⟩
  | some d => simp
theorem chg_ok {S R : KV} (hS : Sto1 S) (hR : Sto1 R) (st : Sto) : d_changes [stoD S, stoD R] st = .ok (.tup ((chg S R).map chD)) st := by
  classical
  have e := comp_ok (env := [some (stoD S), some (stoD R), some (.dict S), none]) (st := st) (it := iSeq (eVar 1)) (own := [3]) (tg := gN 3) (ds := R.map (·.2))
    (t := e2 neD (eM isDictD getD3 (eVar 2) (aCons (e2 idxD (eVar 3) (eC (.int 0))) (aCons (eC .non) aNil))) (eVar 3)) (e := eA dispT (aCons (e2 idxD (eVar 3) (eC (.int 0))) (aCons (eM isDictD getD3 (eVar 2) (aCons (e2 idxD (eVar 3) (eC (.int 0))) (aCons (eC .non) aNil))) (aCons (eVar 3) aNil))))
    (f := fun d => match idxD d (.int 0) with | some (.str k) => if lookD S k = some d then none else some (chD (k, lookD S k, d)) | _ => none) (by simp [stoD, itemsOf]) (fun d hd => by
      obtain ⟨p, hp, rfl⟩ := List.mem_map.mp hd
      have hr := hR.row p hp
      have n1 := ne_ok (getD_row hS.book p.1) hr.pl (by omega)
      refine ⟨_, rfl, ?_⟩
      by_cases q : lookD S p.1 = some p.2
      · refine .inr ⟨?_, by simp [hr.key, q]⟩
        have q2 := (getD_eq hr).mpr q
        have n2 := ne_self hr.pl (by omega)
        simp [wipeE, hr.key, isDictD, getD3, n2, q2]
      · refine .inl ⟨_, ?_, ?_, by simp only [hr.key, if_neg q]; rfl⟩
        · have q2 : ¬ (lookD S p.1).getD .non = p.2 := fun z => q ((getD_eq hr).mp z)
          simp [wipeE, hr.key, isDictD, getD3, n1, q2]
        · simp [wipeE, hr.key, isDictD, getD3, dispT, chD])
  have e2' : (R.map (·.2)).filterMap (fun d => match idxD d (.int 0) with | some (.str k) => if lookD S k = some d then none else some (chD (k, lookD S k, d)) | _ => none) = (chg S R).map chD := by
    unfold chg
    rw [List.filterMap_map, List.map_filterMap]
    have : ∀ p ∈ R, ((fun d => match idxD d (.int 0) with | some (.str k) => if lookD S k = some d then none else some (chD (k, lookD S k, d)) | _ => none) ∘ fun x => x.2) p = Option.map chD (if lookD S p.1 = some p.2 then none else some (p.1, lookD S p.1, p.2)) := fun p hp => by
      simp only [Function.comp, (hR.row p hp).key]
      split <;> rfl
    have go : ∀ (L : KV), (∀ p ∈ L, p ∈ R) → L.filterMap ((fun d => match idxD d (.int 0) with | some (.str k) => if lookD S k = some d then none else some (chD (k, lookD S k, d)) | _ => none) ∘ fun x => x.2) = L.filterMap fun p => Option.map chD (if lookD S p.1 = some p.2 then none else some (p.1, lookD S p.1, p.2)) := by
      intro L
      induction L with
      | nil => intro _; rfl
      | cons p L ih =>
        intro hL
        rw [List.filterMap_cons, List.filterMap_cons, this p (hL p List.mem_cons_self), ih fun q hq => hL q (List.mem_cons_of_mem _ hq)]
    exact go R fun _ h => h
  rw [e2'] at e
  simp [d_changes, runDef, env0, m_changes, by_keys_ok hS, e, tupleD]
theorem mem_chg {S R : KV} {c : List Nat × Option D × D} : c ∈ chg S R ↔ (c.1, c.2.2) ∈ R ∧ lookD S c.1 ≠ some c.2.2 ∧ c.2.1 = lookD S c.1 := by
  classical
  unfold chg
  rw [List.mem_filterMap]
  constructor
  · rintro ⟨p, hp, e⟩
    split at e
    · cases e
    · rename_i q; cases e; exact ⟨hp, q, rfl⟩
  · rintro ⟨h1, h2, h3⟩
    refine ⟨_, h1, ?_⟩
    rw [if_neg h2, ← h3]
/-- changes in a good form: keys each once, rows under their keys -/
structure Chs (C : CH) : Prop where
  nd : (C.map (·.1)).Nodup
  new : ∀ c ∈ C, RowOk c.1 c.2.2
  old : ∀ c ∈ C, ∀ d, c.2.1 = some d → RowOk c.1 d
theorem chg_keys {S R : KV} : ((chg S R).map (·.1)).Sublist (R.map (·.1)) := by
  classical
  unfold chg
  induction R with
  | nil => exact List.Sublist.refl _
  | cons p R ih =>
    rw [List.filterMap_cons]
    split
    · exact List.Sublist.cons _ ih
    · rename_i e
      split at e
      · cases e
      · cases e; exact List.Sublist.cons₂ _ ih
theorem chg_chs {S R : KV} (hS : Sto1 S) (hR : Sto1 R) : Chs (chg S R) :=
  ⟨hR.book.nd.sublist chg_keys, fun c hc => hR.row _ (mem_chg.mp hc).1, fun c hc d e => hS.book.look ((mem_chg.mp hc).2.2 ▸ e)⟩
/-- the change of key k -/
def oldOf : CH → List Nat → Option (Option D)
  | [], _ => none
  | c :: C, k => if c.1 = k then some c.2.1 else oldOf C k
theorem oldOf_cons (c : List Nat × Option D × D) (C : CH) (k : List Nat) : oldOf (c :: C) k = if c.1 = k then some c.2.1 else oldOf C k := rfl
theorem oldOf_none : ∀ {C : CH} {k : List Nat}, oldOf C k = none ↔ k ∉ C.map (·.1)
  | [], k => by simp [oldOf]
  | c :: C, k => by
    unfold oldOf
    by_cases e : c.1 = k
    · simp [e]
    · rw [if_neg e, oldOf_none]; simp [Ne.symm e]
theorem oldOf_of : ∀ {C : CH} {c : List Nat × Option D × D}, (C.map (·.1)).Nodup → c ∈ C → oldOf C c.1 = some c.2.1
  | c' :: C, c, nd, h => by
    rw [List.map_cons, List.nodup_cons] at nd
    unfold oldOf
    rcases List.mem_cons.mp h with rfl | h
    · rw [if_pos rfl]
    · have : c'.1 ≠ c.1 := fun z => nd.1 (z ▸ List.mem_map.mpr ⟨c, h, rfl⟩)
      rw [if_neg this]; exact oldOf_of nd.2 h
def bkB : MS := (sSeq (sIf (e2 neD (eM isDictD getD3 (eVar 2) (aCons (eVar 3) (aCons (eC .non) aNil))) (eVar 5)) (sRaise 2) sSkip) (sSeq (sUpd 2 isDictD popKD (aCons (eVar 3) aNil)) (sIf (e2 notN2 (eVar 4) (eC .non)) (sUpd 2 isDictD putD (aCons (eVar 4) (aCons (eVar 3) aNil))) sSkip)))
theorem m_back_eq : m_back = (sSeq (sAsg (gN 2) (eCall d_by_keys (aCons (eVar 0) aNil))) (sSeq (sFor (iSeq (eVar 1)) (gT [3, 4, 5]) bkB) (sRet (eCall d_as_rows (aCons (eVar 2) aNil))))) := rfl
/-- the loop of back -/
theorem back_loop {a b : Option D} : ∀ {C : CH} {T : KV} {x y z : Option D} (st : Sto), Book T → Chs C → T.length + C.length < 64 →
    (∀ c ∈ C, lookD T c.1 = some c.2.2) → ∃ T' x' y' z', forL (gT [3, 4, 5]) bkB (C.map chD) [a, b, some (.dict T), x, y, z] st = .nx [a, b, some (.dict T'), x', y', z'] st ∧ Book T' ∧ T'.length ≤ T.length ∧ ∀ k, lookD T' k = (oldOf C k).getD (lookD T k)
  | [], T, x, y, z, st, hT, _, hl, _ => ⟨T, x, y, z, rfl, hT, Nat.le_refl _, fun k => rfl⟩
  | c :: C, T, x, y, z, st, hT, hC, hl, hm => by
    have nd := hC.nd
    rw [List.map_cons, List.nodup_cons] at nd
    have hC' : Chs C := ⟨nd.2, fun c' h => hC.new c' (List.mem_cons_of_mem _ h), fun c' h => hC.old c' (List.mem_cons_of_mem _ h)⟩
    have hr := hC.new c List.mem_cons_self
    have lk := hm c List.mem_cons_self
    have n1 := ne_self hr.pl (by omega)
    rw [List.length_cons] at hl
    have dl : (dropKD T c.1).length ≤ T.length := List.length_filter_le _ _
    have dl1 : (dropKD T c.1).length < T.length := by
      refine Nat.lt_of_le_of_ne dl fun z => ?_
      have := List.length_filter_eq_length_iff.mp z (c.1, c.2.2) (lookD_mem lk)
      simp at this
    obtain ⟨k, o, r⟩ := c
    simp only at lk hr n1 nd dl dl1
    cases o with
    | none =>
      have hm' : ∀ c' ∈ C, lookD (dropKD T k) c'.1 = some c'.2.2 := fun c' h => by
        have ne : c'.1 ≠ k := fun z => nd.1 (z ▸ List.mem_map.mpr ⟨c', h, rfl⟩)
        rw [look_drop, if_neg ne]; exact hm c' (List.mem_cons_of_mem _ h)
      obtain ⟨T', x', y', z', e, b1, b2, b3⟩ := back_loop (a := a) (b := b) (x := some (.str k)) (y := some .non) (z := some r) st (drop_book hT k) hC' (by omega) hm'
      refine ⟨T', x', y', z', ?_, b1, by omega, fun k' => ?_⟩
      · rw [List.map_cons]
        unfold forL
        have : bkB [a, b, some (.dict T), some (.str k), some .non, some r] st = .nx [a, b, some (.dict (dropKD T k)), some (.str k), some .non, some r] st := by
          simp [bkB, isDictD, getD3, lk, n1, popKD, notN2, notNonD]
        simp [chD]
        rw [this]
        exact e
      · rw [b3, look_drop, oldOf_cons]
        show _ = (if k = k' then some none else oldOf C k').getD (lookD T k')
        by_cases h : k = k'
        · subst h; rw [oldOf_none.mpr nd.1]; simp
        · rw [if_neg h, if_neg (Ne.symm h)]
    | some d =>
      have hd : RowOk k d := hC.old (k, some d, r) List.mem_cons_self d rfl
      have pb := put_book (drop_book hT k) hd
      have pl := putKD_len2 (dropKD T k) k d
      have hm' : ∀ c' ∈ C, lookD (putKD (dropKD T k) k d) c'.1 = some c'.2.2 := fun c' h => by
        have ne : c'.1 ≠ k := fun z => nd.1 (z ▸ List.mem_map.mpr ⟨c', h, rfl⟩)
        rw [look_put, if_neg ne, look_drop, if_neg ne]; exact hm c' (List.mem_cons_of_mem _ h)
      obtain ⟨T', x', y', z', e, b1, b2, b3⟩ := back_loop (a := a) (b := b) (x := some (.str k)) (y := some d) (z := some r) st pb hC' (by omega) hm'
      refine ⟨T', x', y', z', ?_, b1, by omega, fun k' => ?_⟩
      · rw [List.map_cons]
        unfold forL
        have dn : notNonD d = some (.bool true) := by
          have := hd.nn
          cases d <;> first | rfl | exact absurd rfl this
        have : bkB [a, b, some (.dict T), some (.str k), some d, some r] st = .nx [a, b, some (.dict (putKD (dropKD T k) k d)), some (.str k), some d, some r] st := by
          have sz : (dropKD T k).length < 16777216 := by omega
          simp [bkB, isDictD, getD3, lk, n1, popKD, notN2, dn, putD, sz]
        simp [chD]
        rw [this]
        exact e
      · rw [b3, look_put, look_drop, oldOf_cons]
        show _ = (if k = k' then some (some d) else oldOf C k').getD (lookD T k')
        by_cases h : k = k'
        · subst h; rw [oldOf_none.mpr nd.1]; simp
        · rw [if_neg h, if_neg (Ne.symm h), if_neg (Ne.symm h)]
theorem back_ok {S : KV} {C : CH} (hS : Sto1 S) (hC : Chs C) (hl : S.length + C.length < 64) (hm : ∀ c ∈ C, lookD S c.1 = some c.2.2) (st : Sto) :
    ∃ T, d_back [stoD S, .tup (C.map chD)] st = .ok (stoD T) st ∧ Sto1 T ∧ T.length ≤ S.length ∧ ∀ k, lookD T k = (oldOf C k).getD (lookD S k) := by
  obtain ⟨T', x', y', z', e, b1, b2, b3⟩ := back_loop (a := some (stoD S)) (b := some (.tup (C.map chD))) (x := none) (y := none) (z := none) st hS.book hC hl hm
  refine ⟨canon T', ?_, canon_ok b1, by rw [canon_len]; exact b2, fun k => by rw [look_canon b1, b3]⟩
  simp [d_back, runDef, env0, m_back_eq, by_keys_ok hS, itemsOf]
  rw [e]
  simp [as_rows_ok b1 (show List.length T' < 64 by omega)]
end Dn

/-! PuSto3: a drawn store (pure). -/
namespace Dn
/-- a drawn row -/
def DRow (lo hi : Int) (tags : List (List Nat)) (k : List Nat) (r : D) : Prop := ∃ p a t, r = rowD k p a t ∧ NameC k ∧ (∀ q, p = some q → NameC q) ∧ lo ≤ a ∧ a ≤ hi ∧ t ∈ tags
theorem DRow.row {lo hi : Int} {tags : List (List Nat)} {k : List Nat} {r : D} (h : DRow lo hi tags k r) : RowOk k r := by obtain ⟨p, a, t, e, _⟩ := h; exact ⟨p, a, t, e⟩
theorem put_mem {S : KV} {k : List Nat} {d : D} {p : List Nat × D} (h : p ∈ putKD S k d) : p ∈ S ∨ p = (k, d) := by
  unfold putKD at h
  split at h
  · obtain ⟨q, hq, rfl⟩ := List.mem_map.mp h
    split
    · rename_i e; right; rw [e]
    · exact .inl hq
  · rcases List.mem_append.mp h with h | h
    · exact .inl h
    · exact .inr (by simpa using h)
def lsB : MS := (sSeq (sAsg (gN 4) (eCall d_law_row (aCons (eVar 0) (aCons (e2 fdivD (eCall d_law_drawn (aCons (eVar 1) (aCons (eVar 3) aNil))) (eC (.int 4))) aNil)))) (sUpd 2 isDictD putD (aCons (eVar 4) (aCons (e2 idxD (eVar 4) (eC (.int 0))) aNil))))
def lsC : ME := eA tupleD (aCons (eComp (iSeq (eA sortD (aCons (eVar 2) aNil))) [5] (gN 5) (eC (.bool true)) (e2 idxD (eVar 2) (eVar 5))) aNil)
theorem m_law_store_eq : m_law_store = (sSeq (sAsg (gN 2) (eC (.dict []))) (sSeq (sFor (iRange (e2 modD (eVar 1) (eC (.int 7)))) (gN 3) lsB) (sRet lsC))) := rfl
theorem store_ok {lo hi : Int} {tags : List (List Nat)} (P : PlanOk lo hi tags) (n : Int) (h0 : 0 ≤ n) (st : Sto) : ∃ S, d_law_store [planD lo hi tags, .int n] st = .ok (stoD S) st ∧ Sto1 S ∧ S.length ≤ 6 ∧ ∀ p ∈ S, DRow lo hi tags p.1 p.2 := by
  have f4 : ∀ j : Int, fdivD (.int j) (.int 4) = some (.int (j / 4)) := fun j => fdiv_pos (by omega)
  have q7 : ∀ j : Int, modD (.int j) (.int 7) = some (.int (j % 7)) := fun j => mod_pos (by omega)
  obtain ⟨i1, i2⟩ := lcg_lt n 7 (by omega)
  have hr : rangeD (.int (n % 7)) = some ((List.range (n % 7).toNat).map fun (k : Nat) => D.int (k : Int)) := range_ok (by omega) (by omega)
  obtain ⟨env', e, _, T, x, y, rfl, b1, b2, b3⟩ := forL_inv (p := lsB) (st := st) (tg := gN 3) (I := fun ds env => (∀ d ∈ ds, ∃ k : Nat, d = .int k) ∧ ∃ (T : KV) (x y : Option D), env = [some (planD lo hi tags), some (.int n), some (.dict T), x, y, none] ∧ Book T ∧ T.length + ds.length ≤ 6 ∧ ∀ p ∈ T, DRow lo hi tags p.1 p.2)
    (fun d ds env ⟨hk, T, x, y, ee, b1, b2, b3⟩ => by
      subst ee
      obtain ⟨k, rfl⟩ := hk d List.mem_cons_self
      obtain ⟨kk, pp, aa, tt, r1, r2, r3, r4, r5, r6⟩ := row_ok P (drawnN n k / 4) (by have := (drawn_bd n k).1; omega) st
      have dr : DRow lo hi tags kk (rowD kk pp aa tt) := ⟨pp, aa, tt, rfl, r2, r3, r4, r5, r6⟩
      have sz : List.length T < 16777216 := by rw [List.length_cons] at b2; omega
      refine ⟨_, [some (planD lo hi tags), some (.int n), some (.dict (putKD T kk (rowD kk pp aa tt))), some (.int k), some (rowD kk pp aa tt), none], rfl, ?_, fun d hd => hk d (List.mem_cons_of_mem _ hd), _, _, _, rfl, put_book b1 dr.row, ?_, fun p hp => ?_⟩
      · simp [lsB, drawn_eq, f4, r1, isDictD, dr.row.key, putD, sz]
      · have := putKD_len2 T kk (rowD kk pp aa tt)
        rw [List.length_cons] at b2; omega
      · rcases put_mem hp with hp | rfl
        · exact b3 p hp
        · exact dr)
    (ds := (List.range (n % 7).toNat).map fun (k : Nat) => D.int (k : Int)) (env := [some (planD lo hi tags), some (.int n), some (.dict []), none, none, none])
    ⟨fun d hd => by obtain ⟨k, _, rfl⟩ := List.mem_map.mp hd; exact ⟨k, rfl⟩, [], none, none, rfl, Sto1.nil.book, by simp; omega, fun p hp => nomatch hp⟩
  have b2 : T.length ≤ 6 := by simpa using b2
  have hs : sortD [.dict T] = some (.list ((sortB ltS (T.map (·.1))).map D.str)) := by
    simp only [sortD]; rw [if_pos (by omega)]
  have ec := comp_map (env := [some (planD lo hi tags), some (.int n), some (.dict T), x, y, none]) (st := st) (it := iSeq (eA sortD (aCons (eVar 2) aNil))) (own := [5]) (tg := gN 5) (ds := (sortB ltS (T.map (·.1))).map D.str) (e := e2 idxD (eVar 2) (eVar 5))
    (f := fun d => match d with | .str k => (lookD T k).getD .non | _ => .non) (by simp [hs, itemsOf]) (fun d hd => by
      obtain ⟨k, hk, rfl⟩ := List.mem_map.mp hd
      have hk2 : k ∈ T.map (·.1) := (sortB_perm _).mem_iff.mp hk
      cases q : lookD T k with
      | none => exact absurd hk2 (lookD_none.mp q)
      | some x => exact ⟨_, rfl, by simp [wipeE, idxD, q]⟩)
  have e2' : ((sortB ltS (T.map (·.1))).map D.str).map (fun d => match d with | .str k => (lookD T k).getD .non | _ => .non) = (canon T).map (·.2) := by
    unfold canon
    rw [List.map_map, List.map_map]; rfl
  rw [e2'] at ec
  refine ⟨canon T, ?_, canon_ok b1, by rw [canon_len]; exact b2, fun p hp => ?_⟩
  · have lc : lsC [some (planD lo hi tags), some (.int n), some (.dict T), x, y, none] st = .ok (stoD (canon T)) st := by
      simp [lsC, ec, tupleD, stoD]
    simp [d_law_store, runDef, env0, m_law_store_eq, q7, hr]
    rw [e]
    simp [lc]
  · have := lookD_of (canon_ok b1).book.nd hp
    rw [look_canon b1] at this
    exact b3 _ (lookD_mem this)
end Dn

/-! PuSto4: laws of stores (pure). -/
namespace Dn
theorem rows_mem {S : KV} (h : Book S) {k : List Nat} {r : D} (hr : RowOk k r) : r ∈ S.map (·.2) ↔ lookD S k = some r := by
  constructor
  · intro hm
    obtain ⟨p, hp, e⟩ := List.mem_map.mp hm
    have h1 := h.row p hp
    have ek : p.1 = k := h1.one (e ▸ hr)
    refine lookD_of h.nd ?_
    rw [← ek, ← e]; exact hp
  · intro e; exact List.mem_map.mpr ⟨(k, r), lookD_mem e, rfl⟩
theorem put_assoc {A B C : KV} (hA : Sto1 A) (hB : Sto1 B) (hC : Sto1 C) : putS A (putS B C) = putS (putS A B) C :=
  sto_ext (putS_ok hA (putS_ok hB hC)) (putS_ok (putS_ok hA hB) hC) fun k => by
    rw [look_putS hA (putS_ok hB hC), look_putS hB hC, look_putS (putS_ok hA hB) hC, look_putS hA hB, Option.or_assoc]
theorem put_self {A : KV} (hA : Sto1 A) : putS A A = A := sto_ext (putS_ok hA hA) hA fun k => by rw [look_putS hA hA]; cases lookD A k <;> rfl
theorem put_nilL {A : KV} (hA : Sto1 A) : putS [] A = A := sto_ext (putS_ok Sto1.nil hA) hA fun k => by rw [look_putS Sto1.nil hA]; cases lookD A k <;> rfl
theorem put_nilR {A : KV} (hA : Sto1 A) : putS A [] = A := sto_ext (putS_ok hA Sto1.nil) hA fun k => by rw [look_putS hA Sto1.nil]; rfl
theorem put_twice {A B : KV} (hA : Sto1 A) (hB : Sto1 B) : putS (putS A B) B = putS A B := sto_ext (putS_ok (putS_ok hA hB) hB) (putS_ok hA hB) fun k => by
  rw [look_putS (putS_ok hA hB) hB, look_putS hA hB]; cases lookD B k <;> simp
/-- what the changes take back -/
theorem old_chg {S R : KV} (hS : Sto1 S) (hR : Sto1 R) (k : List Nat) : (oldOf (chg S R) k).getD (lookD (putS S R) k) = lookD S k := by
  by_cases h : k ∈ (chg S R).map (·.1)
  · obtain ⟨c, hc, rfl⟩ := List.mem_map.mp h
    rw [oldOf_of (chg_chs hS hR).nd hc]
    exact (mem_chg.mp hc).2.2
  · rw [oldOf_none.mpr h, Option.getD_none, look_putS hS hR]
    cases e : lookD R k with
    | none => rfl
    | some r =>
      by_cases q : lookD S k = some r
      · rw [q]; rfl
      · exact absurd (List.mem_map.mpr ⟨(k, lookD S k, r), mem_chg.mpr ⟨lookD_mem e, q, rfl⟩, rfl⟩) h
theorem chg_len {S R : KV} : (chg S R).length ≤ R.length := by
  have := (chg_keys (S := S) (R := R)).length_le
  simpa using this
theorem back_chg {S R : KV} (hS : Sto1 S) (hR : Sto1 R) (hl : S.length + R.length + R.length < 64) (st : Sto) : d_back [stoD (putS S R), .tup ((chg S R).map chD)] st = .ok (stoD S) st := by
  have l1 := putS_len (S := S) (R := R)
  have l2 := chg_len (S := S) (R := R)
  obtain ⟨T, e, h1, _, h2⟩ := back_ok (putS_ok hS hR) (chg_chs hS hR) (by omega) (fun c hc => by
    rw [look_putS hS hR, lookD_of hR.book.nd (mem_chg.mp hc).1]; rfl) st
  rw [e, sto_ext h1 hS fun k => by rw [h2, old_chg hS hR]]
theorem back_nil {S : KV} (hS : Sto1 S) (hl : S.length < 64) (st : Sto) : d_back [stoD S, .tup []] st = .ok (stoD S) st := by
  obtain ⟨T, e, h1, _, h2⟩ := back_ok (C := []) hS ⟨List.nodup_nil, (fun _ h => nomatch h), (fun _ h => nomatch h)⟩ (by simpa using hl) (fun _ h => nomatch h) st
  rw [show (D.tup []) = .tup (([] : CH).map chD) from rfl, e, sto_ext h1 hS fun k => by rw [h2]; rfl]
theorem chg_nil_of {S R : KV} (hR : Sto1 R) (h : ∀ k r, lookD R k = some r → lookD S k = some r) : chg S R = [] := by
  refine List.eq_nil_iff_forall_not_mem.mpr fun c hc => ?_
  obtain ⟨h1, h2, _⟩ := mem_chg.mp hc
  exact h2 (h _ _ (lookD_of hR.book.nd h1))
theorem chg_self {A : KV} (hA : Sto1 A) : chg A A = [] := chg_nil_of hA fun _ _ h => h
theorem chg_put {A B : KV} (hA : Sto1 A) (hB : Sto1 B) : chg (putS A B) B = [] := chg_nil_of hB fun k r h => by rw [look_putS hA hB, h]; rfl
theorem chg_nil {A : KV} : chg A [] = [] := rfl
/-- strictly rising keys are what sorted(set(..)) gives -/
theorem nub_rising {l m : List (List Nat)} (h : l.Pairwise fun x y => ltS x y = true) (e : ∀ x, x ∈ l ↔ x ∈ m) : nubS m = l := by
  refine (nubS_of (h.imp fun {a b} q => ltS_asym q) (h.imp fun {a b} q z => ?_) e).symm
  rw [z, ltS_irrefl] at q; cases q
theorem put_keys {A B : KV} (hA : Sto1 A) (hB : Sto1 B) : nubS (A.map (·.1) ++ B.map (·.1)) = (putS A B).map (·.1) := by
  refine nub_rising (putS_ok hA hB).srt fun k => ?_
  have h1 : ∀ S : KV, k ∈ S.map (·.1) ↔ lookD S k ≠ none := fun S => by rw [ne_eq, lookD_none]; simp
  rw [List.mem_append, h1, h1, h1, look_putS hA hB]
  cases lookD B k <;> cases lookD A k <;> simp
/-! ### the laws' comprehensions -/
section
variable {env : Env} {st : Sto} {i j l : Nat}
theorem set_twice {x : Option D} : (env.set j none).set j x = env.set j x := by rw [List.set_set]
theorem get_set_self {x : Option D} (h : j < env.length) : (env.set j x)[j]? = some x := by simp [h]
theorem get_set_ne {x : Option D} (h : l ≠ j) : (env.set j x)[l]? = env[l]? := by rw [List.getElem?_set_ne (Ne.symm h)]
/-- [row[n] for row in rows] -/
theorem comp_ix {rows : List D} {it : MI} {g : D → D} {n : Int} (hi : it env st = .ok rows st) (hg : ∀ r ∈ rows, idxD r (.int n) = some (g r)) (hj : j < env.length) :
    eComp it [j] (gN j) (eC (.bool true)) (e2 idxD (eVar j) (eC (.int n))) env st = .ok (.list (rows.map g)) st := by
  refine comp_map hi fun d hd => ⟨env.set j (some d), ?_, ?_⟩
  · show (if j < (env.set j none).length then some ((env.set j none).set j (some d)) else none) = _
    rw [if_pos (by simpa using hj), set_twice]
  · simp [get_set_self hj, hg d hd]
/-- [row for row in rows if row not in others] -/
theorem comp_nin {rows others : List D} {it : MI} {n : Nat} (hi : it env st = .ok rows st) (hl : env[l]? = some (some (.tup others))) (hlj : l ≠ j) (hj : j < env.length) (h1 : ∀ r ∈ rows, Pl n r) (h2 : ∀ r ∈ others, Pl n r) (hn : n < 40) [DecidablePred fun r => r ∉ others] :
    eComp it [j] (gN j) (e2 ninD (eVar j) (eVar l)) (eVar j) env st = .ok (.list (rows.filter fun r => decide (r ∉ others))) st := by
  refine comp_filter hi fun d hd => ⟨env.set j (some d), ?_, ?_, ?_⟩
  · show (if j < (env.set j none).length then some ((env.set j none).set j (some d)) else none) = _
    rw [if_pos (by simpa using hj), set_twice]
  · have := ninT_ok (h1 d hd) h2 hn
    simp only [ev_e2, ev_var, get_set_self hj, get_set_ne hlj, hl, R.bind_ok, this, ofOpt_some]
    congr 3
  · simp [get_set_self hj]
theorem comp_in {rows others : List D} {it : MI} {n : Nat} (hi : it env st = .ok rows st) (hl : env[l]? = some (some (.tup others))) (hlj : l ≠ j) (hj : j < env.length) (h1 : ∀ r ∈ rows, Pl n r) (h2 : ∀ r ∈ others, Pl n r) (hn : n < 40) [DecidablePred fun r => r ∈ others] :
    eComp it [j] (gN j) (e2 inD (eVar j) (eVar l)) (eVar j) env st = .ok (.list (rows.filter fun r => decide (r ∈ others))) st := by
  refine comp_filter hi fun d hd => ⟨env.set j (some d), ?_, ?_, ?_⟩
  · show (if j < (env.set j none).length then some ((env.set j none).set j (some d)) else none) = _
    rw [if_pos (by simpa using hj), set_twice]
  · have := inT_ok (h1 d hd) h2 hn
    simp only [ev_e2, ev_var, get_set_self hj, get_set_ne hlj, hl, R.bind_ok, this, ofOpt_some]
    congr 3
  · simp [get_set_self hj]
theorem it_var {rows : List D} (hi : env[i]? = some (some (.tup rows))) : iSeq (eVar i) env st = .ok rows st := by simp [hi, itemsOf]
end
/-- a row's key, a change's parts -/
def keyD (r : D) : D := (idxD r (.int 0)).getD .non
theorem key_map {S : KV} (h : ∀ p ∈ S, RowOk p.1 p.2) : (S.map (·.2)).map keyD = (S.map (·.1)).map D.str := by
  rw [List.map_map, List.map_map]
  refine List.map_congr_left fun p hp => ?_
  show keyD p.2 = .str p.1
  unfold keyD; rw [(h p hp).key]; rfl
theorem key_get {S : KV} (h : ∀ p ∈ S, RowOk p.1 p.2) : ∀ r ∈ S.map (·.2), idxD r (.int 0) = some (keyD r) := fun r hr => by
  obtain ⟨p, hp, rfl⟩ := List.mem_map.mp hr
  unfold keyD; rw [(h p hp).key]; rfl
theorem strs_pl (ls : List (List Nat)) : ∀ x ∈ ls.map D.str, Pl 0 x := fun x hx => by obtain ⟨l, _, rfl⟩ := List.mem_map.mp hx; exact Pl.str _ _
theorem mem_strs {l : List Nat} {ls : List (List Nat)} : D.str l ∈ ls.map D.str ↔ l ∈ ls := by simp
theorem list_strs_pl (ls : List (List Nat)) : Pl 1 (.list (ls.map D.str)) := Pl.list (strs_pl ls)
@[simp] theorem ne_nilL : neD (.list []) (.list []) = some (.bool false) := rfl
@[simp] theorem ne_nilT : neD (.tup []) (.tup []) = some (.bool false) := rfl
@[simp] theorem ne_bool {a b : Bool} : neD (.bool a) (.bool b) = some (.bool (a != b)) := by cases a <;> cases b <;> rfl
@[simp] theorem dispT_nil : dispT [] = some (.tup []) := rfl
@[simp] theorem dispL_nil : dispL [] = some (.list []) := rfl
theorem addT {x y : List D} (h : x.length + y.length ≤ 16777216) : addD (.tup x) (.tup y) = some (.tup (x ++ y)) := by simp only [addD]; rw [if_pos (by rw [sz_eq]; exact h)]
theorem addL {x y : List D} (h : x.length + y.length ≤ 16777216) : addD (.list x) (.list y) = some (.list (x ++ y)) := by simp only [addD]; rw [if_pos (by rw [sz_eq]; exact h)]
theorem stoD_nil : stoD [] = .tup [] := rfl
theorem chs_pl {C : CH} (h : Chs C) : ∀ c ∈ C, Pl 1 c.2.2 ∧ Pl 1 (c.2.1.getD .non) := fun c hc => ⟨(h.new c hc).pl, by
  cases e : c.2.1 with
  | none => exact Pl.non _
  | some d => exact (h.old c hc d e).pl⟩
/-! ### changes in parts -/
theorem oldOf_app : ∀ (C E : CH) (k : List Nat), oldOf (C ++ E) k = (oldOf C k).or (oldOf E k)
  | [], E, k => by simp [oldOf]
  | c :: C, E, k => by
    rw [List.cons_append, oldOf_cons, oldOf_cons, oldOf_app C E k]
    split <;> simp
theorem oldOf_perm {C E : CH} (h : C.Perm E) (nd : (E.map (·.1)).Nodup) (k : List Nat) : oldOf C k = oldOf E k := by
  have nd2 : (C.map (·.1)).Nodup := (h.map _).nodup_iff.mpr nd
  by_cases q : k ∈ C.map (·.1)
  · obtain ⟨c, hc, rfl⟩ := List.mem_map.mp q
    rw [oldOf_of nd2 hc, oldOf_of nd (h.mem_iff.mp hc)]
  · rw [oldOf_none.mpr q, oldOf_none.mpr fun z => q ((h.map _).mem_iff.mpr z)]
theorem Chs.sub {C E : CH} (h : Chs E) (p : C.Sublist E) : Chs C := ⟨h.nd.sublist (p.map _), fun c hc => h.new c (p.mem hc), fun c hc => h.old c (p.mem hc)⟩
theorem Chs.perm {C E : CH} (h : Chs E) (p : C.Perm E) : Chs C := ⟨(p.map _).nodup_iff.mpr h.nd, fun c hc => h.new c (p.mem_iff.mp hc), fun c hc => h.old c (p.mem_iff.mp hc)⟩
theorem back_parts {S R : KV} (hS : Sto1 S) (hR : Sto1 R) (hl : S.length + R.length + R.length < 64) {C E : CH} (p : (C ++ E).Perm (chg S R)) (st : Sto) :
    ∃ T, d_back [stoD (putS S R), .tup (C.map chD)] st = .ok (stoD T) st ∧ d_back [stoD T, .tup (E.map chD)] st = .ok (stoD S) st := by
  have l1 := putS_len (S := S) (R := R)
  have l2 := chg_len (S := S) (R := R)
  have l3 := p.length_eq
  rw [List.length_append] at l3
  have hCE := (chg_chs hS hR).perm p
  have hC := hCE.sub (List.sublist_append_left C E)
  have hE := hCE.sub (List.sublist_append_right C E)
  have lk : ∀ c ∈ C ++ E, lookD (putS S R) c.1 = some c.2.2 := fun c hc => by
    rw [look_putS hS hR, lookD_of hR.book.nd (mem_chg.mp (p.mem_iff.mp hc)).1]; rfl
  obtain ⟨T, e, h1, h2, h3⟩ := back_ok (putS_ok hS hR) hC (by omega) (fun c hc => lk c (List.mem_append_left _ hc)) st
  have nd := hCE.nd
  rw [List.map_append, List.nodup_append] at nd
  have lk2 : ∀ c ∈ E, lookD T c.1 = some c.2.2 := fun c hc => by
    rw [h3, oldOf_none.mpr fun z => nd.2.2 _ z _ (List.mem_map.mpr ⟨c, hc, rfl⟩) rfl]
    exact lk c (List.mem_append_right _ hc)
  obtain ⟨T2, e2, g1, g2, g3⟩ := back_ok h1 hE (by omega) lk2 st
  refine ⟨T, e, ?_⟩
  rw [e2, sto_ext g1 hS fun k => ?_]
  rw [g3, h3, ← old_chg hS hR k, ← oldOf_perm p (chg_chs hS hR).nd k, oldOf_app]
  cases q : oldOf C k with
  | none => simp
  | some o =>
    have : oldOf E k = none := oldOf_none.mpr fun z => by
      have : k ∈ C.map (·.1) := by
        rcases Decidable.em (k ∈ C.map (·.1)) with w | w
        · exact w
        · rw [oldOf_none.mpr w] at q; cases q
      exact nd.2.2 _ this _ z rfl
    rw [this]; simp
/-- changes told twice are the same -/
theorem chg_ext {C E : CH} (hC : (C.map (·.1)).Pairwise fun x y => ltS x y = true) (hE : (E.map (·.1)).Pairwise fun x y => ltS x y = true) (m : ∀ c, c ∈ C ↔ c ∈ E) : C = E := by
  have irr : ∀ {L : CH}, (L.map (·.1)).Pairwise (fun x y => ltS x y = true) → L.Nodup := fun h => (List.pairwise_map.mp h).imp fun {a b} q z => by rw [z, ltS_irrefl] at q; cases q
  refine List.Perm.eq_of_pairwise (le := fun p q => ltS p.1 q.1 = true) (fun a b _ _ h1 h2 => ?_) (List.pairwise_map.mp hC) (List.pairwise_map.mp hE) ((List.perm_ext_iff_of_nodup (irr hC) (irr hE)).mpr m)
  have := ltS_asym h1; rw [h2] at this; cases this
theorem chg_rising {S R : KV} (hR : Sto1 R) : ((chg S R).map (·.1)).Pairwise fun x y => ltS x y = true := hR.srt.sublist chg_keys
theorem chg_last {S R : KV} (hS : Sto1 S) (hR : Sto1 R) : chg S (putS S R) = chg S R := by
  refine chg_ext (chg_rising (putS_ok hS hR)) (chg_rising hR) fun c => ?_
  rw [mem_chg, mem_chg, ← lookD_iff (putS_ok hS hR).book.nd, ← lookD_iff hR.book.nd, look_putS hS hR]
  constructor
  · rintro ⟨h1, h2, h3⟩
    refine ⟨?_, h2, h3⟩
    cases q : lookD R c.1 with
    | none => rw [q] at h1; exact absurd h1 h2
    | some r => rw [q] at h1; exact h1
  · rintro ⟨h1, h2, h3⟩
    rw [h1]; exact ⟨rfl, h2, h3⟩
theorem one_sto {k : List Nat} {r : D} (h : RowOk k r) : Sto1 [(k, r)] := ⟨List.pairwise_singleton .., fun p hp => by simp at hp; subst hp; exact h⟩
/-- a cut at c -/
theorem cut_lo {α : Type} (xs : List α) {c : Int} (h0 : 0 ≤ c) (h1 : c ≤ xs.length) : cutD xs none (some c) = xs.take c.toNat := by
  unfold cutD sIxD
  simp only [show ¬ c < 0 by omega, if_false, List.drop_zero, Nat.sub_zero]
  congr 1; omega
theorem cut_hi {α : Type} (xs : List α) {c : Int} (h0 : 0 ≤ c) (h1 : c ≤ xs.length) : cutD xs (some c) none = xs.drop c.toNat := by
  unfold cutD sIxD
  simp only [show ¬ c < 0 by omega, if_false]
  have e : min c.toNat xs.length = c.toNat := by omega
  rw [e]
  exact List.take_of_length_le (by rw [List.length_drop]; omega)
theorem itemsT {xs : List D} : itemsOf (.tup xs) = some xs := rfl
/-- a comprehension that finds nothing -/
theorem comp_empty {env : Env} {st : Sto} {it : MI} {j : Nat} {t e : ME} {ds : List D} (hi : it env st = .ok ds st) (hj : j < env.length) (h : ∀ d ∈ ds, t (env.set j (some d)) st = .ok (.bool false) st) : eComp it [j] (gN j) t e env st = .ok (.list []) st := by
  rw [comp_ok (f := fun _ => none) hi fun d hd => ⟨env.set j (some d), ?_, .inr ⟨h d hd, rfl⟩⟩]
  · simp
  · show (if j < (env.set j none).length then some ((env.set j none).set j (some d)) else none) = _
    rw [if_pos (by simpa using hj), set_twice]
end Dn

/-! PuRow: is_name, is_amount, is_row at good things (pure). -/
namespace Dn
theorem in_abc {c : Nat} (h : 97 ≤ c ∧ c ≤ 122) : inD (.str [c]) (.str abc) = some (.bool true) := by
  have : c ∈ abc := by
    have key : ∀ j, j < 26 → (97 + j) ∈ abc := by decide
    have := key (c - 97) (by omega)
    rwa [show 97 + (c - 97) = c by omega] at this
  simp [inD, this]
theorem boolsD_true (bs : List Bool) : boolsD (bs.map D.bool) = some bs := by
  induction bs with
  | nil => rfl
  | cons b bs ih => simp [boolsD, ih]
theorem is_name_ok {l : List Nat} (h : NameC l) (st : Sto) : d_is_name [.str l] st = .ok (.bool true) st := by
  obtain ⟨h1, h2, h3⟩ := h
  have e := comp_map (env := [some (.str l), none]) (st := st) (it := iSeq (eVar 0)) (own := [1]) (tg := gN 1) (ds := l.map fun c => D.str [c]) (e := e2 inD (eVar 1) (eC (.str abc))) (f := fun _ => .bool true)
    (by simp [itemsOf]) (fun d hd => by
      obtain ⟨c, hc, rfl⟩ := List.mem_map.mp hd
      exact ⟨_, rfl, by simp [wipeE, in_abc (h3 c hc)]⟩)
  have e2' : (l.map fun c => D.str [c]).map (fun _ => D.bool true) = (l.map fun _ => true).map D.bool := by simp [List.map_map, Function.comp_def]
  rw [e2'] at e
  have a : allD [.list ((l.map fun _ => true).map D.bool)] = some (.bool true) := by
    simp only [allD, boolsD_true, Option.map_some]
    congr 2
    simp
  generalize D.list ((l.map fun _ => true).map D.bool) = B at e a
  simp only [abc] at e
  have c1 : (1 : Int) ≤ (l.length : Int) := by omega
  have c2 : (l.length : Int) ≤ 5 := by omega
  simp [d_is_name, runDef, env0, m_is_name, instD, isStrD, lenD, leD, c1, c2, e, a]
theorem is_amount_ok {a : Int} (h0 : 0 ≤ a) (h1 : a ≤ 999) (st : Sto) : d_is_amount [.int a] st = .ok (.bool true) st := by
  simp [d_is_amount, runDef, env0, m_is_amount, instD, isIntD, isBoolD, leD, h0, h1]
theorem is_row_ok {lo hi : Int} {tags : List (List Nat)} (P : PlanOk lo hi tags) {k : List Nat} {r : D} (h : DRow lo hi tags k r) (st : Sto) : d_is_row [r] st = .ok (.bool true) st := by
  obtain ⟨p, a, t, rfl, h1, h2, h3, h4, h5⟩ := h
  have ha := is_amount_ok (a := a) (by have := P.lo0; omega) (by have := P.hi1; omega)
  have ht := is_name_ok (P.name t h5)
  have hk := is_name_ok h1
  have i0 : ∀ x, idxD (rowD k p a t) (.int 0) = some x ↔ x = .str k := fun x => ⟨fun e => by cases e; rfl, fun e => by rw [e]; rfl⟩
  cases p with
  | none =>
    have x0 : idxD (rowD k none a t) (.int 0) = some (.str k) := rfl
    have x1 : idxD (rowD k none a t) (.int 1) = some .non := rfl
    have x2 : idxD (rowD k none a t) (.int 2) = some (.int a) := rfl
    have x3 : idxD (rowD k none a t) (.int 3) = some (.str t) := rfl
    have xl : lenD [rowD k none a t] = some (.int 4) := rfl
    have xt : instD isTupD (rowD k none a t) = some (.bool true) := rfl
    simp [d_is_row, runDef, env0, m_is_row, xt, xl, x0, x1, x2, x3, neD, okD, eqB, hk, isN2, isNonD, ha, ht]
  | some q =>
    have hq := is_name_ok (h2 q rfl)
    have x0 : idxD (rowD k (some q) a t) (.int 0) = some (.str k) := rfl
    have x1 : idxD (rowD k (some q) a t) (.int 1) = some (.str q) := rfl
    have x2 : idxD (rowD k (some q) a t) (.int 2) = some (.int a) := rfl
    have x3 : idxD (rowD k (some q) a t) (.int 3) = some (.str t) := rfl
    have xl : lenD [rowD k (some q) a t] = some (.int 4) := rfl
    have xt : instD isTupD (rowD k (some q) a t) = some (.bool true) := rfl
    simp [d_is_row, runDef, env0, m_is_row, xt, xl, x0, x1, x2, x3, neD, okD, eqB, hk, isN2, isNonD, ha, ht, hq]
end Dn

/-! PuSto5: drawn rows of the laws k40, k41 (pure). -/
namespace Dn
def lrB : MS := (sSeq (sAsg (gN 5) (eCall d_law_row (aCons (eVar 0) (aCons (e2 fdivD (eCall d_law_drawn (aCons (eVar 1) (aCons (e2 addD (eC (.int 40)) (eVar 4)) aNil))) (eC (.int 4))) aNil)))) (sUpd 3 isDictD putD (aCons (eVar 5) (aCons (e2 idxD (eVar 5) (eC (.int 0))) aNil))))
def lrC : ME := eA tupleD (aCons (eComp (iSeq (eA sortD (aCons (eVar 3) aNil))) [6] (gN 6) (eC (.bool true)) (e2 idxD (eVar 3) (eVar 6))) aNil)
theorem m_law_rows_eq : m_law_rows = (sSeq (sAsg (gN 3) (eC (.dict []))) (sSeq (sFor (iRange (e2 modD (eVar 1) (e2 addD (eVar 2) (eC (.int 1))))) (gN 4) lrB) (sRet lrC))) := rfl
theorem rows_ok {lo hi : Int} {tags : List (List Nat)} (P : PlanOk lo hi tags) (n m : Int) (h0 : 0 ≤ n) (hm0 : 0 ≤ m) (hm1 : m ≤ 60) (st : Sto) : ∃ S, d_law_rows [planD lo hi tags, .int n, .int m] st = .ok (stoD S) st ∧ Sto1 S ∧ (S.length : Int) ≤ m ∧ ∀ p ∈ S, DRow lo hi tags p.1 p.2 := by
  have f4 : ∀ j : Int, fdivD (.int j) (.int 4) = some (.int (j / 4)) := fun j => fdiv_pos (by omega)
  have qm : modD (.int n) (.int (m + 1)) = some (.int (n % (m + 1))) := mod_pos (by omega)
  obtain ⟨i1, i2⟩ := lcg_lt n (m + 1) (by omega)
  generalize n % (m + 1) = q at qm i1 i2
  have hr : rangeD (.int q) = some ((List.range q.toNat).map fun (k : Nat) => D.int (k : Int)) := range_ok (by omega) (by omega)
  obtain ⟨env', e, _, T, x, y, rfl, b1, b2, b3⟩ := forL_inv (p := lrB) (st := st) (tg := gN 4) (I := fun ds env => (∀ d ∈ ds, ∃ k : Nat, d = .int k) ∧ ∃ (T : KV) (x y : Option D), env = [some (planD lo hi tags), some (.int n), some (.int m), some (.dict T), x, y, none] ∧ Book T ∧ ((T.length + ds.length : Nat) : Int) ≤ m ∧ ∀ p ∈ T, DRow lo hi tags p.1 p.2)
    (fun d ds env ⟨hk, T, x, y, ee, b1, b2, b3⟩ => by
      subst ee
      obtain ⟨k, rfl⟩ := hk d List.mem_cons_self
      obtain ⟨kk, pp, aa, tt, r1, r2, r3, r4, r5, r6⟩ := row_ok P (drawnN n (40 + k) / 4) (by have := (drawn_bd n (40 + k)).1; omega) st
      have dr : DRow lo hi tags kk (rowD kk pp aa tt) := ⟨pp, aa, tt, rfl, r2, r3, r4, r5, r6⟩
      have sz : List.length T < 16777216 := by rw [List.length_cons] at b2; omega
      refine ⟨_, [some (planD lo hi tags), some (.int n), some (.int m), some (.dict (putKD T kk (rowD kk pp aa tt))), some (.int k), some (rowD kk pp aa tt), none], rfl, ?_, fun d hd => hk d (List.mem_cons_of_mem _ hd), _, _, _, rfl, put_book b1 dr.row, ?_, fun p hp => ?_⟩
      · simp [lrB, drawn_eq, f4, r1, isDictD, dr.row.key, putD, sz]
      · have := putKD_len2 T kk (rowD kk pp aa tt)
        rw [List.length_cons] at b2; omega
      · rcases put_mem hp with hp | rfl
        · exact b3 p hp
        · exact dr)
    (ds := (List.range q.toNat).map fun (k : Nat) => D.int (k : Int)) (env := [some (planD lo hi tags), some (.int n), some (.int m), some (.dict []), none, none, none])
    ⟨fun d hd => by obtain ⟨k, _, rfl⟩ := List.mem_map.mp hd; exact ⟨k, rfl⟩, [], none, none, rfl, Sto1.nil.book, by simp; omega, fun p hp => nomatch hp⟩
  have b2 : (T.length : Int) ≤ m := by simpa using b2
  have hs : sortD [.dict T] = some (.list ((sortB ltS (T.map (·.1))).map D.str)) := by
    simp only [sortD]; rw [if_pos (by omega)]
  have ec := comp_map (env := [some (planD lo hi tags), some (.int n), some (.int m), some (.dict T), x, y, none]) (st := st) (it := iSeq (eA sortD (aCons (eVar 3) aNil))) (own := [6]) (tg := gN 6) (ds := (sortB ltS (T.map (·.1))).map D.str) (e := e2 idxD (eVar 3) (eVar 6))
    (f := fun d => match d with | .str k => (lookD T k).getD .non | _ => .non) (by simp [hs, itemsOf]) (fun d hd => by
      obtain ⟨k, hk, rfl⟩ := List.mem_map.mp hd
      have hk2 : k ∈ T.map (·.1) := (sortB_perm _).mem_iff.mp hk
      cases q : lookD T k with
      | none => exact absurd hk2 (lookD_none.mp q)
      | some x => exact ⟨_, rfl, by simp [wipeE, idxD, q]⟩)
  have e2' : ((sortB ltS (T.map (·.1))).map D.str).map (fun d => match d with | .str k => (lookD T k).getD .non | _ => .non) = (canon T).map (·.2) := by
    unfold canon
    rw [List.map_map, List.map_map]; rfl
  rw [e2'] at ec
  refine ⟨canon T, ?_, canon_ok b1, by rw [canon_len]; exact b2, fun p hp => ?_⟩
  · have lc : lrC [some (planD lo hi tags), some (.int n), some (.int m), some (.dict T), x, y, none] st = .ok (stoD (canon T)) st := by
      simp [lrC, ec, tupleD, stoD]
    simp [d_law_rows, runDef, env0, m_law_rows_eq, qm, hr]
    rw [e]
    simp [lc]
  · have := lookD_of (canon_ok b1).book.nd hp
    rw [look_canon b1] at this
    exact b3 _ (lookD_mem this)
end Dn

/-! PuBack: back refused; rows of a store changed in place (pure). -/
namespace Dn
@[simp] theorem ev_try {f : Nat → D} {m : ME} {env : Env} {st : Sto} : eTry f m env st = match m env st with | .ok d st1 => .ok (.tup [.str [116, 111, 108, 100], d]) st1 | .exc c st1 => if c < 3 then .ok (.tup [.str [114, 101, 102, 117, 115, 101, 100], f c]) st1 else .bad | .bad => .bad := rfl
theorem back_loop_bad {a b : Option D} : ∀ {C : CH} {T : KV} {x y z : Option D} (st : Sto), Book T → Chs C → T.length + C.length < 64 →
    (∃ c ∈ C, lookD T c.1 ≠ some c.2.2) → forL (gT [3, 4, 5]) bkB (C.map chD) [a, b, some (.dict T), x, y, z] st = .exc 2 st
  | [], T, x, y, z, st, hT, _, hl, h => by obtain ⟨c, hc, _⟩ := h; cases hc
  | c :: C, T, x, y, z, st, hT, hC, hl, hm => by
    have nd := hC.nd
    rw [List.map_cons, List.nodup_cons] at nd
    have hC' : Chs C := ⟨nd.2, fun c' h => hC.new c' (List.mem_cons_of_mem _ h), fun c' h => hC.old c' (List.mem_cons_of_mem _ h)⟩
    have hr := hC.new c List.mem_cons_self
    rw [List.length_cons] at hl
    have dl : (dropKD T c.1).length ≤ T.length := List.length_filter_le _ _
    obtain ⟨k, o, r⟩ := c
    simp only at hr nd dl hm
    rw [List.map_cons]
    unfold forL
    by_cases lk : lookD T k = some r
    · have hb : ∃ c' ∈ C, lookD T c'.1 ≠ some c'.2.2 := by
        obtain ⟨c', hc, h⟩ := hm
        rcases List.mem_cons.mp hc with rfl | hc
        · exact absurd lk h
        · exact ⟨c', hc, h⟩
      have n1 := ne_self hr.pl (by omega)
      have nk : ∀ c' ∈ C, c'.1 ≠ k := fun c' h z => nd.1 (z ▸ List.mem_map.mpr ⟨c', h, rfl⟩)
      have dl1 : (dropKD T k).length < T.length := by
        refine Nat.lt_of_le_of_ne dl fun z => ?_
        have := List.length_filter_eq_length_iff.mp z (k, r) (lookD_mem lk)
        simp at this
      cases o with
      | none =>
        have hm' : ∃ c' ∈ C, lookD (dropKD T k) c'.1 ≠ some c'.2.2 := by
          obtain ⟨c', hc, h⟩ := hb
          exact ⟨c', hc, by rw [look_drop, if_neg (nk c' hc)]; exact h⟩
        have e := back_loop_bad (a := a) (b := b) (x := some (.str k)) (y := some .non) (z := some r) st (drop_book hT k) hC' (by omega) hm'
        have : bkB [a, b, some (.dict T), some (.str k), some .non, some r] st = .nx [a, b, some (.dict (dropKD T k)), some (.str k), some .non, some r] st := by
          simp [bkB, isDictD, getD3, lk, n1, popKD, notN2, notNonD]
        simp [chD]
        rw [this]
        exact e
      | some d =>
        have hd : RowOk k d := hC.old (k, some d, r) List.mem_cons_self d rfl
        have pb := put_book (drop_book hT k) hd
        have pl := putKD_len2 (dropKD T k) k d
        have hm' : ∃ c' ∈ C, lookD (putKD (dropKD T k) k d) c'.1 ≠ some c'.2.2 := by
          obtain ⟨c', hc, h⟩ := hb
          exact ⟨c', hc, by rw [look_put, if_neg (nk c' hc), look_drop, if_neg (nk c' hc)]; exact h⟩
        have e := back_loop_bad (a := a) (b := b) (x := some (.str k)) (y := some d) (z := some r) st pb hC' (by omega) hm'
        have dn : notNonD d = some (.bool true) := by
          have := hd.nn
          cases d <;> first | rfl | exact absurd rfl this
        have : bkB [a, b, some (.dict T), some (.str k), some d, some r] st = .nx [a, b, some (.dict (putKD (dropKD T k) k d)), some (.str k), some d, some r] st := by
          have sz : (dropKD T k).length < 16777216 := by omega
          simp [bkB, isDictD, getD3, lk, n1, popKD, notN2, dn, putD, sz]
        simp [chD]
        rw [this]
        exact e
    · have n1 : neD ((lookD T k).getD .non) r = some (.bool true) := by
        classical
        rw [ne_ok (getD_row hT k) hr.pl (by omega), decide_eq_true]
        rw [ne_eq, getD_eq hr]; exact lk
      have : bkB [a, b, some (.dict T), some (.str k), some (o.getD .non), some r] st = .exc 2 st := by
        simp [bkB, isDictD, getD3, n1]
      simp [chD]
      rw [this]
theorem back_bad {S : KV} {C : CH} (hS : Sto1 S) (hC : Chs C) (hl : S.length + C.length < 64) (hm : ∃ c ∈ C, lookD S c.1 ≠ some c.2.2) (st : Sto) : d_back [stoD S, .tup (C.map chD)] st = .exc 2 st := by
  have e := back_loop_bad (a := some (stoD S)) (b := some (.tup (C.map chD))) (x := none) (y := none) (z := none) st hS.book hC hl hm
  simp [d_back, runDef, env0, m_back_eq, by_keys_ok hS, itemsOf]
  rw [e]
def mapS (f : List Nat → D → D) (S : KV) : KV := S.map fun p => (p.1, f p.1 p.2)
theorem look_mapS (f : List Nat → D → D) : ∀ (S : KV) (k : List Nat), lookD (mapS f S) k = (lookD S k).map (f k)
  | [], _ => rfl
  | (k', d) :: S, k => by
    have ih := look_mapS f S k
    unfold mapS at ih ⊢
    rw [List.map_cons]
    unfold lookD
    by_cases h : k' = k
    · subst h; simp
    · simp [h, ih]
theorem mapS_ok {f : List Nat → D → D} {S : KV} (hS : Sto1 S) (h : ∀ p ∈ S, RowOk p.1 (f p.1 p.2)) : Sto1 (mapS f S) := by
  have hk : (mapS f S).map (·.1) = S.map (·.1) := by unfold mapS; rw [List.map_map]; rfl
  refine ⟨by rw [hk]; exact hS.srt, fun p hp => ?_⟩
  unfold mapS at hp
  obtain ⟨q, hq, rfl⟩ := List.mem_map.mp hp
  exact h q hq
theorem drop_sto {S : KV} (hS : Sto1 S) (k : List Nat) : Sto1 (dropKD S k) := ⟨hS.srt.sublist ((List.filter_sublist (l := S)).map _), fun p hp => hS.row p (List.mem_filter.mp hp).1⟩
def zeroD : D → D
  | .tup [a, b, _, d] => .tup [a, b, .int 0, d]
  | r => r
def otherD : D → D
  | .tup [a, b, c, _] => .tup [a, b, c, .str [111, 116, 104, 101, 114]]
  | r => r
theorem zero_row {k : List Nat} {r : D} (h : RowOk k r) : RowOk k (zeroD r) := by obtain ⟨p, a, t, rfl⟩ := h; exact ⟨p, 0, t, rfl⟩
theorem other_row {k : List Nat} {r : D} (h : RowOk k r) : RowOk k (otherD r) := by obtain ⟨p, a, t, rfl⟩ := h; exact ⟨p, a, _, rfl⟩
end Dn

/-! PuJ1: the faults of a text, its row (pure). -/
namespace Dn
abbrev Tx := List Nat
def abcB (c : Nat) : Bool := decide (c ∈ abc)
def isNameB (l : Tx) : Bool := decide (1 ≤ l.length) && decide (l.length ≤ 5) && l.all abcB
def digs : Tx := [48, 49, 50, 51, 52, 53, 54, 55, 56, 57]
theorem boolsD_map (bs : List Bool) : boolsD (bs.map D.bool) = some bs := boolsD_true bs
/-- [sign in signs for sign in text] -/
theorem comp_in_str {env : Env} {st : Sto} {i j : Nat} {l signs : Tx} (hi : env[i]? = some (some (.str l))) (hj : j < env.length) :
    eComp (iSeq (eVar i)) [j] (gN j) (eC (.bool true)) (e2 inD (eVar j) (eC (.str signs))) env st = .ok (.list ((l.map fun c => decide (c ∈ signs)).map D.bool)) st := by
  rw [comp_map (f := fun d => match d with | .str [c] => .bool (decide (c ∈ signs)) | _ => .non) (ds := l.map fun c => .str [c]) (by simp [hi, itemsOf]) (fun d hd => ?_)]
  · simp [Function.comp_def]
  · obtain ⟨c, _, rfl⟩ := List.mem_map.mp hd
    refine ⟨env.set j (some (.str [c])), ?_, ?_⟩
    · show (if j < (env.set j none).length then some ((env.set j none).set j (some (.str [c]))) else none) = _
      rw [if_pos (by simpa using hj), set_twice]
    · simp [get_set_self hj, inD, List.getElem?_set, hj]
theorem is_name_eq (l : Tx) (st : Sto) : d_is_name [.str l] st = .ok (.bool (isNameB l)) st := by
  have ic := comp_in_str (env := [some (.str l), none]) (st := st) (i := 0) (j := 1) (signs := abc) (l := l) rfl (by simp)
  have ha : allD [.list ((l.map fun c => decide (c ∈ abc)).map D.bool)] = some (.bool (l.all abcB)) := by
    simp only [allD, boolsD_map, Option.map_some]; rw [List.all_map]; rfl
  generalize D.list ((l.map fun c => decide (c ∈ abc)).map D.bool) = AL at ic ha
  simp only [abc] at ic
  simp only [d_is_name, runDef, env0]
  unfold isNameB
  by_cases h1 : 1 ≤ l.length
  · by_cases h2 : l.length ≤ 5
    · have i1 : (1 : Int) ≤ (l.length : Nat) := by omega
      have i2 : ((l.length : Nat) : Int) ≤ 5 := by omega
      simp [m_is_name, instD, isStrD, lenD, leD, i1, i2, h1, h2, ic, ha]
    · have i1 : (1 : Int) ≤ (l.length : Nat) := by omega
      have i2 : ¬ ((l.length : Nat) : Int) ≤ 5 := by omega
      simp [m_is_name, instD, isStrD, lenD, leD, i1, i2, h1, h2]
  · have i1 : ¬ (1 : Int) ≤ (l.length : Nat) := by omega
    simp [m_is_name, instD, isStrD, lenD, leD, i1, h1]
def amtOf (w : Tx) : Option Int := if 1 ≤ w.length ∧ w.length ≤ 3 ∧ digB w = true ∧ numC (digVal w) = w then some ((digVal w : Nat) : Int) else none
def amD : Option Int → D
  | some n => .int n
  | none => .non
theorem digs_mem (c : Nat) : decide (c ∈ digs) = (decide (48 ≤ c) && decide (c ≤ 57)) := by
  rw [← Bool.decide_and, decide_eq_decide]
  simp [digs]; omega
theorem digVal_lt : ∀ (w : Tx) (acc : Nat), digB w = true → w.foldl (fun acc c => acc * 10 + (c - 48)) acc < (acc + 1) * 10 ^ w.length
  | [], acc, _ => by simp
  | c :: w, acc, h => by
    simp only [digB, List.all_cons, Bool.and_eq_true, decide_eq_true_eq] at h
    have ih := digVal_lt w (acc * 10 + (c - 48)) (by simpa [digB] using h.2)
    rw [List.foldl_cons, List.length_cons, Nat.pow_succ]
    have h1 : acc * 10 + (c - 48) + 1 ≤ (acc + 1) * 10 := by have := h.1.2; omega
    have h2 := Nat.mul_le_mul_right (10 ^ w.length) h1
    calc _ < (acc * 10 + (c - 48) + 1) * 10 ^ w.length := ih
      _ ≤ (acc + 1) * 10 * 10 ^ w.length := h2
      _ = (acc + 1) * (10 ^ w.length * 10) := by rw [Nat.mul_assoc, Nat.mul_comm 10]
theorem str_small {n : Nat} (h : n < 1000) : strD [.int (n : Int)] = some (.str (numC n)) := by
  have h1 : (0 : Int) ≤ n ∧ (n : Int) < 1000000000000 := by omega
  simp only [strD, h1, if_true, Int.toNat_natCast]
  rfl
theorem int_small {w : Tx} (h1 : 1 ≤ w.length) (h2 : w.length ≤ 3) (hd : digB w = true) : intD [.str w] = some (.int (digVal w : Nat)) := by
  have ne : w ≠ [] := fun z => by rw [z] at h1; simp at h1
  have h3 : w.length ≤ 600 := by omega
  simp only [intD]
  rw [if_pos (by simp [hd, ne, h3])]
theorem val_small {w : Tx} (h2 : w.length ≤ 3) (hd : digB w = true) : digVal w < 1000 := by
  have h := digVal_lt w 0 hd
  have h3 : 10 ^ w.length ≤ 10 ^ 3 := Nat.pow_le_pow_right (by omega) h2
  rw [Nat.zero_add, Nat.one_mul] at h
  exact Nat.lt_of_lt_of_le h h3
theorem all_digs (w : Tx) : allD [.list ((w.map fun c => decide (c ∈ digs)).map D.bool)] = some (.bool (digB w)) := by
  have e : (w.map fun c => decide (c ∈ digs)).all id = digB w := by
    unfold digB
    rw [List.all_map]
    congr 1
    funext c
    exact digs_mem c
  simp only [allD, boolsD_map, Option.map_some, e]
theorem amount_in_eq (w : Tx) (st : Sto) : d_amount_in [.str w] st = .ok (amD (amtOf w)) st := by
  have ic := comp_in_str (env := [some (.str w), none]) (st := st) (i := 0) (j := 1) (signs := digs) (l := w) rfl (by simp)
  have ha := all_digs w
  generalize D.list ((w.map fun c => decide (c ∈ digs)).map D.bool) = AL at ic ha
  simp only [digs] at ic
  simp only [d_amount_in, runDef, env0]
  by_cases h1 : 1 ≤ w.length
  · by_cases h2 : w.length ≤ 3
    · have i1 : (1 : Int) ≤ (w.length : Nat) := by omega
      have i2 : ((w.length : Nat) : Int) ≤ 3 := by omega
      by_cases hd : digB w = true
      · have iv := int_small h1 h2 hd
        have lt := val_small h2 hd
        have sv : strD [.int (digVal w : Nat)] = some (.str (numC (digVal w))) := str_small lt
        rw [hd] at ha
        have key : ∀ (nc : Tx) (n : Int) (r : D), intD [.str w] = some (.int n) → strD [.int n] = some (.str nc) → r = (if nc = w then .int n else .non) → m_amount_in [some (.str w), none] st = .rt r st := by
          intro nc n r iv sv hr
          unfold m_amount_in
          by_cases hn : nc = w
          · rw [if_pos hn] at hr
            have nq : neD (.str nc) (.str w) = some (.bool false) := by rw [hn]; exact ne_self (Pl.str w 0) (by omega)
            simp [lenD, leD, i1, i2, ic, ha, iv, sv, nq, hr]
          · rw [if_neg hn] at hr
            have nq : neD (.str nc) (.str w) = some (.bool true) := by classical rw [ne_ok (Pl.str _ 0) (Pl.str w 0) (by omega)]; simp [hn]
            simp [lenD, leD, i1, i2, ic, ha, iv, sv, nq, hr]
        have hA : amD (amtOf w) = (if numC (digVal w) = w then .int (digVal w : Nat) else .non) := by
          by_cases hn : numC (digVal w) = w
          · rw [show amtOf w = some ((digVal w : Nat) : Int) from if_pos ⟨h1, h2, hd, hn⟩, if_pos hn]; rfl
          · rw [show amtOf w = none from if_neg (fun z => hn z.2.2.2), if_neg hn]; rfl
        have kk := key _ _ _ iv sv hA
        show (match m_amount_in [some (.str w), none] st with | .nx _ st1 => (R.ok D.non st1 : R D) | .rt d st1 => R.ok d st1 | .exc c st1 => R.exc c st1 | .bad => R.bad) = _
        rw [kk]
      · rw [show amtOf w = none from if_neg (fun z => hd z.2.2.1)]
        have hd' : digB w = false := by simpa using hd
        rw [hd'] at ha
        simp [m_amount_in, lenD, leD, i1, i2, ic, ha, amD]
    · rw [show amtOf w = none from if_neg (fun z => h2 z.2.1)]
      have i1 : (1 : Int) ≤ (w.length : Nat) := by omega
      have i2 : ¬ ((w.length : Nat) : Int) ≤ 3 := by omega
      simp [m_amount_in, lenD, leD, i1, i2, amD]
  · rw [show amtOf w = none from if_neg (fun z => h1 z.1)]
    have i1 : ¬ (1 : Int) ≤ (w.length : Nat) := by omega
    simp [m_amount_in, lenD, leD, i1, amD]
end Dn

/-! PuJ2: faults, row_of, good_rows (pure). -/
namespace Dn
def wCount : Tx := [99, 111, 117, 110, 116]
def wKey : Tx := [107, 101, 121]
def wPar : Tx := [112, 97, 114, 101, 110, 116]
def wAmt : Tx := [97, 109, 111, 117, 110, 116]
def wTag : Tx := [116, 97, 103]
def wTwice : Tx := [116, 119, 105, 99, 101]
def wRing : Tx := [114, 105, 110, 103]
def wLost : Tx := [108, 111, 115, 116]
/-- a plan: least, most, tags -/
structure Pn where
  lo : Int
  hi : Int
  tags : List Tx
def Pn.d (p : Pn) : D := planD p.lo p.hi p.tags
def amtOk (p : Pn) (a : Tx) : Bool := match amtOf a with
  | some n => decide (p.lo ≤ n) && decide (n ≤ p.hi)
  | none => false
def fau4 (pn : Pn) (k p a g : Tx) : List Tx :=
  (if isNameB k then [] else [wKey]) ++ (if p = [45] ∨ isNameB p = true then [] else [wPar]) ++ (if amtOk pn a then [] else [wAmt]) ++ (if g ∈ pn.tags then [] else [wTag])
/-- the faults of a text alone -/
def faus (pn : Pn) (t : Tx) : List Tx := match splitC 32 t with
  | [k, p, a, g] => if ([] : Tx) ∈ [k, p, a, g] then [wCount] else fau4 pn k p a g
  | _ => [wCount]
def tD (l : List Tx) : D := .tup (l.map D.str)
theorem split_ok {t : Tx} (h : t.length + 2 ≤ 16777216) : splitD (.str t) [.str [32]] = some (.list ((splitC 32 t).map D.str)) := by
  simp only [splitD]
  rw [if_pos ⟨by decide, by rw [sz_eq]; exact h⟩]
theorem four {α : Type} {l : List α} (h : l.length = 4) : ∃ a b c d, l = [a, b, c, d] := by
  match l, h with
  | [a, b, c, d], _ => exact ⟨a, b, c, d, rfl⟩
theorem in_strs (x : Tx) (ls : List Tx) : inD (.str x) (.list (ls.map D.str)) = some (.bool (decide (x ∈ ls))) := by
  classical
  rw [inL_ok (Pl.str x 0) (strs_pl _) (by omega)]
  congr 2
  exact decide_eq_decide.mpr mem_strs
theorem in_strsT (x : Tx) (ls : List Tx) : inD (.str x) (.tup (ls.map D.str)) = some (.bool (decide (x ∈ ls))) := by
  classical
  rw [inT_ok (Pl.str x 0) (strs_pl _) (by omega)]
  congr 2
  exact decide_eq_decide.mpr mem_strs
theorem nin_strsT (x : Tx) (ls : List Tx) : ninD (.str x) (.tup (ls.map D.str)) = some (.bool (decide (x ∉ ls))) := by
  simp only [ninD, in_strsT]
  congr 2
  simp
theorem ne_str (x y : Tx) : neD (.str x) (.str y) = some (.bool (decide (x ≠ y))) := by
  classical
  rw [ne_ok (Pl.str x 0) (Pl.str y 0) (by omega)]
  congr 2
  exact decide_eq_decide.mpr (by simp)
theorem eq_str (x y : Tx) : eqD (.str x) (.str y) = some (.bool (decide (x = y))) := by
  classical
  rw [eq_ok (Pl.str x 0) (Pl.str y 0) (by omega)]
  congr 2
  exact decide_eq_decide.mpr (by simp)
theorem ne_int (x y : Int) : neD (.int x) (.int y) = some (.bool (decide (x ≠ y))) := by
  classical
  rw [ne_ok (Pl.int x 0) (Pl.int y 0) (by omega)]
  congr 2
  exact decide_eq_decide.mpr (by simp)
theorem eq_int (x y : Int) : eqD (.int x) (.int y) = some (.bool (decide (x = y))) := by
  classical
  rw [eq_ok (Pl.int x 0) (Pl.int y 0) (by omega)]
  congr 2
  exact decide_eq_decide.mpr (by simp)
/-- if c: found.append(w) -/
theorem app_if {c : ME} {w : Tx} {b : Bool} {xs : List D} {e0 e1 e2 e4 : Option D} {st : Sto} (hc : c [e0, e1, e2, some (.list xs), e4] st = .ok (.bool b) st) (hx : xs.length < 10) :
    sIf c (sUpd 3 isListD appendD (aCons (eC (.str w)) aNil)) sSkip [e0, e1, e2, some (.list xs), e4] st = .nx [e0, e1, e2, some (.list (xs ++ (if b then [w] else []).map D.str)), e4] st := by
  have hl : xs.length < SZ := by rw [sz_eq]; omega
  cases b
  · simp [hc]
  · rw [ev_sif, hc]
    show sUpd 3 isListD appendD (aCons (eC (.str w)) aNil) _ st = _
    have ha : appendD (.list xs) [.str w] = some (.list (xs ++ [.str w])) := by simp only [appendD]; rw [if_pos hl]
    simp [isListD, ha]
theorem faults_tail (pn : Pn) (k p a g t : Tx) (st : Sto) (c0 : ([] : Tx) ∉ [k, p, a, g]) (hs : splitD (.str t) [.str [32]] = some (.list ([k, p, a, g].map D.str))) : m_faults [some pn.d, some (.str t), none, none, none] st = .rt (tD (fau4 pn k p a g)) st := by
  have n1 := is_name_eq k st
  have n2 := is_name_eq p st
  have am := amount_in_eq a st
  have n3 := ne_str p [45]
  have tg := nin_strsT g pn.tags
  have ie := in_strs [] [k, p, a, g]
  rw [decide_eq_false c0] at ie
  have n4 : neD (.int 4) (.int 4) = some (.bool false) := by rw [ne_int]; rfl
  have i0 : idxD pn.d (.int 0) = some (.int pn.lo) := rfl
  have i1 : idxD pn.d (.int 1) = some (.int pn.hi) := rfl
  have i2 : idxD pn.d (.int 2) = some (.tup (pn.tags.map D.str)) := rfl
  have w0 : idxD (.list ([k, p, a, g].map D.str)) (.int 0) = some (.str k) := rfl
  have w1 : idxD (.list ([k, p, a, g].map D.str)) (.int 1) = some (.str p) := rfl
  have w2 : idxD (.list ([k, p, a, g].map D.str)) (.int 2) = some (.str a) := rfl
  have w3 : idxD (.list ([k, p, a, g].map D.str)) (.int 3) = some (.str g) := rfl
  have ln : lenD [.list ([k, p, a, g].map D.str)] = some (.int 4) := rfl
  have dl : dispL [] = some (.list []) := rfl
  generalize pn.d = PD at i0 i1 i2 ⊢
  generalize D.list ([k, p, a, g].map D.str) = WL at hs ie w0 w1 w2 w3 ln
  generalize D.tup (pn.tags.map D.str) = TT at tg i2
  obtain ⟨A, hA⟩ : ∃ A, A = amD (amtOf a) := ⟨_, rfl⟩
  rw [← hA] at am
  -- the four tests
  have t1 : ∀ xs, eNot (eCall d_is_name (aCons (e2 idxD (eVar 2) (eC (.int 0))) aNil)) [some PD, some (.str t), some WL, some (.list xs), some A] st = .ok (.bool (!isNameB k)) st := fun xs => by simp [w0, n1]
  have t2 : ∀ xs, eAnd (e2 neD (e2 idxD (eVar 2) (eC (.int 1))) (eC (.str [45]))) (eNot (eCall d_is_name (aCons (e2 idxD (eVar 2) (eC (.int 1))) aNil))) [some PD, some (.str t), some WL, some (.list xs), some A] st = .ok (.bool (decide (p ≠ [45]) && !isNameB p)) st := fun xs => by
    by_cases h : p = [45]
    · rw [decide_eq_false (by simpa using h)] at n3 ⊢
      simp [w1, n3]
    · rw [decide_eq_true h] at n3 ⊢
      simp [w1, n3, n2]
  have t3 : ∀ xs, eOr (e2 isN2 (eVar 4) (eC .non)) (eNot (eChain leD leD (e2 idxD (eVar 0) (eC (.int 0))) (eVar 4) (e2 idxD (eVar 0) (eC (.int 1))))) [some PD, some (.str t), some WL, some (.list xs), some A] st = .ok (.bool (!amtOk pn a)) st := fun xs => by
    unfold amtOk
    cases ea : amtOf a with
    | none => rw [ea] at hA; subst hA; simp [amD, isN2, isNonD]
    | some n =>
      rw [ea] at hA; subst hA
      by_cases h1 : pn.lo ≤ n
      · simp [amD, isN2, isNonD, i0, i1, leD, h1]
      · simp [amD, isN2, isNonD, i0, i1, leD, h1]
  have t4 : ∀ xs, e2 ninD (e2 idxD (eVar 2) (eC (.int 3))) (e2 idxD (eVar 0) (eC (.int 2))) [some PD, some (.str t), some WL, some (.list xs), some A] st = .ok (.bool (decide (g ∉ pn.tags))) st := fun xs => by simp [w3, i2, tg]
  have u1 := app_if (w := wKey) (t1 []) (by simp)
  have u2 := app_if (w := wPar) (t2 ((if (!isNameB k) then [wKey] else []).map D.str)) (by simp; split <;> simp)
  have u3 := app_if (w := wAmt) (t3 ((if (!isNameB k) then [wKey] else []).map D.str ++ (if (decide (p ≠ [45]) && !isNameB p) then [wPar] else []).map D.str)) (by simp; split <;> split <;> simp)
  have u4 := app_if (w := wTag) (t4 ((if (!isNameB k) then [wKey] else []).map D.str ++ (if (decide (p ≠ [45]) && !isNameB p) then [wPar] else []).map D.str ++ (if (!amtOk pn a) then [wAmt] else []).map D.str)) (by simp; split <;> split <;> split <;> simp)
  rw [List.nil_append] at u1
  generalize h1 : (if (!isNameB k) then [wKey] else []).map D.str = x1 at u1 u2 u3 u4
  generalize h2 : x1 ++ (if (decide (p ≠ [45]) && !isNameB p) then [wPar] else []).map D.str = x2 at u2 u3 u4
  generalize h3 : x2 ++ (if (!amtOk pn a) then [wAmt] else []).map D.str = x3 at u3 u4
  generalize h4 : x3 ++ (if decide (g ∉ pn.tags) then [wTag] else []).map D.str = x4 at u4
  have fin : D.tup x4 = tD (fau4 pn k p a g) := by
    rw [← h4, ← h3, ← h2, ← h1]
    unfold tD fau4
    rw [List.map_append, List.map_append, List.map_append]
    congr 3
    · congr 2
      · cases isNameB k <;> rfl
      · by_cases h : p = [45] <;> cases hn : isNameB p <;> simp [h]
    · cases amtOk pn a <;> rfl
    · by_cases h : g ∈ pn.tags <;> simp [h]
  rw [← fin]
  clear h1 h2 h3 h4 fin
  unfold m_faults
  unfold wKey at u1
  unfold wPar at u2
  unfold wAmt at u3
  unfold wTag at u4
  generalize sIf (eNot (eCall d_is_name (aCons (e2 idxD (eVar 2) (eC (.int 0))) aNil))) (sUpd 3 isListD appendD (aCons (eC (.str [107, 101, 121])) aNil)) sSkip = S1 at u1 ⊢
  generalize sIf (eAnd (e2 neD (e2 idxD (eVar 2) (eC (.int 1))) (eC (.str [45]))) (eNot (eCall d_is_name (aCons (e2 idxD (eVar 2) (eC (.int 1))) aNil)))) (sUpd 3 isListD appendD (aCons (eC (.str [112, 97, 114, 101, 110, 116])) aNil)) sSkip = S2 at u2 ⊢
  generalize sIf (eOr (e2 isN2 (eVar 4) (eC .non)) (eNot (eChain leD leD (e2 idxD (eVar 0) (eC (.int 0))) (eVar 4) (e2 idxD (eVar 0) (eC (.int 1)))))) (sUpd 3 isListD appendD (aCons (eC (.str [97, 109, 111, 117, 110, 116])) aNil)) sSkip = S3 at u3 ⊢
  generalize sIf (e2 ninD (e2 idxD (eVar 2) (eC (.int 3))) (e2 idxD (eVar 0) (eC (.int 2)))) (sUpd 3 isListD appendD (aCons (eC (.str [116, 97, 103])) aNil)) sSkip = S4 at u4 ⊢
  simp [isStrD, hs, ln, n4, ie, dl, w2, am, u1, u2, u3, u4, tupleD]
theorem faults_eq (pn : Pn) (t : Tx) (ht : t.length + 2 ≤ 16777216) (st : Sto) : d_faults [pn.d, .str t] st = .ok (tD (faus pn t)) st := by
  have hs := split_ok ht
  show (match m_faults [some pn.d, some (.str t), none, none, none] st with | .nx _ st1 => (R.ok D.non st1 : R D) | .rt d st1 => R.ok d st1 | .exc c st1 => R.exc c st1 | .bad => R.bad) = _
  unfold faus
  have cnt : (splitC 32 t).length ≠ 4 ∨ [] ∈ splitC 32 t → m_faults [some pn.d, some (.str t), none, none, none] st = .rt (tD [wCount]) st := fun h => by
    have ie := in_strs [] (splitC 32 t)
    have ln : lenD [.list ((splitC 32 t).map D.str)] = some (.int (splitC 32 t).length) := by simp [lenD]
    have n4 := ne_int (splitC 32 t).length 4
    generalize pn.d = PD
    generalize D.list ((splitC 32 t).map D.str) = WL at hs ie ln
    unfold m_faults
    by_cases hl : (splitC 32 t).length = 4
    · have hm : [] ∈ splitC 32 t := h.resolve_left (fun z => z hl)
      rw [decide_eq_false (by simp [hl])] at n4
      rw [decide_eq_true hm] at ie
      simp [isStrD, hs, ln, n4, ie, dispT, tD, wCount]
    · rw [decide_eq_true (by omega)] at n4
      simp [isStrD, hs, ln, n4, dispT, tD, wCount]
  by_cases hl : (splitC 32 t).length = 4
  · obtain ⟨k, p, a, g, e⟩ := four hl
    rw [e] at hs cnt ⊢
    by_cases hm : [] ∈ [k, p, a, g]
    · rw [cnt (.inr hm)]
      simp only []
      rw [if_pos hm]
    · rw [faults_tail pn k p a g t st hm hs]
      simp only []
      rw [if_neg hm]
  · rw [cnt (.inl hl)]
    simp only []
    split
    · rename_i e
      rw [e] at hl
      exact absurd rfl hl
    · rfl
end Dn

/-! PuJ3: row_of, written_key, good_rows (pure). -/
namespace Dn
structure Rw where
  key : Tx
  par : Option Tx
  amt : Int
  tag : Tx
  deriving DecidableEq
def Rw.d (r : Rw) : D := rowD r.key r.par r.amt r.tag
def Rw.k4 (r : Rw) : R4 := (r.key, r.par.getD [], r.amt, r.tag)
/-- the row of a text without faults -/
def rowT (t : Tx) : Rw := match splitC 32 t with
  | [k, p, a, g] => ⟨k, if p = [45] then none else some p, (amtOf a).getD 0, g⟩
  | _ => ⟨[], none, 0, []⟩
def TxOk (t : Tx) : Prop := t.length + 2 ≤ 16777216
structure Good (pn : Pn) (t : Tx) : Prop where
  ex : ∃ k p a g n, splitC 32 t = [k, p, a, g] ∧ isNameB k = true ∧ (p = [45] ∨ isNameB p = true) ∧ amtOf a = some n ∧ pn.lo ≤ n ∧ n ≤ pn.hi ∧ g ∈ pn.tags ∧ [] ∉ [k, p, a, g]
theorem good_iff {pn : Pn} {t : Tx} : faus pn t = [] ↔ Good pn t := by
  constructor
  · intro h
    unfold faus at h
    split at h
    · rename_i k p a g e
      split at h
      · cases h
      · rename_i c0
        unfold fau4 at h
        simp only [List.append_eq_nil_iff] at h
        obtain ⟨⟨⟨h1, h2⟩, h3⟩, h4⟩ := h
        have g1 : isNameB k = true := by
          cases e1 : isNameB k with
          | true => rfl
          | false => rw [e1] at h1; cases h1
        have g2 : p = [45] ∨ isNameB p = true := by
          by_cases e2 : p = [45] ∨ isNameB p = true
          · exact e2
          · rw [if_neg e2] at h2; cases h2
        have g3 : amtOk pn a = true := by
          cases e3 : amtOk pn a with
          | true => rfl
          | false => rw [e3] at h3; cases h3
        have g4 : g ∈ pn.tags := by
          by_cases e4 : g ∈ pn.tags
          · exact e4
          · rw [if_neg e4] at h4; cases h4
        unfold amtOk at g3
        cases ea : amtOf a with
        | none => rw [ea] at g3; cases g3
        | some n =>
          rw [ea] at g3
          simp only [Bool.and_eq_true, decide_eq_true_eq] at g3
          exact ⟨k, p, a, g, n, e, g1, g2, ea, g3.1, g3.2, g4, c0⟩
    · cases h
  · rintro ⟨k, p, a, g, n, e, h1, h2, h3, h4, h5, h6, h7⟩
    unfold faus
    rw [e]
    simp only []
    rw [if_neg h7]
    unfold fau4 amtOk
    simp [h1, h2, h3, h4, h5, h6]
/-- the parts of a good text's row -/
theorem Good.row {pn : Pn} {t : Tx} (h : Good pn t) : ∃ k p a g n, splitC 32 t = [k, p, a, g] ∧ rowT t = ⟨k, if p = [45] then none else some p, n, g⟩ ∧ isNameB k = true ∧ (p = [45] ∨ isNameB p = true) ∧ amtOf a = some n ∧ pn.lo ≤ n ∧ n ≤ pn.hi ∧ g ∈ pn.tags := by
  obtain ⟨k, p, a, g, n, e, h1, h2, h3, h4, h5, h6, h7⟩ := h
  exact ⟨k, p, a, g, n, e, by unfold rowT; rw [e]; simp [h3], h1, h2, h3, h4, h5, h6⟩
theorem amt_int {a : Tx} {n : Int} (h : amtOf a = some n) : intD [.str a] = some (.int n) := by
  unfold amtOf at h
  split at h
  · rename_i c
    cases h
    exact int_small c.1 c.2.1 c.2.2.1
  · cases h
theorem len_tD (l : List Tx) : lenD [tD l] = some (.int l.length) := by simp [lenD, tD]
theorem row_of_ok {pn : Pn} {t : Tx} (ht : TxOk t) (h : faus pn t = []) (st : Sto) : d_row_of [pn.d, .str t] st = .ok (rowT t).d st := by
  obtain ⟨k, p, a, g, n, e, er, h1, h2, h3, h4, h5, h6⟩ := (good_iff.mp h).row
  have hs := split_ok ht
  rw [e] at hs
  have fe := faults_eq pn t ht st
  rw [h] at fe
  have ln := len_tD []
  have iv := amt_int h3
  have q := eq_str p [45]
  rw [er]
  show (match m_row_of [some pn.d, some (.str t), none, none, none, none] st with | .nx _ st1 => (R.ok D.non st1 : R D) | .rt d st1 => R.ok d st1 | .exc c st1 => R.exc c st1 | .bad => R.bad) = _
  generalize pn.d = PD at fe ⊢
  generalize tD [] = T0 at fe ln
  simp only [List.map_cons, List.map_nil] at hs
  unfold m_row_of
  by_cases hp : p = [45]
  · subst hp
    rw [decide_eq_true rfl] at q
    simp [fe, ln, gtD, isStrD, hs, q, dispT, iv, Rw.d, rowD]
  · rw [decide_eq_false hp] at q
    simp [fe, ln, gtD, isStrD, hs, q, dispT, iv, Rw.d, rowD, hp]
theorem row_of_bad {pn : Pn} {t : Tx} (ht : TxOk t) (h : faus pn t ≠ []) (st : Sto) : d_row_of [pn.d, .str t] st = .exc 1 st := by
  have fe := faults_eq pn t ht st
  have ln := len_tD (faus pn t)
  have hl : (0 : Int) < ((faus pn t).length : Nat) := by
    cases e : faus pn t with
    | nil => exact absurd e h
    | cons a b => simp
  show (match m_row_of [some pn.d, some (.str t), none, none, none, none] st with | .nx _ st1 => (R.ok D.non st1 : R D) | .rt d st1 => R.ok d st1 | .exc c st1 => R.exc c st1 | .bad => R.bad) = _
  generalize pn.d = PD at fe ⊢
  generalize tD (faus pn t) = T0 at fe ln
  have gt : gtD (.int ((faus pn t).length : Nat)) (.int 0) = some (.bool true) := by simp only [gtD]; rw [decide_eq_true hl]
  unfold m_row_of
  simp [fe, ln, gt]
theorem written_key_ok (r : Rw) (st : Sto) : d_written_key [r.d] st = .ok (tup4 r.k4) st := by
  obtain ⟨k, p, a, g⟩ := r
  cases p with
  | none => simp [d_written_key, runDef, env0, m_written_key, Rw.d, rowD, isN2, isNonD, dispT, tup4, Rw.k4]
  | some q => simp [d_written_key, runDef, env0, m_written_key, Rw.d, rowD, isN2, isNonD, tup4, Rw.k4]
/-- the rows of the texts without faults alone -/
def goods (pn : Pn) (heap : List Tx) : List R4 := heap.filterMap fun t => if faus pn t = [] then some (rowT t).k4 else none
theorem mem_goods {pn : Pn} {heap : List Tx} {r : R4} : r ∈ goods pn heap ↔ ∃ t ∈ heap, faus pn t = [] ∧ (rowT t).k4 = r := by
  unfold goods
  rw [List.mem_filterMap]
  constructor
  · rintro ⟨t, ht, e⟩
    split at e
    · cases e; exact ⟨t, ht, by assumption, rfl⟩
    · cases e
  · rintro ⟨t, ht, h, rfl⟩
    exact ⟨t, ht, by rw [if_pos h]⟩
theorem goods_len (pn : Pn) (heap : List Tx) : (goods pn heap).length ≤ heap.length := List.length_filterMap_le _ _
structure HpOk (heap : List Tx) : Prop where
  len : heap.length < 62
  tx : ∀ t ∈ heap, TxOk t
def hD (heap : List Tx) : D := .tup (heap.map D.str)
theorem rows4_map (rs : List R4) : rows4 (rs.map tup4) = some rs := by
  induction rs with
  | nil => rfl
  | cons r rs ih => obtain ⟨a, b, c, d⟩ := r; simp only [List.map_cons, tup4, rows4]; rw [show List.map tup4 rs = rs.map tup4 from rfl, ih]; rfl
theorem len0 {l : List Tx} : eqD (.int l.length) (.int 0) = some (.bool (decide (l = []))) := by
  rw [eq_int]
  congr 2
  exact decide_eq_decide.mpr (by cases l <;> simp; omega)
theorem good_rows_ok {pn : Pn} {heap : List Tx} (hh : HpOk heap) (st : Sto) : d_good_rows [pn.d, hD heap] st = .ok (.list ((nubG lt4 (goods pn heap)).map tup4)) st := by
  have c1 : q_good_rows_1 [some pn.d, some (hD heap), none] st = .ok (.list ((goods pn heap).map tup4)) st := by
    unfold q_good_rows_1
    rw [comp_ok (f := fun d => match d with | .str t => if faus pn t = [] then some (tup4 (rowT t).k4) else none | _ => none) (ds := heap.map D.str) (by simp [hD, itemsOf]) (fun d hd => ?_)]
    · congr 2
      unfold goods
      rw [List.map_filterMap, List.filterMap_map]
      congr 1
      funext t
      simp only [Function.comp]
      split <;> rfl
    · obtain ⟨t, ht, rfl⟩ := List.mem_map.mp hd
      have tx := hh.tx t ht
      have fe := faults_eq pn t tx st
      have ln := len_tD (faus pn t)
      have l0 := len0 (l := faus pn t)
      refine ⟨[some pn.d, some (hD heap), some (.str t)], rfl, ?_⟩
      generalize hT : tD (faus pn t) = T0 at fe ln
      by_cases h : faus pn t = []
      · left
        have ro := row_of_ok tx h st
        have wk := written_key_ok (rowT t) st
        rw [decide_eq_true h] at l0
        refine ⟨tup4 (rowT t).k4, ?_, ?_, ?_⟩
        · simp [fe, ln, l0]
        · simp [ro, wk]
        · simp [h]
      · right
        rw [decide_eq_false h] at l0
        refine ⟨?_, ?_⟩
        · simp [fe, ln, l0]
        · simp [h]
  have s4 : sortSet4D [.list ((goods pn heap).map tup4)] = some (.list ((nubG lt4 (goods pn heap)).map tup4)) := by
    simp only [sortSet4D, rows4_map, Option.bind_some]
    rw [if_pos (Nat.lt_of_le_of_lt (goods_len pn heap) hh.len)]
  show (match m_good_rows [some pn.d, some (hD heap), none] st with | .nx _ st1 => (R.ok D.non st1 : R D) | .rt d st1 => R.ok d st1 | .exc c st1 => R.exc c st1 | .bad => R.bad) = _
  unfold m_good_rows
  generalize D.list ((goods pn heap).map tup4) = GL at c1 s4
  simp [c1, s4]
end Dn

/-! PuJ4: the way up (pure): rooted, in a ring, or lost. -/
namespace Dn
section
variable (g : Tx → Option Tx)
/-- the next key up -/
def nxt (k : Tx) : Option Tx := match g k with
  | some p => if p = [] then none else some p
  | none => none
/-- the n-th key up -/
def ups (k : Tx) : Nat → Option Tx
  | 0 => some k
  | n + 1 => (ups k n).bind (nxt g)
def Rooted (k : Tx) : Prop := ∃ n x, ups g k n = some x ∧ g x = some []
def Ring (k : Tx) : Prop := ∃ n, 1 ≤ n ∧ ups g k n = some k
open Classical in
noncomputable def verd (k : Tx) : List Tx := if Rooted g k then [] else if Ring g k then [wRing] else [wLost]
variable {g}
theorem nxt_some {k p : Tx} : nxt g k = some p ↔ g k = some p ∧ p ≠ [] := by
  unfold nxt
  cases e : g k with
  | none => simp
  | some q =>
    simp only []
    by_cases h : q = []
    · rw [if_pos h]; simp; intro z; rw [← z]; exact h
    · rw [if_neg h]; simp; rintro rfl; exact h
theorem nxt_none {k : Tx} : nxt g k = none ↔ g k = none ∨ g k = some [] := by
  unfold nxt
  cases e : g k with
  | none => simp
  | some q =>
    simp only []
    by_cases h : q = []
    · rw [if_pos h]; simp [h]
    · rw [if_neg h]; simp [h]
theorem ups_add (k x : Tx) (n m : Nat) (h : ups g k n = some x) : ups g k (n + m) = ups g x m := by
  induction m with
  | zero => exact h
  | succ m ih => show (ups g k (n + m)).bind _ = (ups g x m).bind _; rw [ih]
theorem ups_none {k : Tx} {n m : Nat} (h : ups g k n = none) (hm : n ≤ m) : ups g k m = none := by
  induction m with
  | zero => have : n = 0 := by omega
            rw [this] at h; exact h
  | succ m ih =>
    by_cases e : n = m + 1
    · rw [← e]; exact h
    · show (ups g k m).bind _ = none
      rw [ih (by omega)]; rfl
/-- xs: the keys from k up -/
structure Chn (g : Tx → Option Tx) (k : Tx) (xs : List Tx) : Prop where
  ne : xs ≠ []
  at_ : ∀ i, i < xs.length → ups g k i = xs[i]?
  nd : xs.dropLast.Nodup
theorem Chn.step {k : Tx} {xs : List Tx} (c : Chn g k xs) {i : Nat} (h : i + 1 < xs.length) : nxt g xs[i] = some xs[i + 1] := by
  have h1 := c.at_ (i + 1) h
  have h0 := c.at_ i (by omega)
  rw [List.getElem?_eq_getElem (by omega)] at h0
  rw [List.getElem?_eq_getElem h] at h1
  have : ups g k (i + 1) = (ups g k i).bind (nxt g) := rfl
  rw [this, h0] at h1
  exact h1
theorem count_last {xs : List Tx} (h : xs ≠ []) : xs.count (xs.getLast h) = xs.dropLast.count (xs.getLast h) + 1 := by
  have e := congrArg (List.count (xs.getLast h)) (List.dropLast_concat_getLast h)
  rw [List.count_append] at e
  rw [← e]
  simp
theorem nd_inj {xs : List Tx} (n : xs.Nodup) {i j : Nat} (hi : i < xs.length) (hj : j < xs.length) (z : xs[i] = xs[j]) : i = j := by
  have p := List.pairwise_iff_getElem.mp n
  rcases Nat.lt_trichotomy i j with h | h | h
  · exact absurd z (p i j hi hj h)
  · exact h
  · exact absurd z.symm (p j i hj hi h)
theorem last_get {α : Type} {xs : List α} (h : xs ≠ []) : xs[xs.length - 1]? = some (xs.getLast h) := by
  rw [List.getLast_eq_getElem, List.getElem?_eq_getElem]
theorem Chn.last {k : Tx} {xs : List Tx} (c : Chn g k xs) : ups g k (xs.length - 1) = some (xs.getLast c.ne) := by
  have : 0 < xs.length := List.length_pos_iff.mpr c.ne
  rw [c.at_ _ (by omega), last_get c.ne]
theorem Chn.one {k : Tx} : Chn g k [k] where
  ne := by simp
  at_ := fun i hi => by
    have : i = 0 := by simpa using hi
    subst this; rfl
  nd := by simp
theorem Chn.push {k p : Tx} {xs : List Tx} (c : Chn g k xs) (h1 : nxt g (xs.getLast c.ne) = some p) (h2 : xs.count (xs.getLast c.ne) = 1) : Chn g k (xs ++ [p]) := by
  have hp : 0 < xs.length := List.length_pos_iff.mpr c.ne
  refine ⟨by simp, fun i hi => ?_, ?_⟩
  · rw [List.length_append, List.length_singleton] at hi
    by_cases e : i < xs.length
    · rw [List.getElem?_append_left e]; exact c.at_ i e
    · have e : i = xs.length := by omega
      subst e
      rw [List.getElem?_append_right (Nat.le_refl _), Nat.sub_self]
      have : xs.length = (xs.length - 1) + 1 := by omega
      rw [this]
      show (ups g k (xs.length - 1)).bind (nxt g) = _
      rw [c.last]
      exact h1
  · rw [List.dropLast_concat]
    have e := List.dropLast_concat_getLast c.ne
    rw [← e]
    refine List.nodup_append.mpr ?_
    refine ⟨c.nd, by simp, fun a ha b hb z => ?_⟩
    rw [List.mem_singleton.mp hb] at z
    subst z
    have h3 := List.count_pos_iff.mpr ha
    rw [count_last c.ne] at h2
    omega
/-- where the chain ends, the verdict is told -/
theorem Chn.verd {k : Tx} {xs : List Tx} (c : Chn g k xs) (stop : nxt g (xs.getLast c.ne) = none ∨ xs.count (xs.getLast c.ne) ≠ 1) :
    verd g k = if xs.count (xs.getLast c.ne) > 1 then (if xs.getLast c.ne = k then [wRing] else [wLost]) else if g (xs.getLast c.ne) = none then [wLost] else [] := by
  have hp : 0 < xs.length := List.length_pos_iff.mpr c.ne
  have hc : 0 < xs.count (xs.getLast c.ne) := List.count_pos_iff.mpr (List.getLast_mem c.ne)
  have x0 : xs[0] = k := by
    have h := c.at_ 0 hp
    rw [List.getElem?_eq_getElem hp] at h
    exact (Option.some.inj h).symm
  have hl := c.last
  have e := List.dropLast_concat_getLast c.ne
  -- a place ahead of the last one has a next
  have midN : ∀ i (h : i < xs.length), i < xs.length - 1 → ∃ p, g xs[i] = some p ∧ p ≠ [] := fun i h hi => ⟨_, nxt_some.mp (c.step (i := i) (by omega))⟩
  have dl : ∀ i (h : i < xs.length) (h2 : i < xs.length - 1), xs[i] ∈ xs.dropLast := fun i h h2 => by
    have : xs.dropLast[i]'(by simpa using h2) = xs[i] := by simp
    rw [← this]; exact List.getElem_mem _
  have dinj : ∀ i j (hi : i < xs.length) (hj : j < xs.length), i < xs.length - 1 → j < xs.length - 1 → xs[i] = xs[j] → i = j := fun i j hi hj h1 h2 z => by
    exact nd_inj c.nd (by simpa using h1) (by simpa using h2) (by simpa using z)
  unfold Dn.verd
  by_cases h1 : xs.count (xs.getLast c.ne) > 1
  · rw [if_pos h1]
    -- the last one stood before
    have hm : xs.getLast c.ne ∈ xs.dropLast := by
      rw [count_last c.ne] at h1
      exact List.count_pos_iff.mp (by omega)
    obtain ⟨i, hi, ei⟩ := List.getElem_of_mem hm
    have hi' : i < xs.length - 1 := by simpa using hi
    have ei : xs[i] = xs.getLast c.ne := by rw [← ei]; simp
    -- all keys up are among the first ones
    have all : ∀ n, ∃ j, ∃ h : j < xs.length, j < xs.length - 1 ∧ ups g k n = some xs[j] ∧ (n < xs.length - 1 → j = n) ∧ (xs.length - 1 ≤ n → i ≤ j) := by
      intro n
      induction n with
      | zero =>
        refine ⟨0, hp, by omega, by rw [x0]; rfl, fun _ => rfl, fun h => by omega⟩
      | succ n ih =>
        obtain ⟨j, hj, h2, h3, h4, h5⟩ := ih
        have st := c.step (i := j) (by omega)
        have e3 : ups g k (n + 1) = some xs[j + 1] := by
          show (ups g k n).bind (nxt g) = _
          rw [h3]; exact st
        by_cases hj2 : j + 1 < xs.length - 1
        · refine ⟨j + 1, by omega, hj2, e3, fun h => by rw [h4 (by omega)], fun h => ?_⟩
          by_cases h6 : xs.length - 1 ≤ n
          · have := h5 h6; omega
          · have := h4 (by omega); omega
        · have e4 : xs[j + 1] = xs[i] := by
            rw [ei, List.getLast_eq_getElem]
            congr 1
            omega
          refine ⟨i, by omega, hi', by rw [e3, e4], fun h => ?_, fun _ => Nat.le_refl _⟩
          have := h4 (by omega)
          omega
    have nr : ¬ Rooted g k := fun ⟨n, x, h2, h3⟩ => by
      obtain ⟨j, hj, h4, h5, _⟩ := all n
      rw [h5] at h2
      cases h2
      obtain ⟨p, h6, h7⟩ := midN j hj h4
      rw [h6] at h3
      cases h3
      exact h7 rfl
    rw [if_neg nr]
    by_cases hk : xs.getLast c.ne = k
    · rw [if_pos hk, if_pos ⟨xs.length - 1, by omega, by rw [hl, hk]⟩]
    · rw [if_neg hk, if_neg]
      rintro ⟨n, hn, h2⟩
      obtain ⟨j, hj, h4, h5, h6, h7⟩ := all n
      rw [h5] at h2
      have e0 : xs[j] = xs[0] := by rw [x0]; exact Option.some.inj h2
      have ej := dinj j 0 hj hp h4 (by omega) e0
      by_cases h8 : n < xs.length - 1
      · have := h6 h8; omega
      · have := h7 (by omega)
        have i0 : i = 0 := by omega
        subst i0
        exact hk (by rw [← ei, x0])
  · rw [if_neg h1]
    have hn : nxt g (xs.getLast c.ne) = none := stop.resolve_right (fun z => z (by omega))
    have end_ : ∀ n, xs.length ≤ n → ups g k n = none := fun n h => by
      refine ups_none (n := xs.length) ?_ h
      have : xs.length = (xs.length - 1) + 1 := by omega
      rw [this]
      show (ups g k (xs.length - 1)).bind (nxt g) = none
      rw [hl]; exact hn
    rcases nxt_none.mp hn with h2 | h2
    · rw [if_pos h2]
      have nr : ¬ Rooted g k := fun ⟨n, x, h3, h4⟩ => by
        by_cases h5 : n < xs.length - 1
        · rw [c.at_ n (by omega), List.getElem?_eq_getElem (by omega)] at h3
          cases h3
          obtain ⟨p, h6, h7⟩ := midN n (by omega) h5
          rw [h6] at h4; cases h4; exact h7 rfl
        · by_cases h6 : n = xs.length - 1
          · rw [h6, hl] at h3; cases h3
            rw [h2] at h4; cases h4
          · rw [end_ n (by omega)] at h3; cases h3
      have nc : ¬ Ring g k := fun ⟨n, h3, h4⟩ => by
        by_cases h5 : n < xs.length
        · rw [c.at_ n h5, List.getElem?_eq_getElem h5] at h4
          have e0 : xs[n] = xs[0] := by rw [x0]; exact Option.some.inj h4
          by_cases h6 : n < xs.length - 1
          · have := dinj n 0 h5 hp h6 (by omega) e0; omega
          · have h7 : n = xs.length - 1 := by omega
            have h8 : xs.getLast c.ne ∈ xs.dropLast := by
              rw [List.getLast_eq_getElem]
              have : xs[xs.length - 1] = xs[0] := by rw [← e0]; congr 1; omega
              rw [this]
              exact dl 0 hp (by omega)
            have h9 := List.count_pos_iff.mpr h8
            rw [count_last c.ne] at h1
            omega
        · rw [end_ n (by omega)] at h4; cases h4
      rw [if_neg nr, if_neg nc]
    · rw [if_pos (show Rooted g k from ⟨xs.length - 1, _, hl, h2⟩), if_neg (by rw [h2]; simp)]
end
end Dn

/-! PuJ5: way_up and together (pure). -/
namespace Dn
/-- a dict of texts -/
structure Par (g : Tx → Option Tx) (kvs : KV) : Prop where
  look : ∀ k, lookD kvs k = (g k).map D.str
  len : kvs.length < 62
theorem count_str (xs : List Tx) (y : Tx) : countD (.list (xs.map D.str)) [.str y] = some (.int (xs.count y : Nat)) := by
  have ok : okD DP (.list (xs.map D.str)) = true := (list_strs_pl xs).2 40 (by omega)
  simp only [countD]
  rw [if_pos (by rw [ok]; rfl)]
  congr 3
  induction xs with
  | nil => rfl
  | cons x xs ih =>
    have ih := ih ((list_strs_pl xs).2 40 (by omega))
    rw [List.map_cons, List.countP_cons, ih, List.count_cons]
    congr 1
theorem idx_last {xs : List Tx} (h : xs ≠ []) : idxD (.list (xs.map D.str)) (.int (-1)) = some (.str (xs.getLast h)) := by
  have hp : 0 < xs.length := List.length_pos_iff.mpr h
  have e : ixD (xs.map D.str).length (-1) = some (xs.length - 1) := by
    unfold ixD
    rw [List.length_map, if_neg (by omega), if_pos (by omega)]
    congr 1
    omega
  simp only [idxD, e, Option.bind_some]
  rw [List.getElem?_map, last_get h]; rfl
def wuC : ME := eAnd (e2 neD (eM isDictD getD3 (eVar 0) (aCons (e2 idxD (eVar 2) (e1 negD (eC (.int 1)))) (aCons (eC (.str [])) aNil))) (eC (.str []))) (e2 eqD (eM isListD countD (eVar 2) (aCons (e2 idxD (eVar 2) (e1 negD (eC (.int 1)))) aNil)) (eC (.int 1)))
def wuB : MS := sUpd 2 isListD appendD (aCons (e2 idxD (eVar 0) (e2 idxD (eVar 2) (e1 negD (eC (.int 1))))) aNil)
theorem m_way_up_eq : m_way_up = (sSeq (sAsg (gN 2) (eA dispL (aCons (eVar 1) aNil))) (sSeq (sWhile wuC wuB) (sRet (eVar 2)))) := rfl
section
variable {g : Tx → Option Tx} {kvs : KV} (P : Par g kvs) {k : Tx} {st : Sto}
include P
theorem wu_cond {xs : List Tx} (c : Chn g k xs) : wuC [some (.dict kvs), some (.str k), some (.list (xs.map D.str))] st = .ok (.bool ((nxt g (xs.getLast c.ne)).isSome && decide (xs.count (xs.getLast c.ne) = 1))) st := by
  have il := idx_last c.ne
  have ct := count_str xs (xs.getLast c.ne)
  have gd : getD3 (.dict kvs) [.str (xs.getLast c.ne), .str []] = some (.str ((g (xs.getLast c.ne)).getD [])) := by
    simp only [getD3, P.look]
    cases g (xs.getLast c.ne) <;> rfl
  have ng : negD (.int 1) = some (.int (-1)) := rfl
  have nq := ne_str ((g (xs.getLast c.ne)).getD []) []
  have e1 : decide ((g (xs.getLast c.ne)).getD [] ≠ []) = (nxt g (xs.getLast c.ne)).isSome := by
    unfold nxt
    cases e : g (xs.getLast c.ne) with
    | none => simp
    | some p => by_cases h : p = [] <;> simp [h]
  have eq : eqD (.int (xs.count (xs.getLast c.ne) : Nat)) (.int 1) = some (.bool (decide (xs.count (xs.getLast c.ne) = 1))) := by
    rw [eq_int]; congr 2; exact decide_eq_decide.mpr (by omega)
  rw [e1] at nq
  generalize D.list (xs.map D.str) = XL at il ct ⊢
  have hX : isListD XL = true := by
    cases XL <;> first | rfl | cases ct
  unfold wuC
  generalize (nxt g (xs.getLast c.ne)).isSome = b at nq ⊢
  cases b with
  | false => simp [isDictD, il, ng, gd, nq]
  | true => simp [isDictD, il, ng, gd, nq, hX, ct, eq]
theorem wu_body {xs : List Tx} (c : Chn g k xs) {p : Tx} (h : nxt g (xs.getLast c.ne) = some p) (hl : xs.length < 100) : wuB [some (.dict kvs), some (.str k), some (.list (xs.map D.str))] st = .nx [some (.dict kvs), some (.str k), some (.list ((xs ++ [p]).map D.str))] st := by
  have il := idx_last c.ne
  have ng : negD (.int 1) = some (.int (-1)) := rfl
  have lk : idxD (.dict kvs) (.str (xs.getLast c.ne)) = some (.str p) := by
    simp only [idxD, P.look]
    rw [(nxt_some.mp h).1]; rfl
  have ap : appendD (.list (xs.map D.str)) [.str p] = some (.list ((xs ++ [p]).map D.str)) := by
    simp only [appendD]
    rw [if_pos (by rw [List.length_map, sz_eq]; omega)]
    simp
  have hX : isListD (.list (xs.map D.str)) = true := rfl
  generalize D.list ((xs ++ [p]).map D.str) = YL at ap ⊢
  generalize D.list (xs.map D.str) = XL at il ap hX ⊢
  unfold wuB
  simp [il, ng, lk, hX, ap]
theorem chn_len {xs : List Tx} (c : Chn g k xs) : xs.length ≤ kvs.length + 1 := by
  have hp : 0 < xs.length := List.length_pos_iff.mpr c.ne
  have sub : ∀ x ∈ xs.dropLast, x ∈ kvs.map (·.1) := fun x hx => by
    obtain ⟨i, hi, e⟩ := List.getElem_of_mem hx
    have hi' : i < xs.length - 1 := by simpa using hi
    have st := nxt_some.mp (c.step (i := i) (by omega))
    have : xs[i] = x := by rw [← e]; simp
    rw [this] at st
    have lk := P.look x
    rw [st.1] at lk
    exact Decidable.by_contra fun z => by rw [lookD_none.mpr z] at lk; cases lk
  have := List.Nodup.length_le_of_subset c.nd sub
  rw [List.length_map, List.length_dropLast] at this
  omega
theorem wu_loop (n : Nat) : ∀ (xs : List Tx), Chn g k xs → kvs.length + 2 ≤ n + xs.length → ∃ ys, ∃ c : Chn g k ys, whileN wuC wuB n [some (.dict kvs), some (.str k), some (.list (xs.map D.str))] st = .nx [some (.dict kvs), some (.str k), some (.list (ys.map D.str))] st ∧ (nxt g (ys.getLast c.ne) = none ∨ ys.count (ys.getLast c.ne) ≠ 1) := by
  have pl := P.len
  induction n with
  | zero => intro xs c h; have := chn_len P c; omega
  | succ n ih =>
    intro xs c h
    have cl := chn_len P c
    unfold whileN
    rw [wu_cond P c]
    by_cases hs : ((nxt g (xs.getLast c.ne)).isSome && decide (xs.count (xs.getLast c.ne) = 1)) = true
    · rw [hs]
      obtain ⟨h1, h2⟩ := Bool.and_eq_true_iff.mp hs
      obtain ⟨p, hp⟩ := Option.isSome_iff_exists.mp h1
      simp only []
      rw [wu_body P c hp (by omega)]
      exact ih (xs ++ [p]) (c.push hp (of_decide_eq_true h2)) (by rw [List.length_append, List.length_singleton]; omega)
    · have hs' : ((nxt g (xs.getLast c.ne)).isSome && decide (xs.count (xs.getLast c.ne) = 1)) = false := by simpa using hs
      rw [hs']
      refine ⟨xs, c, rfl, ?_⟩
      by_cases h1 : nxt g (xs.getLast c.ne) = none
      · exact .inl h1
      · refine .inr fun z => hs ?_
        rw [Bool.and_eq_true_iff]
        exact ⟨by cases e : nxt g (xs.getLast c.ne) with | none => exact absurd e h1 | some _ => rfl, decide_eq_true z⟩
theorem way_up_ok : ∃ ys, ∃ c : Chn g k ys, d_way_up [.dict kvs, .str k] st = .ok (.list (ys.map D.str)) st ∧ (nxt g (ys.getLast c.ne) = none ∨ ys.count (ys.getLast c.ne) ≠ 1) := by
  have pl := P.len
  obtain ⟨ys, c, e, h⟩ := wu_loop P (k := k) (st := st) 100000 [k] Chn.one (by simp; omega)
  refine ⟨ys, c, ?_, h⟩
  show (match m_way_up [some (.dict kvs), some (.str k), none] st with | .nx _ st1 => (R.ok D.non st1 : R D) | .rt d st1 => R.ok d st1 | .exc c st1 => R.exc c st1 | .bad => R.bad) = _
  rw [m_way_up_eq]
  have e : sWhile wuC wuB [some (.dict kvs), some (.str k), some (.list [.str k])] st = .nx [some (.dict kvs), some (.str k), some (.list (ys.map D.str))] st := e
  generalize sWhile wuC wuB = SW at e
  generalize D.list (ys.map D.str) = YL at e
  simp [dispL, e]
theorem together_ok : d_together [.dict kvs, .str k] st = .ok (tD (verd g k)) st := by
  obtain ⟨ys, c, e, stop⟩ := way_up_ok P (k := k) (st := st)
  have hv := c.verd stop
  have il := idx_last c.ne
  have ct := count_str ys (ys.getLast c.ne)
  have ng : negD (.int 1) = some (.int (-1)) := rfl
  have gt : gtD (.int (ys.count (ys.getLast c.ne) : Nat)) (.int 1) = some (.bool (decide (ys.count (ys.getLast c.ne) > 1))) := by
    simp only [gtD]; congr 2; exact decide_eq_decide.mpr (by omega)
  have q := eq_str (ys.getLast c.ne) k
  have nn : ninD (.str (ys.getLast c.ne)) (.dict kvs) = some (.bool (decide (g (ys.getLast c.ne) = none))) := by
    simp only [ninD, inD, P.look]
    cases g (ys.getLast c.ne) <;> rfl
  show (match m_together [some (.dict kvs), some (.str k), none] st with | .nx _ st1 => (R.ok D.non st1 : R D) | .rt d st1 => R.ok d st1 | .exc c st1 => R.exc c st1 | .bad => R.bad) = _
  have hX : isListD (.list (ys.map D.str)) = true := rfl
  rw [hv]
  generalize D.list (ys.map D.str) = YL at e il ct hX
  generalize ys.getLast c.ne = x at *
  unfold m_together
  by_cases h1 : ys.count x > 1
  · rw [decide_eq_true h1] at gt
    rw [if_pos h1]
    by_cases h2 : x = k
    · rw [decide_eq_true h2] at q
      rw [if_pos h2]
      simp [e, il, ng, hX, ct, gt, q, dispT, tD, wRing]
    · rw [decide_eq_false h2] at q
      rw [if_neg h2]
      simp [e, il, ng, hX, ct, gt, q, dispT, tD, wLost]
  · rw [decide_eq_false h1] at gt
    rw [if_neg h1]
    by_cases h2 : g x = none
    · rw [decide_eq_true h2] at nn
      rw [if_pos h2]
      simp [e, il, ng, hX, ct, gt, nn, dispT, tD, wLost]
    · rw [decide_eq_false h2] at nn
      rw [if_neg h2]
      simp [e, il, ng, hX, ct, gt, nn, dispT, tD]
end
end Dn

/-! PuJ6: judged (pure). -/
namespace Dn
/-- the only row of its key -/
structure Uq (G : List R4) (k : Tx) (r : R4) : Prop where
  mem : r ∈ G
  key : r.1 = k
  one : ∀ q ∈ G, q.1 = k → q = r
theorem Uq.uniq {G : List R4} {k : Tx} {r q : R4} (h : Uq G k r) (h' : Uq G k q) : q = r := h.one q h'.mem h'.key
open Classical in
/-- the parents by keys (an empty one for none) -/
noncomputable def par (G : List R4) (k : Tx) : Option Tx := if h : ∃ r, Uq G k r then some h.choose.2.1 else none
theorem par_some {G : List R4} {k p : Tx} : par G k = some p ↔ ∃ r, Uq G k r ∧ r.2.1 = p := by
  unfold par
  constructor
  · intro h
    split at h
    · rename_i e
      cases h
      exact ⟨_, e.choose_spec, rfl⟩
    · cases h
  · rintro ⟨r, h, rfl⟩
    have e : ∃ r, Uq G k r := ⟨r, h⟩
    rw [dif_pos e, h.uniq e.choose_spec]
theorem par_none {G : List R4} {k : Tx} : par G k = none ↔ ¬ ∃ r, Uq G k r := by
  unfold par
  constructor
  · intro h
    split at h
    · cases h
    · assumption
  · intro h
    rw [dif_neg h]
theorem uq_congr {G G' : List R4} (h : ∀ r, r ∈ G ↔ r ∈ G') {k : Tx} {r : R4} (u : Uq G k r) : Uq G' k r := ⟨(h r).mp u.mem, u.key, fun q hq => u.one q ((h q).mpr hq)⟩
theorem opt_ext {o o' : Option Tx} (h : ∀ p, o = some p ↔ o' = some p) : o = o' := by
  cases o with
  | some p => exact ((h p).mp rfl).symm
  | none => cases o' with
    | none => rfl
    | some p => exact absurd ((h p).mpr rfl) (by simp)
theorem par_congr {G G' : List R4} (h : ∀ r, r ∈ G ↔ r ∈ G') : par G = par G' := by
  funext k
  refine opt_ext fun p => ?_
  rw [par_some, par_some]
  exact ⟨fun ⟨r, u, e⟩ => ⟨r, uq_congr h u, e⟩, fun ⟨r, u, e⟩ => ⟨r, uq_congr (fun r => (h r).symm) u, e⟩⟩
/-- the verdict of a text among others -/
noncomputable def vd (pn : Pn) (heap : List Tx) (t : Tx) : List Tx := if faus pn t ≠ [] then faus pn t else if par (goods pn heap) (rowT t).key = none then [wTwice] else verd (par (goods pn heap)) (rowT t).key
theorem count_one {Rs : List R4} (nd : Rs.Nodup) {r : R4} (hr : r ∈ Rs) : (Rs.map (·.1)).count r.1 = 1 ↔ ∀ q ∈ Rs, q.1 = r.1 → q = r := by
  have e : (Rs.map (·.1)).count r.1 = (Rs.filter fun q => decide (q.1 = r.1)).length := by
    rw [List.count_eq_countP, List.countP_map, List.countP_eq_length_filter]
    congr 1
    refine List.filter_congr fun q _ => ?_
    rw [Bool.eq_iff_iff]; simp [Function.comp]
  rw [e]
  have nf : (Rs.filter fun q => decide (q.1 = r.1)).Nodup := nd.filter _
  have mr : r ∈ Rs.filter fun q => decide (q.1 = r.1) := List.mem_filter.mpr ⟨hr, by simp⟩
  constructor
  · intro h q hq hk
    obtain ⟨x, hx⟩ := List.length_eq_one_iff.mp h
    have mq : q ∈ Rs.filter fun q => decide (q.1 = r.1) := List.mem_filter.mpr ⟨hq, by simpa using hk⟩
    rw [hx] at mq mr
    rw [List.mem_singleton.mp mq, List.mem_singleton.mp mr]
  · intro h
    have : (Rs.filter fun q => decide (q.1 = r.1)) = [r] := by
      refine List.perm_singleton.mp ((List.perm_ext_iff_of_nodup nf (by simp)).mpr fun q => ?_)
      rw [List.mem_filter, List.mem_singleton]
      constructor
      · rintro ⟨h1, h2⟩; exact h q h1 (by simpa using h2)
      · rintro rfl; exact ⟨hr, by simp⟩
    rw [this]; rfl
/-- parents, as the dict has them -/
def parK (Rs : List R4) : KV := (Rs.filter fun r => decide ((Rs.map (·.1)).count r.1 = 1)).map fun r => (r.1, .str r.2.1)
theorem parK_nd (Rs : List R4) : ((parK Rs).map (·.1)).Nodup := by
  unfold parK
  rw [List.map_map]
  have e : ((·.1) ∘ fun r : R4 => ((r.1, D.str r.2.1) : Tx × D)) = fun r : R4 => r.1 := rfl
  rw [e, List.nodup_iff_count]
  intro k
  by_cases h : k ∈ (Rs.filter fun r => decide ((Rs.map (·.1)).count r.1 = 1)).map fun r => r.1
  · obtain ⟨r, hr, rfl⟩ := List.mem_map.mp h
    have h1 := of_decide_eq_true (List.mem_filter.mp hr).2
    have s : ((Rs.filter fun r => decide ((Rs.map (·.1)).count r.1 = 1)).map fun r => r.1).Sublist (Rs.map (·.1)) := (List.filter_sublist (l := Rs)).map _
    have := s.count_le r.1
    omega
  · rw [List.count_eq_zero_of_not_mem h]; omega
theorem parK_look {G : List R4} (k : Tx) : lookD (parK (nubG lt4 G)) k = (par G k).map D.str := by
  obtain ⟨_, nd, mem⟩ := nubG_ok ord4 G
  have key : ∀ p, lookD (parK (nubG lt4 G)) k = some (.str p) ↔ par G k = some p := fun p => by
    rw [lookD_iff (parK_nd _), par_some]
    unfold parK
    rw [List.mem_map]
    constructor
    · rintro ⟨r, hr, e⟩
      obtain ⟨h1, h2⟩ := List.mem_filter.mp hr
      cases e
      have u := (count_one nd h1).mp (of_decide_eq_true h2)
      exact ⟨r, ⟨(mem r).mp h1, rfl, fun q hq => u q ((mem q).mpr hq)⟩, rfl⟩
    · rintro ⟨r, u, rfl⟩
      have hr := (mem r).mpr u.mem
      refine ⟨r, List.mem_filter.mpr ⟨hr, decide_eq_true ((count_one nd hr).mpr fun q hq e => u.one q ((mem q).mp hq) (e.trans u.key))⟩, ?_⟩
      rw [u.key]
  cases e : par G k with
  | some p => exact (key p).mpr e
  | none =>
    cases e2 : lookD (parK (nubG lt4 G)) k with
    | none => rfl
    | some d =>
      have := lookD_mem e2
      unfold parK at this
      obtain ⟨r, _, er⟩ := List.mem_map.mp this
      cases er
      rw [(key _).mp e2] at e
      cases e
theorem nub4_len (l : List R4) : (nubG lt4 l).length ≤ l.length := by
  obtain ⟨_, nd, mem⟩ := nubG_ok ord4 l
  exact List.Nodup.length_le_of_subset nd fun x hx => (mem x).mp hx
theorem parK_len (Rs : List R4) : (parK Rs).length ≤ Rs.length := by
  unfold parK
  rw [List.length_map]
  exact List.length_filter_le _ _
theorem par_ok {pn : Pn} {heap : List Tx} (hh : HpOk heap) : Par (par (goods pn heap)) (parK (nubG lt4 (goods pn heap))) where
  look := parK_look
  len := by
    have h1 := parK_len (nubG lt4 (goods pn heap))
    have h2 := nub4_len (goods pn heap)
    have h3 := goods_len pn heap
    have h4 := hh.len
    omega
def pf (ks : List Tx) : D → Option D
  | .tup [.str k, p, _, _] => if ks.count k = 1 then some (.tup [.str k, p]) else none
  | _ => none
theorem judged_ok {pn : Pn} {heap : List Tx} (hh : HpOk heap) (st : Sto) : d_judged [pn.d, hD heap] st = .ok (.tup (heap.map fun t => tD (vd pn heap t))) st := by
  have gr := good_rows_ok (pn := pn) hh st
  have P := par_ok (pn := pn) hh
  have hl := hh.len
  generalize hRs : nubG lt4 (goods pn heap) = Rs at gr P
  have c1 : ∀ x, q_judged_1 [some pn.d, some (hD heap), some (.list (Rs.map tup4)), x, none, none, none, none, none, none] st = .ok (.list ((Rs.map (·.1)).map D.str)) st := fun x => by
    unfold q_judged_1
    rw [comp_map (f := keyD) (ds := Rs.map tup4) (by simp [itemsOf]) (fun d hd => ?_)]
    · rw [List.map_map, List.map_map]; rfl
    · obtain ⟨r, _, rfl⟩ := List.mem_map.mp hd
      exact ⟨_, rfl, rfl⟩
  have c2 : q_judged_2 [some pn.d, some (hD heap), some (.list (Rs.map tup4)), some (.list ((Rs.map (·.1)).map D.str)), none, none, none, none, none, none] st = .ok (.list ((parK Rs).map prD)) st := by
    unfold q_judged_2
    rw [comp_ok (f := pf (Rs.map (·.1))) (ds := Rs.map tup4) (by simp [itemsOf]) (fun d hd => ?_)]
    · congr 2
      unfold parK
      rw [List.filterMap_map, List.map_map]
      generalize (Rs.map (·.1)) = ks
      clear gr P c1 hRs
      induction Rs with
      | nil => rfl
      | cons r Rs ih =>
        obtain ⟨a, b, c, d⟩ := r
        rw [List.filterMap_cons, List.filter_cons]
        by_cases h : ks.count a = 1
        · simp only [Function.comp, tup4, pf, h, if_true, decide_true, List.map_cons]
          rw [← ih]; rfl
        · simp only [Function.comp, tup4, pf, h, if_false, decide_false, Bool.false_eq_true]
          exact ih
    · obtain ⟨⟨a, b, c, d⟩, hr, rfl⟩ := List.mem_map.mp hd
      refine ⟨[some pn.d, some (hD heap), some (.list (Rs.map tup4)), some (.list ((Rs.map (·.1)).map D.str)), none, none, none, none, none, some (tup4 (a, b, c, d))], rfl, ?_⟩
      have ct := count_str (Rs.map (·.1)) a
      have i0 : idxD (tup4 (a, b, c, d)) (.int 0) = some (.str a) := rfl
      have i1 : idxD (tup4 (a, b, c, d)) (.int 1) = some (.str b) := rfl
      have hX : isListD (.list ((Rs.map (·.1)).map D.str)) = true := rfl
      have q := eq_int (((Rs.map (·.1)).count a : Nat) : Int) 1
      have qe : decide ((((Rs.map (·.1)).count a : Nat) : Int) = 1) = decide ((Rs.map (·.1)).count a = 1) := decide_eq_decide.mpr (by omega)
      rw [qe] at q
      generalize D.list ((Rs.map (·.1)).map D.str) = KL at ct hX
      generalize hT : tup4 (a, b, c, d) = T4 at i0 i1
      have fT : pf (Rs.map (·.1)) T4 = if (Rs.map (·.1)).count a = 1 then some (D.tup [.str a, .str b]) else none := by rw [← hT]; rfl
      rw [fT]
      generalize (Rs.map (·.1)).count a = n at ct q ⊢
      by_cases h : n = 1
      · left
        rw [decide_eq_true h] at q
        exact ⟨.tup [.str a, .str b], by simp [hX, ct, i0, q], by simp [i0, i1, dispT], by rw [if_pos h]⟩
      · right
        rw [decide_eq_false h] at q
        exact ⟨by simp [hX, ct, i0, q], by rw [if_neg h]⟩
  have dd : dictD [.list ((parK Rs).map prD)] = some (.dict (parK Rs)) := by
    simp only [dictD, pairs_map, Option.map_some]
    rw [merge_nil (fun k _ => by simp) (parK_nd Rs), List.nil_append]
  -- the loop
  have loop : ∀ (L : List Tx) (acc : List D) (x6 x7 x8 : Option D), (∀ t ∈ L, t ∈ heap) → acc.length + L.length < 100 → ∃ y6 y7 y8,
      forL (gN 6) b_judged_3 (L.map D.str) [some pn.d, some (hD heap), some (.list (Rs.map tup4)), some (.list ((Rs.map (·.1)).map D.str)), some (.dict (parK Rs)), some (.list acc), x6, x7, x8, none] st
        = .nx [some pn.d, some (hD heap), some (.list (Rs.map tup4)), some (.list ((Rs.map (·.1)).map D.str)), some (.dict (parK Rs)), some (.list (acc ++ L.map fun t => tD (vd pn heap t))), y6, y7, y8, none] st := by
    intro L
    induction L with
    | nil => intro acc x6 x7 x8 _ _; exact ⟨x6, x7, x8, by simp⟩
    | cons t L ih =>
      intro acc x6 x7 x8 hm hal
      rw [List.length_cons] at hal
      have tx := hh.tx t (hm t List.mem_cons_self)
      have fe := faults_eq pn t tx st
      have ln := len_tD (faus pn t)
      have l0 := len0 (l := faus pn t)
      have step : ∃ z7 z8, b_judged_3 [some pn.d, some (hD heap), some (.list (Rs.map tup4)), some (.list ((Rs.map (·.1)).map D.str)), some (.dict (parK Rs)), some (.list acc), some (.str t), x7, x8, none] st
          = .nx [some pn.d, some (hD heap), some (.list (Rs.map tup4)), some (.list ((Rs.map (·.1)).map D.str)), some (.dict (parK Rs)), some (.list (acc ++ [tD (vd pn heap t)])), some (.str t), z7, z8, none] st := by
        have ap : ∀ d, appendD (.list acc) [d] = some (.list (acc ++ [d])) := fun d => by simp only [appendD]; rw [if_pos (by rw [sz_eq]; omega)]
        have hX : isListD (.list acc) = true := rfl
        by_cases h : faus pn t = []
        · have ro := row_of_ok tx h st
          have tg := together_ok P (k := (rowT t).key) (st := st)
          have nn : ninD (.str (rowT t).key) (.dict (parK Rs)) = some (.bool (decide (par (goods pn heap) (rowT t).key = none))) := by
            simp only [ninD, inD, P.look]
            cases par (goods pn heap) (rowT t).key <;> rfl
          have i0 : idxD (rowT t).d (.int 0) = some (.str (rowT t).key) := rfl
          rw [decide_eq_true h] at l0
          have ev : vd pn heap t = if par (goods pn heap) (rowT t).key = none then [wTwice] else verd (par (goods pn heap)) (rowT t).key := by unfold vd; rw [if_neg (by simpa using h)]
          rw [ev]
          generalize tD (faus pn t) = T0 at fe ln
          generalize (rowT t).d = RD at ro i0
          generalize D.dict (parK Rs) = PK at tg nn
          generalize pn.d = PD at fe ro
          generalize hD heap = HD
          by_cases hp : par (goods pn heap) (rowT t).key = none
          · rw [decide_eq_true hp] at nn
            rw [if_pos hp]
            have ap := ap (tD [wTwice])
            have e7 : dispT [.str [116, 119, 105, 99, 101]] = some (tD [wTwice]) := rfl
            generalize tD [wTwice] = TW at ap e7
            generalize D.list (acc ++ [TW]) = AC2 at ap
            generalize D.list acc = AC at ap hX
            exact ⟨_, _, by unfold b_judged_3; simp [fe, ln, l0, ro, i0, nn, e7, hX, ap]; exact ⟨rfl, rfl⟩⟩
          · rw [decide_eq_false hp] at nn
            rw [if_neg hp]
            have ap := ap (tD (verd (par (goods pn heap)) (rowT t).key))
            generalize tD (verd (par (goods pn heap)) (rowT t).key) = TW at ap tg
            generalize D.list (acc ++ [TW]) = AC2 at ap
            generalize D.list acc = AC at ap hX
            exact ⟨_, _, by unfold b_judged_3; simp [fe, ln, l0, ro, i0, nn, tg, hX, ap]; exact ⟨rfl, rfl⟩⟩
        · rw [decide_eq_false h] at l0
          have ev : vd pn heap t = faus pn t := by unfold vd; rw [if_pos h]
          rw [ev]
          have ap := ap (tD (faus pn t))
          generalize tD (faus pn t) = T0 at fe ln ap
          generalize D.dict (parK Rs) = PK
          generalize pn.d = PD at fe
          generalize hD heap = HD
          generalize D.list (acc ++ [T0]) = AC2 at ap
          generalize D.list acc = AC at ap hX
          exact ⟨_, _, by unfold b_judged_3; simp [fe, ln, l0, hX, ap]; exact ⟨rfl, rfl⟩⟩
      obtain ⟨z7, z8, step⟩ := step
      obtain ⟨y6, y7, y8, e⟩ := ih (acc ++ [tD (vd pn heap t)]) (some (.str t)) z7 z8 (fun u hu => hm u (List.mem_cons_of_mem _ hu)) (by rw [List.length_append, List.length_singleton]; omega)
      refine ⟨y6, y7, y8, ?_⟩
      rw [List.map_cons]
      unfold forL
      simp only [ev_gN, List.length_cons, List.length_nil, Nat.reduceAdd, Nat.reduceLT, if_true, List.set_cons_succ, List.set_cons_zero]
      rw [step]
      simp only []
      rw [e, List.map_cons, List.append_assoc]
      rfl
  obtain ⟨y6, y7, y8, lp⟩ := loop heap [] none none none (fun t h => h) (by simp; omega)
  rw [List.nil_append] at lp
  show (match m_judged [some pn.d, some (hD heap), none, none, none, none, none, none, none, none] st with | .nx _ st1 => (R.ok D.non st1 : R D) | .rt d st1 => R.ok d st1 | .exc c st1 => R.exc c st1 | .bad => R.bad) = _
  have ih : itemsOf (hD heap) = some (heap.map D.str) := rfl
  have c1 := c1 none
  generalize pn.d = PD at *
  generalize hD heap = HD at *
  generalize D.list (Rs.map tup4) = RL at *
  generalize D.list ((Rs.map (·.1)).map D.str) = KL at *
  generalize D.list ((parK Rs).map prD) = PL at *
  generalize D.dict (parK Rs) = PK at *
  have tp : tupleD [.list (heap.map fun t => tD (vd pn heap t))] = some (.tup (heap.map fun t => tD (vd pn heap t))) := rfl
  generalize D.tup (heap.map fun t => tD (vd pn heap t)) = AT at *
  generalize D.list (heap.map fun t => tD (vd pn heap t)) = AL at *
  have dl : dispL [] = some (.list []) := rfl
  unfold m_judged
  simp [gr, c1, c2, dd, dl, ih, lp, tp]
end Dn

/-! PuJ7: kept (pure). -/
namespace Dn
theorem Rw.rowOk (r : Rw) : RowOk r.key r.d := ⟨r.par, r.amt, r.tag, rfl⟩
theorem isName_ne {l : Tx} (h : isNameB l = true) : l ≠ [] := fun z => by subst z; cases h
/-- a good text's parent is not the empty text -/
theorem good_par {pn : Pn} {t : Tx} (h : faus pn t = []) : ∀ p, (rowT t).par = some p → p ≠ [] ∧ isNameB p = true := by
  obtain ⟨k, p, a, g, n, e, er, h1, h2, h3, h4, h5, h6⟩ := (good_iff.mp h).row
  intro q hq
  rw [er] at hq
  simp only [] at hq
  split at hq
  · cases hq
  · rename_i c
    cases hq
    have := h2.resolve_left c
    exact ⟨isName_ne this, this⟩
theorem k4_inj {r q : Rw} (h1 : ∀ p, r.par = some p → p ≠ []) (h2 : ∀ p, q.par = some p → p ≠ []) (e : r.k4 = q.k4) : r = q := by
  obtain ⟨k, p, a, g⟩ := r
  obtain ⟨k', p', a', g'⟩ := q
  simp only [Rw.k4, Prod.mk.injEq] at e
  obtain ⟨e1, e2, e3, e4⟩ := e
  subst e1 e3 e4
  congr 1
  cases p with
  | none => cases p' with
    | none => rfl
    | some x => exact absurd e2.symm (h2 x rfl)
  | some x => cases p' with
    | none => exact absurd e2 (h1 x rfl)
    | some y => have e2 : x = y := e2
                rw [e2]
theorem vd_nil {pn : Pn} {heap : List Tx} {t : Tx} (h : vd pn heap t = []) : faus pn t = [] ∧ Rooted (par (goods pn heap)) (rowT t).key ∧ par (goods pn heap) (rowT t).key ≠ none := by
  unfold vd at h
  by_cases h1 : faus pn t = []
  · rw [if_neg (by simpa using h1)] at h
    by_cases h2 : par (goods pn heap) (rowT t).key = none
    · rw [if_pos h2] at h; cases h
    · rw [if_neg h2] at h
      refine ⟨h1, ?_, h2⟩
      unfold verd at h
      split at h
      · assumption
      · split at h <;> cases h
  · rw [if_pos h1] at h; exact absurd h h1
/-- one key, one row -/
theorem vd_one {pn : Pn} {heap : List Tx} {t u : Tx} (ht : t ∈ heap) (hu : u ∈ heap) (h1 : vd pn heap t = []) (h2 : vd pn heap u = []) (e : (rowT t).key = (rowT u).key) : rowT t = rowT u := by
  obtain ⟨f1, _, n1⟩ := vd_nil h1
  obtain ⟨f2, _, _⟩ := vd_nil h2
  cases hp : par (goods pn heap) (rowT t).key with
  | none => exact absurd hp n1
  | some p =>
    obtain ⟨r, u', _⟩ := par_some.mp hp
    have a1 := u'.one _ (mem_goods.mpr ⟨t, ht, f1, rfl⟩) rfl
    have a2 := u'.one _ (mem_goods.mpr ⟨u, hu, f2, rfl⟩) e.symm
    exact k4_inj (fun p hp => (good_par f1 p hp).1) (fun p hp => (good_par f2 p hp).1) (a1.trans a2.symm)
/-- the book of the rows without faults -/
noncomputable def keptB (pn : Pn) (heap : List Tx) (L : List Tx) (B : KV) : KV := L.foldl (fun B t => if vd pn heap t = [] then putKD B (rowT t).key (rowT t).d else B) B
theorem keptB_book {pn : Pn} {heap : List Tx} : ∀ {L : List Tx} {B : KV}, Book B → Book (keptB pn heap L B)
  | [], B, h => h
  | t :: L, B, h => by
    show Book (keptB pn heap L (if _ then _ else _))
    refine keptB_book ?_
    split
    · exact put_book h (rowT t).rowOk
    · exact h
theorem keptB_len {pn : Pn} {heap : List Tx} : ∀ {L : List Tx} {B : KV}, (keptB pn heap L B).length ≤ B.length + L.length
  | [], B => by simp [keptB]
  | t :: L, B => by
    have ih := keptB_len (pn := pn) (heap := heap) (L := L) (B := if vd pn heap t = [] then putKD B (rowT t).key (rowT t).d else B)
    have : (if vd pn heap t = [] then putKD B (rowT t).key (rowT t).d else B).length ≤ B.length + 1 := by
      split
      · exact putKD_len2 B _ _
      · omega
    show (keptB pn heap L (if _ then _ else _)).length ≤ _
    rw [List.length_cons]
    omega
theorem keptB_look {pn : Pn} {heap : List Tx} : ∀ {L : List Tx} {B : KV} {k : Tx} {d : D}, (∀ t ∈ L, t ∈ heap) → (lookD (keptB pn heap L B) k = some d ↔ (∃ t ∈ L, vd pn heap t = [] ∧ (rowT t).key = k ∧ (rowT t).d = d) ∨ ((¬ ∃ t ∈ L, vd pn heap t = [] ∧ (rowT t).key = k) ∧ lookD B k = some d))
  | [], B, k, d, _ => by simp [keptB]
  | t :: L, B, k, d, hL => by
    have ih := keptB_look (pn := pn) (heap := heap) (L := L) (B := if vd pn heap t = [] then putKD B (rowT t).key (rowT t).d else B) (k := k) (d := d) fun u hu => hL u (List.mem_cons_of_mem _ hu)
    show lookD (keptB pn heap L (if _ then _ else _)) k = some d ↔ _
    rw [ih]
    by_cases hv : vd pn heap t = []
    · rw [if_pos hv, look_put]
      by_cases hk : k = (rowT t).key
      · rw [if_pos hk]
        constructor
        · rintro (⟨u, hu, h1, h2, h3⟩ | ⟨h1, h2⟩)
          · exact .inl ⟨u, List.mem_cons_of_mem _ hu, h1, h2, h3⟩
          · exact .inl ⟨t, List.mem_cons_self, hv, hk.symm, Option.some.inj h2⟩
        · rintro (⟨u, hu, h1, h2, h3⟩ | ⟨h1, h2⟩)
          · by_cases hx : ∃ u ∈ L, vd pn heap u = [] ∧ (rowT u).key = k
            · obtain ⟨w, hw, h4, h5⟩ := hx
              refine .inl ⟨w, hw, h4, h5, ?_⟩
              rw [← h3, vd_one (hL w (List.mem_cons_of_mem _ hw)) (hL u hu) h4 h1 (h5.trans h2.symm)]
            · refine .inr ⟨hx, ?_⟩
              rw [← h3, vd_one (hL t List.mem_cons_self) (hL u hu) hv h1 (hk.symm.trans h2.symm)]
          · exact absurd ⟨t, List.mem_cons_self, hv, hk.symm⟩ h1
      · rw [if_neg hk]
        constructor
        · rintro (⟨u, hu, h1, h2, h3⟩ | ⟨h1, h2⟩)
          · exact .inl ⟨u, List.mem_cons_of_mem _ hu, h1, h2, h3⟩
          · refine .inr ⟨?_, h2⟩
            rintro ⟨u, hu, h3, h4⟩
            rcases List.mem_cons.mp hu with rfl | hu
            · exact hk h4.symm
            · exact h1 ⟨u, hu, h3, h4⟩
        · rintro (⟨u, hu, h1, h2, h3⟩ | ⟨h1, h2⟩)
          · rcases List.mem_cons.mp hu with rfl | hu
            · exact absurd h2.symm hk
            · exact .inl ⟨u, hu, h1, h2, h3⟩
          · exact .inr ⟨fun ⟨u, hu, h3, h4⟩ => h1 ⟨u, List.mem_cons_of_mem _ hu, h3, h4⟩, h2⟩
    · rw [if_neg hv]
      constructor
      · rintro (⟨u, hu, h1, h2, h3⟩ | ⟨h1, h2⟩)
        · exact .inl ⟨u, List.mem_cons_of_mem _ hu, h1, h2, h3⟩
        · refine .inr ⟨?_, h2⟩
          rintro ⟨u, hu, h3, h4⟩
          rcases List.mem_cons.mp hu with rfl | hu
          · exact hv h3
          · exact h1 ⟨u, hu, h3, h4⟩
      · rintro (⟨u, hu, h1, h2, h3⟩ | ⟨h1, h2⟩)
        · rcases List.mem_cons.mp hu with rfl | hu
          · exact absurd h1 hv
          · exact .inl ⟨u, hu, h1, h2, h3⟩
        · exact .inr ⟨fun ⟨u, hu, h3, h4⟩ => h1 ⟨u, List.mem_cons_of_mem _ hu, h3, h4⟩, h2⟩
/-- what is kept, by rising keys -/
noncomputable def keptS (pn : Pn) (heap : List Tx) : KV := canon (keptB pn heap heap [])
theorem nil_book : Book [] := Sto1.nil.book
theorem keptS_sto (pn : Pn) (heap : List Tx) : Sto1 (keptS pn heap) := canon_ok (keptB_book nil_book)
theorem keptS_len (pn : Pn) (heap : List Tx) : (keptS pn heap).length ≤ heap.length := by
  unfold keptS; rw [canon_len]; have := keptB_len (pn := pn) (heap := heap) (L := heap) (B := []); simpa using this
theorem keptS_look {pn : Pn} {heap : List Tx} {k : Tx} {d : D} : lookD (keptS pn heap) k = some d ↔ ∃ t ∈ heap, vd pn heap t = [] ∧ (rowT t).key = k ∧ (rowT t).d = d := by
  unfold keptS
  rw [look_canon (keptB_book nil_book), keptB_look fun t h => h]
  simp [lookD]
/-- two that keep the same -/
theorem keptS_eq {pn pn' : Pn} {heap heap' : List Tx} (h : ∀ r : Rw, (∃ t ∈ heap, vd pn heap t = [] ∧ rowT t = r) ↔ ∃ t ∈ heap', vd pn' heap' t = [] ∧ rowT t = r) : keptS pn heap = keptS pn' heap' := by
  refine sto_ext (keptS_sto _ _) (keptS_sto _ _) fun k => ?_
  have key : ∀ d, lookD (keptS pn heap) k = some d ↔ lookD (keptS pn' heap') k = some d := fun d => by
    rw [keptS_look, keptS_look]
    constructor
    · rintro ⟨t, ht, h1, h2, h3⟩
      obtain ⟨u, hu, h4, h5⟩ := (h (rowT t)).mp ⟨t, ht, h1, rfl⟩
      exact ⟨u, hu, h4, by rw [h5]; exact h2, by rw [h5]; exact h3⟩
    · rintro ⟨t, ht, h1, h2, h3⟩
      obtain ⟨u, hu, h4, h5⟩ := (h (rowT t)).mpr ⟨t, ht, h1, rfl⟩
      exact ⟨u, hu, h4, by rw [h5]; exact h2, by rw [h5]; exact h3⟩
  cases e : lookD (keptS pn heap) k with
  | some d => exact ((key d).mp e).symm
  | none => cases e2 : lookD (keptS pn' heap') k with
    | none => rfl
    | some d => rw [(key d).mpr e2] at e; cases e
theorem zipL_map (L : List Tx) (f : Tx → D) : zipL (L.map D.str) (L.map f) = L.map fun t => .tup [.str t, f t] := by
  induction L with
  | nil => rfl
  | cons t L ih => simp [zipL, ih]
theorem kept_ok {pn : Pn} {heap : List Tx} (hh : HpOk heap) (st : Sto) : d_kept [pn.d, hD heap] st = .ok (stoD (keptS pn heap)) st := by
  have jd := judged_ok (pn := pn) hh st
  have hl := hh.len
  have zp : zipA [hD heap, .tup (heap.map fun t => tD (vd pn heap t))] = some (heap.map fun t => .tup [.str t, tD (vd pn heap t)]) := by
    simp only [zipA, hD, zipL_map]
  have loop : ∀ (L : List Tx) (B : KV) (x3 x4 x5 : Option D), (∀ t ∈ L, t ∈ heap) → B.length + L.length < 100 → ∃ y3 y4 y5,
      forL (gT [3, 4]) b_kept_1 (L.map fun t => .tup [.str t, tD (vd pn heap t)]) [some pn.d, some (hD heap), some (.dict B), x3, x4, x5, none] st = .nx [some pn.d, some (hD heap), some (.dict (keptB pn heap L B)), y3, y4, y5, none] st := by
    intro L
    induction L with
    | nil => intro B x3 x4 x5 _ _; exact ⟨x3, x4, x5, rfl⟩
    | cons t L ih =>
      intro B x3 x4 x5 hm hB
      rw [List.length_cons] at hB
      have tx := hh.tx t (hm t List.mem_cons_self)
      have ln := len_tD (vd pn heap t)
      have l0 := len0 (l := vd pn heap t)
      have step : ∃ z5, b_kept_1 [some pn.d, some (hD heap), some (.dict B), some (.str t), some (tD (vd pn heap t)), x5, none] st = .nx [some pn.d, some (hD heap), some (.dict (if vd pn heap t = [] then putKD B (rowT t).key (rowT t).d else B)), some (.str t), some (tD (vd pn heap t)), z5, none] st := by
        by_cases h : vd pn heap t = []
        · have ro := row_of_ok tx (vd_nil h).1 st
          have i0 : idxD (rowT t).d (.int 0) = some (.str (rowT t).key) := rfl
          have pt : putD (.dict B) [(rowT t).d, .str (rowT t).key] = some (.dict (putKD B (rowT t).key (rowT t).d)) := by
            simp only [putD]; rw [if_pos (by rw [sz_eq]; omega)]
          rw [if_pos h]
          rw [decide_eq_true h] at l0
          have dX : isDictD (.dict B) = true := rfl
          generalize tD (vd pn heap t) = T0 at ln
          generalize D.dict (putKD B (rowT t).key (rowT t).d) = B2 at pt
          generalize D.dict B = B1 at pt dX
          generalize (rowT t).d = RD at ro i0 pt
          generalize pn.d = PD at ro
          generalize hD heap = HD
          exact ⟨_, by unfold b_kept_1; simp [ln, l0, ro, i0, dX, pt]; rfl⟩
        · rw [if_neg h]
          rw [decide_eq_false h] at l0
          generalize tD (vd pn heap t) = T0 at ln
          generalize D.dict B = B1
          generalize pn.d = PD
          generalize hD heap = HD
          exact ⟨_, by unfold b_kept_1; simp [ln, l0]; rfl⟩
      obtain ⟨z5, step⟩ := step
      have hB2 : (if vd pn heap t = [] then putKD B (rowT t).key (rowT t).d else B).length ≤ B.length + 1 := by
        split
        · exact putKD_len2 B _ _
        · omega
      obtain ⟨y3, y4, y5, e⟩ := ih (if vd pn heap t = [] then putKD B (rowT t).key (rowT t).d else B) (some (.str t)) (some (tD (vd pn heap t))) z5 (fun u hu => hm u (List.mem_cons_of_mem _ hu)) (by omega)
      refine ⟨y3, y4, y5, ?_⟩
      rw [List.map_cons]
      unfold forL
      simp only [ev_gT, ev_gS1, ev_gS0, List.length_cons, List.length_nil, List.length_set, Nat.reduceAdd, Nat.reduceLT, if_true, List.set_cons_succ, List.set_cons_zero]
      rw [step]
      exact e
  obtain ⟨y3, y4, y5, lp⟩ := loop heap [] none none none (fun t h => h) (by simp; omega)
  have bk := keptB_book (pn := pn) (heap := heap) (L := heap) nil_book
  have kl : (keptB pn heap heap []).length < 64 := by
    have := keptB_len (pn := pn) (heap := heap) (L := heap) (B := [])
    simp at this; omega
  have cr : q_kept_2 [some pn.d, some (hD heap), some (.dict (keptB pn heap heap [])), y3, y4, y5, none] st = .ok (.list ((keptS pn heap).map (·.2))) st := by
    unfold q_kept_2 keptS
    generalize keptB pn heap heap [] = S at bk kl
    rw [comp_map (ds := (sortB ltS (S.map (·.1))).map D.str) (f := fun d => match d with | .str k => (lookD S k).getD .non | _ => .non) ?_ (fun d hd => ?_)]
    · unfold canon
      rw [List.map_map, List.map_map]; rfl
    · simp [sortD, kl, itemsOf]
    · obtain ⟨k, hk, rfl⟩ := List.mem_map.mp hd
      have hk := (sortB_perm _).mem_iff.mp hk
      refine ⟨[some pn.d, some (hD heap), some (.dict S), y3, y4, y5, some (.str k)], rfl, ?_⟩
      cases e : lookD S k with
      | none => exact absurd hk (lookD_none.mp e)
      | some r => simp [idxD, e]
  have tp : tupleD [.list ((keptS pn heap).map (·.2))] = some (stoD (keptS pn heap)) := rfl
  show (match m_kept [some pn.d, some (hD heap), none, none, none, none, none] st with | .nx _ st1 => (R.ok D.non st1 : R D) | .rt d st1 => R.ok d st1 | .exc c st1 => R.exc c st1 | .bad => R.bad) = _
  generalize pn.d = PD at *
  generalize hD heap = HD at *
  generalize D.tup (heap.map fun t => tD (vd pn heap t)) = JT at *
  generalize (heap.map fun t => D.tup [.str t, tD (vd pn heap t)]) = ZL at *
  generalize D.dict (keptB pn heap heap []) = KB at *
  generalize D.list ((keptS pn heap).map (·.2)) = KL at *
  generalize stoD (keptS pn heap) = SD at *
  have ei : ∀ env, iA zipA (aCons (eVar 1) (aCons (eCall d_judged (aCons (eVar 0) (aCons (eVar 1) aNil))) aNil)) env st = ((aCons (eVar 1) (aCons (eCall d_judged (aCons (eVar 0) (aCons (eVar 1) aNil))) aNil)) env st).bind fun xs st => ofOpt (zipA xs) st := fun env => rfl
  unfold m_kept
  simp [ei, jd, zp, lp, cr, tp]
end Dn

/-! PuHeap: drawn heaps of texts (pure). -/
namespace Dn
/-- a list of at most n short texts -/
def Sl (n : Nat) (d : D) : Prop := ∃ ls : List Tx, d = .list (ls.map D.str) ∧ ls.length ≤ n ∧ ∀ l ∈ ls, l.length ≤ 60
theorem cut_sub {α : Type} (xs : List α) (lo hi : Option Int) : (cutD xs lo hi).Sublist xs := (List.take_sublist _ _).trans (List.drop_sublist _ _)
theorem cut_map {α β : Type} (f : α → β) (xs : List α) (lo hi : Option Int) : cutD (xs.map f) lo hi = (cutD xs lo hi).map f := by
  unfold cutD
  rw [List.length_map, List.map_take, List.map_drop]
theorem Sl.slice {n : Nat} {d : D} (h : Sl n d) (lo hi : Option Int) : ∃ e, sliceD d lo hi = some e ∧ Sl n e := by
  obtain ⟨ls, rfl, h1, h2⟩ := h
  refine ⟨.list ((cutD ls lo hi).map D.str), by simp only [sliceD, cut_map], cutD ls lo hi, rfl, Nat.le_trans (cut_sub ls lo hi).length_le h1, fun l hl => h2 l ((cut_sub ls lo hi).mem hl)⟩
theorem Sl.add {n m : Nat} {d e : D} (h : Sl n d) (h' : Sl m e) (hn : n + m ≤ 1000) : ∃ f, addD d e = some f ∧ Sl (n + m) f := by
  obtain ⟨ls, rfl, h1, h2⟩ := h
  obtain ⟨ls', rfl, h1', h2'⟩ := h'
  refine ⟨.list ((ls ++ ls').map D.str), ?_, ls ++ ls', rfl, by rw [List.length_append]; omega, fun l hl => ?_⟩
  · rw [addL (by rw [List.length_map, List.length_map]; omega), List.map_append]
  · rcases List.mem_append.mp hl with hl | hl
    · exact h2 l hl
    · exact h2' l hl
theorem Sl.one {l : Tx} (h : l.length ≤ 60) : Sl 1 (.list [.str l]) := ⟨[l], rfl, by simp, fun x hx => by rw [List.mem_singleton.mp hx]; exact h⟩
theorem Sl.join {n : Nat} {d : D} (h : Sl n d) (hn : n ≤ 1000) : ∃ u : Tx, joinD (.str [32]) [d] = some (.str u) ∧ u.length ≤ n * 61 := by
  obtain ⟨ls, rfl, h1, h2⟩ := h
  have hs : (ls.map List.length).sum + ls.length ≤ ls.length * 61 := by
    clear h1
    induction ls with
    | nil => simp
    | cons l ls ih =>
      have := h2 l List.mem_cons_self
      have := ih fun x hx => h2 x (List.mem_cons_of_mem _ hx)
      simp only [List.map_cons, List.sum_cons, List.length_cons]
      omega
  have jl : ∀ ls : List Tx, (joinC [32] ls).length ≤ (ls.map List.length).sum + ls.length := by
    intro ls
    induction ls with
    | nil => simp [joinC]
    | cons l ls ih =>
      cases ls with
      | nil => simp [joinC]
      | cons q r =>
        simp only [joinC, List.length_append, List.length_cons, List.map_cons, List.sum_cons, List.length_nil] at ih ⊢
        omega
  have hm : ls.length * 61 ≤ n * 61 := Nat.mul_le_mul_right 61 h1
  refine ⟨joinC [32] ls, ?_, by have := jl ls; omega⟩
  simp only [joinD, strs_map, Option.bind_some]
  rw [if_pos (by rw [sz_eq]; simp; omega)]
theorem split_short : ∀ (t : Tx) (w : Tx), w ∈ splitC 32 t → w.length ≤ t.length
  | [], w, h => by simp [splitC] at h; subst h; simp
  | c :: t, w, h => by
    have ih := split_short t
    unfold splitC at h
    split at h
    · rcases List.mem_cons.mp h with rfl | h
      · simp
      · have := ih w h; rw [List.length_cons]; omega
    · split at h
      · rename_i x xs e
        rcases List.mem_cons.mp h with rfl | h
        · have := ih x (by rw [e]; exact List.mem_cons_self)
          rw [List.length_cons, List.length_cons]; omega
        · have := ih w (by rw [e]; exact List.mem_cons_of_mem _ h)
          rw [List.length_cons]; omega
      · rw [List.mem_singleton.mp h]; simp
theorem split_len : ∀ (t : Tx), 1 ≤ (splitC 32 t).length ∧ (splitC 32 t).length ≤ t.length + 1
  | [] => by simp [splitC]
  | c :: t => by
    have ih := split_len t
    unfold splitC
    split
    · simp only [List.length_cons]; omega
    · split
      · rename_i x xs e
        rw [e] at ih
        simp only [List.length_cons] at ih ⊢; omega
      · simp
theorem idx_in {ls : List Tx} {i : Int} (h0 : 0 ≤ i) (h1 : i < ls.length) : ∃ l ∈ ls, idxD (.list (ls.map D.str)) (.int i) = some (.str l) := by
  have hl : i.toNat < ls.length := by omega
  refine ⟨ls[i.toNat], List.getElem_mem hl, ?_⟩
  have e : ixD (ls.map D.str).length i = some i.toNat := by
    unfold ixD; rw [List.length_map, if_pos h0, if_pos h1]
  simp only [idxD, e, Option.bind_some]
  rw [List.getElem?_map, List.getElem?_eq_getElem hl]; rfl
theorem slice_str (l : Tx) (lo hi : Option Int) : ∃ u : Tx, sliceD (.str l) lo hi = some (.str u) ∧ u.length ≤ l.length := ⟨cutD l lo hi, rfl, (cut_sub l lo hi).length_le⟩
theorem add_str {x y : Tx} (h : x.length + y.length ≤ 10000) : addD (.str x) (.str y) = some (.str (x ++ y)) := by
  simp only [addD]; rw [if_pos (by rw [sz_eq]; omega)]
def someW : List Tx := [[45], [97], [48], [48, 55], [49, 48, 48, 48], [57, 57, 57], [115, 105, 120, 115, 105, 120], [65], [], [45, 49], [97, 32, 98], [111, 107]]
theorem spoilt_ok (t : Tx) (n : Int) (ht : t.length ≤ 40) (h0 : 0 ≤ n) (st : Sto) : ∃ u : Tx, d_law_spoilt_text [.str t, .int n] st = .ok (.str u) st ∧ u.length ≤ 10000 := by
  have hs : splitD (.str t) [.str [32]] = some (.list ((splitC 32 t).map D.str)) := split_ok (by omega)
  obtain ⟨l1, l2⟩ := split_len t
  have sw : Sl 41 (.list ((splitC 32 t).map D.str)) := ⟨splitC 32 t, rfl, by omega, fun l hl => by have := split_short t l hl; omega⟩
  have ln : lenD [.list ((splitC 32 t).map D.str)] = some (.int (splitC 32 t).length) := by simp [lenD]
  have d8 : fdivD (.int n) (.int 8) = some (.int (n / 8)) := fdiv_pos (by omega)
  have md : modD (.int (n / 8)) (.int (splitC 32 t).length) = some (.int (n / 8 % (splitC 32 t).length)) := mod_pos (by omega)
  obtain ⟨a0, a1⟩ := lcg_lt (n / 8) (splitC 32 t).length (by omega)
  obtain ⟨wa, hwa, iwa⟩ := idx_in (ls := splitC 32 t) a0 a1
  have hwl := split_short t wa hwa
  generalize n / 8 % ((splitC 32 t).length : Int) = at_ at md a0 a1 iwa
  have d256 : fdivD (.int n) (.int 256) = some (.int (n / 256)) := fdiv_pos (by omega)
  have m12 : modD (.int (n / 256)) (.int 12) = some (.int (n / 256 % 12)) := mod_pos (by omega)
  obtain ⟨b0, b1⟩ := lcg_lt (n / 256) 12 (by omega)
  obtain ⟨sm, hsm, ism⟩ := idx_in (ls := someW) b0 (by show _ < ((12 : Nat) : Int); omega)
  have hsl : sm.length ≤ 60 := by
    have : ∀ x ∈ someW, x.length ≤ 60 := by decide
    exact this sm hsm
  have m6 : modD (.int n) (.int 6) = some (.int (n % 6)) := mod_pos (by omega)
  obtain ⟨c0, c1⟩ := lcg_lt n 6 (by omega)
  generalize n / 256 % 12 = bt at m12 b0 b1 ism
  generalize hWL : D.list ((splitC 32 t).map D.str) = WL at hs sw ln iwa
  have ad1 : addD (.int at_) (.int 1) = some (.int (at_ + 1)) := rfl
  obtain ⟨P1, s1, q1⟩ := sw.slice none (some at_)
  obtain ⟨P2, s2, q2⟩ := sw.slice (some (at_ + 1)) none
  obtain ⟨P3, s3, q3⟩ := sw.slice (some at_) (some (at_ + 1))
  obtain ⟨P4, s4, q4⟩ := sw.slice (some at_) none
  obtain ⟨F0, f0, g0⟩ := q1.add q2 (by omega)
  obtain ⟨F1a, f1a, g1a⟩ := q1.add q3 (by omega)
  obtain ⟨F1, f1, g1⟩ := g1a.add q4 (by omega)
  obtain ⟨F2a, f2a, g2a⟩ := q1.add (Sl.one hsl) (by omega)
  obtain ⟨F2, f2, g2⟩ := g2a.add q2 (by omega)
  obtain ⟨wc, swc, hwc⟩ := slice_str wa none (some (-1))
  obtain ⟨F3a, f3a, g3a⟩ := q1.add (Sl.one (l := wc) (by omega)) (by omega)
  obtain ⟨F3, f3, g3⟩ := g3a.add q2 (by omega)
  have aw : addD (.str wa) (.str [48]) = some (.str (wa ++ [48])) := add_str (by simp; omega)
  obtain ⟨F4a, f4a, g4a⟩ := q1.add (Sl.one (l := wa ++ [48]) (by simp; omega)) (by omega)
  obtain ⟨F4, f4, g4⟩ := g4a.add q2 (by omega)
  obtain ⟨F5, f5, g5⟩ : ∃ F5, revD WL = some F5 ∧ Sl 41 F5 := by
    obtain ⟨ls, e, h1, h2⟩ := sw
    subst e
    exact ⟨.list (ls.reverse.map D.str), by simp only [revD, List.map_reverse], ls.reverse, rfl, by simpa using h1, fun l hl => h2 l (List.mem_reverse.mp hl)⟩
  have pick : ∃ F ∈ [F0, F1, F2, F3, F4, F5], idxD (.list [F0, F1, F2, F3, F4, F5]) (.int (n % 6)) = some F := by
    have hl : (n % 6).toNat < [F0, F1, F2, F3, F4, F5].length := by show _ < 6; omega
    refine ⟨[F0, F1, F2, F3, F4, F5][(n % 6).toNat], List.getElem_mem hl, ?_⟩
    have e : ixD [F0, F1, F2, F3, F4, F5].length (n % 6) = some (n % 6).toNat := by
      unfold ixD; rw [if_pos c0, if_pos (by show _ < ((6 : Nat) : Int); omega)]
    simp only [idxD, e, Option.bind_some]
    rw [List.getElem?_eq_getElem hl]
  obtain ⟨F, hF, ixF⟩ := pick
  have sF : Sl 130 F := by
    have mono : ∀ {a b : Nat} {d : D}, Sl a d → a ≤ b → Sl b d := fun ⟨ls, h1, h2, h3⟩ h => ⟨ls, h1, by omega, h3⟩
    simp only [List.mem_cons, List.not_mem_nil, or_false] at hF
    rcases hF with rfl | rfl | rfl | rfl | rfl | rfl
    · exact mono g0 (by omega)
    · exact mono g1 (by omega)
    · exact mono g2 (by omega)
    · exact mono g3 (by omega)
    · exact mono g4 (by omega)
    · exact mono g5 (by omega)
  obtain ⟨u, ju, hu⟩ := sF.join (by omega)
  refine ⟨u, ?_, by omega⟩
  show (match m_law_spoilt_text [some (.str t), some (.int n), none, none, none, none] st with | .nx _ st1 => (R.ok D.non st1 : R D) | .rt d st1 => R.ok d st1 | .exc c st1 => R.exc c st1 | .bad => R.bad) = _
  have ng : negD (.int 1) = some (.int (-1)) := rfl
  have hsome : dispL [.str [45], .str [97], .str [48], .str [48, 55], .str [49, 48, 48, 48], .str [57, 57, 57], .str [115, 105, 120, 115, 105, 120], .str [65], .str [], .str [45, 49], .str [97, 32, 98], .str [111, 107]] = some (.list (someW.map D.str)) := rfl
  generalize D.list (someW.map D.str) = SW at hsome ism
  have dl1 : ∀ x : D, dispL [x] = some (.list [x]) := fun x => rfl
  have dl2 : ∀ x y : D, dispL [x, y] = some (.list [x, y]) := fun x y => rfl
  have ap : ∀ (xs : List D) (d : D), xs.length < 10 → appendD (.list xs) [d] = some (.list (xs ++ [d])) := fun xs d h => by simp only [appendD]; rw [if_pos (by rw [sz_eq]; omega)]
  have a2 := ap [F0, F1] F2 (by simp)
  have a3 := ap [F0, F1, F2] F3 (by simp)
  have a4 := ap [F0, F1, F2, F3] F4 (by simp)
  have a5 := ap [F0, F1, F2, F3, F4] F5 (by simp)
  simp only [List.cons_append, List.nil_append] at a2 a3 a4 a5
  unfold m_law_spoilt_text
  simp [isStrD, hs, d8, ln, md, hsome, s1, s2, s3, s4, ad1, f0, f1a, f1, dl2, d256, m12, ism, dl1, f2a, f2, isListD, a2, iwa, ng, swc, f3a, f3, a3, aw, f4a, f4, a4, f5, a5, m6, ixF, ju]
end Dn

/-! PuHeap2: drawn heaps of texts (pure). -/
namespace Dn
theorem numC_small : ∀ n, n < 1000 → (numC n).length ≤ 3 := by decide +kernel
/-- the text of a row -/
def txtR (k : Tx) (p : Option Tx) (a : Int) (g : Tx) : Tx := k ++ [32] ++ p.getD [45] ++ [32] ++ numC a.toNat ++ [32] ++ g
theorem str_amt {a : Int} (h0 : 0 ≤ a) (h1 : a ≤ 999) : strD [.int a] = some (.str (numC a.toNat)) := by
  have e : a = ((a.toNat : Nat) : Int) := by omega
  rw [e]
  exact str_small (by omega)
def parD : Option Tx → D
  | none => .non
  | some q => .str q
theorem rowD_par (k : Tx) (p : Option Tx) (a : Int) (g : Tx) : idxD (rowD k p a g) (.int 1) = some (parD p) := by cases p <;> rfl
theorem law_text_ok {k g : Tx} {p : Option Tx} {a : Int} (hk : k.length ≤ 5) (hp : ∀ q, p = some q → q.length ≤ 5) (h0 : 0 ≤ a) (h1 : a ≤ 999) (hg : g.length ≤ 5) (st : Sto) : d_law_text [rowD k p a g] st = .ok (.str (txtR k p a g)) st ∧ (txtR k p a g).length ≤ 40 := by
  have sa := str_amt h0 h1
  have nl := numC_small a.toNat (by omega)
  have pl : (p.getD [45]).length ≤ 5 := by
    cases p with
    | none => simp
    | some q => exact hp q rfl
  have i0 : idxD (rowD k p a g) (.int 0) = some (.str k) := rfl
  have i1 := rowD_par k p a g
  have i2 : idxD (rowD k p a g) (.int 2) = some (.int a) := rfl
  have i3 : idxD (rowD k p a g) (.int 3) = some (.str g) := rfl
  unfold txtR
  generalize numC a.toNat = na at sa nl
  refine ⟨?_, by simp only [List.length_append, List.length_singleton]; omega⟩
  generalize rowD k p a g = RD at i0 i1 i2 i3
  show (match m_law_text [some RD, none] st with | .nx _ st1 => (R.ok D.non st1 : R D) | .rt d st1 => R.ok d st1 | .exc c st1 => R.exc c st1 | .bad => R.bad) = _
  have e1 : addD (.str k) (.str [32]) = some (.str (k ++ [32])) := add_str (by simp; omega)
  have e2 : addD (.str (k ++ [32])) (.str (p.getD [45])) = some (.str (k ++ [32] ++ p.getD [45])) := add_str (by simp; omega)
  have e3 : addD (.str (k ++ [32] ++ p.getD [45])) (.str [32]) = some (.str (k ++ [32] ++ p.getD [45] ++ [32])) := add_str (by simp; omega)
  have e4 : addD (.str (k ++ [32] ++ p.getD [45] ++ [32])) (.str na) = some (.str (k ++ [32] ++ p.getD [45] ++ [32] ++ na)) := add_str (by simp; omega)
  have e5 : addD (.str (k ++ [32] ++ p.getD [45] ++ [32] ++ na)) (.str [32]) = some (.str (k ++ [32] ++ p.getD [45] ++ [32] ++ na ++ [32])) := add_str (by simp; omega)
  have e6 : addD (.str (k ++ [32] ++ p.getD [45] ++ [32] ++ na ++ [32])) (.str g) = some (.str (k ++ [32] ++ p.getD [45] ++ [32] ++ na ++ [32] ++ g)) := add_str (by simp; omega)
  generalize k ++ [32] ++ p.getD [45] ++ [32] ++ na ++ [32] ++ g = x6 at e6
  generalize k ++ [32] ++ p.getD [45] ++ [32] ++ na ++ [32] = x5 at e5 e6
  generalize k ++ [32] ++ p.getD [45] ++ [32] ++ na = x4 at e4 e5
  generalize k ++ [32] ++ p.getD [45] ++ [32] = x3 at e3 e4
  generalize hx2 : k ++ [32] ++ p.getD [45] = x2 at e2 e3
  generalize k ++ [32] = x1 at e1 e2
  unfold m_law_text
  cases p with
  | none => simp only [Option.getD_none] at e2; simp [i0, i1, i2, i3, parD, isN2, isNonD, e1, e2, e3, e4, e5, e6, sa]
  | some q => simp only [Option.getD_some] at e2; simp [i0, i1, i2, i3, parD, isN2, isNonD, e1, e2, e3, e4, e5, e6, sa]
structure PnOk (pn : Pn) : Prop where
  ok : PlanOk pn.lo pn.hi pn.tags
theorem heap_ok {pn : Pn} (P : PlanOk pn.lo pn.hi pn.tags) (n m : Int) (h0 : 0 ≤ n) (m0 : 0 ≤ m) (m1 : m ≤ 50) (st : Sto) : ∃ heap : List Tx, d_law_heap [pn.d, .int n, .int m] st = .ok (hD heap) st ∧ (heap.length : Int) ≤ m ∧ ∀ t ∈ heap, t.length ≤ 10000 := by
  have md : modD (.int n) (.int (m + 1)) = some (.int (n % (m + 1))) := mod_pos (by omega)
  obtain ⟨c0, c1⟩ := lcg_lt n (m + 1) (by omega)
  have am : addD (.int m) (.int 1) = some (.int (m + 1)) := rfl
  have loop : ∀ (L : List D) (found : List Tx) (x4 x5 x6 : Option D), (∀ d ∈ L, ∃ k : Nat, d = .int (k : Int)) → (∀ t ∈ found, t.length ≤ 10000) → found.length + L.length ≤ 60 → ∃ (heap : List Tx) (y4 y5 y6 : Option D),
      forL (gN 4) b_law_heap_1 L [some pn.d, some (.int n), some (.int m), some (hD found), x4, x5, x6] st = .nx [some pn.d, some (.int n), some (.int m), some (hD heap), y4, y5, y6] st ∧ heap.length = found.length + L.length ∧ ∀ t ∈ heap, t.length ≤ 10000 := by
    intro L
    induction L with
    | nil => intro found x4 x5 x6 _ hf _; exact ⟨found, x4, x5, x6, rfl, by simp, hf⟩
    | cons d L ih =>
      intro found x4 x5 x6 hL hf hlen
      rw [List.length_cons] at hlen
      obtain ⟨k, rfl⟩ := hL d List.mem_cons_self
      have step : ∃ (t : Tx) (z5 z6 : Option D), t.length ≤ 10000 ∧ b_law_heap_1 [some pn.d, some (.int n), some (.int m), some (hD found), some (.int k), x5, x6] st = .nx [some pn.d, some (.int n), some (.int m), some (hD (found ++ [t])), some (.int k), z5, z6] st := by
        have dq := drawn_eq n (10 + (k : Int)) st
        obtain ⟨w0, w1⟩ := drawn_bd n (10 + (k : Int))
        generalize drawnN n (10 + (k : Int)) = dr at dq w0 w1
        have d4 : fdivD (.int dr) (.int 4) = some (.int (dr / 4)) := fdiv_pos (by omega)
        have h4 : 0 ≤ dr / 4 := by omega
        generalize dr / 4 = q at d4 h4
        have d8 : fdivD (.int q) (.int 8) = some (.int (q / 8)) := fdiv_pos (by omega)
        have m8 : modD (.int q) (.int 8) = some (.int (q % 8)) := mod_pos (by omega)
        have h8 : 0 ≤ q / 8 := by omega
        obtain ⟨rk, rp, ra, rt, re, hk, hp, hlo, hhi, htg⟩ := row_ok P (q / 8) h8 st
        have re : d_law_row [pn.d, .int (q / 8)] st = .ok (rowD rk rp ra rt) st := re
        obtain ⟨lt, ll⟩ := law_text_ok (k := rk) (p := rp) (a := ra) (g := rt) hk.2.1 (fun z hz => (hp z hz).2.1) (by have := P.lo0; omega) (by have := P.hi1; omega) (P.name rt htg).2.1 st
        obtain ⟨u, su, hu⟩ := spoilt_ok (txtR rk rp ra rt) (q / 8) ll h8 st
        generalize txtR rk rp ra rt = T1 at lt ll su
        have q0 := eq_int (q % 8) 0
        have q1 := eq_int (q % 8) 1
        have a10 : addD (.int 10) (.int (k : Int)) = some (.int (10 + (k : Int))) := rfl
        have nq : neD (hD found) (.tup []) = some (.bool (decide (found ≠ []))) := by
          classical
          unfold hD
          rw [ne_ok (n := 1) (Pl.tup (strs_pl found)) (Pl.tup (n := 0) (fun x hx => by cases hx)) (by omega)]
          congr 2
          exact decide_eq_decide.mpr (by simp)
        have dt : dispT [] = some (.tup []) := rfl
        have dt1 : ∀ t : Tx, dispT [.str t] = some (hD [t]) := fun t => rfl
        have ad : ∀ t : Tx, addD (hD found) (hD [t]) = some (hD (found ++ [t])) := fun t => by
          unfold hD
          rw [addT (by simp; omega)]; simp
        have lf : lenD [hD found] = some (.int found.length) := by simp [lenD, hD]
        by_cases h1 : q % 8 = 1
        · rw [decide_eq_true h1] at q1
          rw [decide_eq_false (by omega)] at q0
          by_cases hf0 : found = []
          · rw [decide_eq_false (by simpa using hf0)] at nq
            have ad := ad T1
            refine ⟨T1, some (.int q), some (.str T1), by omega, ?_⟩
            have dt1 := dt1 T1
            generalize hD (found ++ [T1]) = H2 at ad ⊢
            generalize hD found = H1 at ad nq ⊢
            generalize hD [T1] = H3 at ad dt1
            generalize pn.d = PD at re ⊢
            unfold b_law_heap_1
            simp [a10, dq, d4, d8, re, lt, m8, q0, q1, dt, nq, dt1, ad]
          · rw [decide_eq_true hf0] at nq
            have fl : 0 < found.length := List.length_pos_iff.mpr hf0
            have mf : modD (.int (q / 8)) (.int found.length) = some (.int (q / 8 % found.length)) := mod_pos (by omega)
            obtain ⟨f0, f1⟩ := lcg_lt (q / 8) found.length (by omega)
            have ixf : ∃ w ∈ found, idxD (hD found) (.int (q / 8 % found.length)) = some (.str w) := by
              have hl : (q / 8 % (found.length : Int)).toNat < found.length := by omega
              refine ⟨found[(q / 8 % (found.length : Int)).toNat], List.getElem_mem hl, ?_⟩
              have e : ixD (found.map D.str).length (q / 8 % (found.length : Int)) = some (q / 8 % (found.length : Int)).toNat := by
                unfold ixD; rw [List.length_map, if_pos f0, if_pos f1]
              simp only [hD, idxD, e, Option.bind_some]
              rw [List.getElem?_map, List.getElem?_eq_getElem hl]; rfl
            obtain ⟨w, hw, ixf⟩ := ixf
            have ad := ad w
            refine ⟨w, some (.int q), some (.str w), hf w hw, ?_⟩
            have dt1 := dt1 w
            generalize hD (found ++ [w]) = H2 at ad ⊢
            generalize hD found = H1 at ad nq lf ixf ⊢
            generalize hD [w] = H3 at ad dt1
            generalize pn.d = PD at re ⊢
            unfold b_law_heap_1
            simp [a10, dq, d4, d8, re, lt, m8, q0, q1, dt, nq, lf, mf, ixf, dt1, ad]
        · rw [decide_eq_false h1] at q1
          by_cases h2 : q % 8 = 0
          · rw [decide_eq_true h2] at q0
            have ad := ad u
            refine ⟨u, some (.int q), some (.str u), hu, ?_⟩
            have dt1 := dt1 u
            generalize hD (found ++ [u]) = H2 at ad ⊢
            generalize hD found = H1 at ad nq ⊢
            generalize hD [u] = H3 at ad dt1
            generalize pn.d = PD at re ⊢
            unfold b_law_heap_1
            simp [a10, dq, d4, d8, re, lt, m8, q0, q1, su, dt1, ad]
          · rw [decide_eq_false h2] at q0
            have ad := ad T1
            refine ⟨T1, some (.int q), some (.str T1), by omega, ?_⟩
            have dt1 := dt1 T1
            generalize hD (found ++ [T1]) = H2 at ad ⊢
            generalize hD found = H1 at ad nq ⊢
            generalize hD [T1] = H3 at ad dt1
            generalize pn.d = PD at re ⊢
            unfold b_law_heap_1
            simp [a10, dq, d4, d8, re, lt, m8, q0, q1, dt1, ad]
      obtain ⟨t, z5, z6, ht, step⟩ := step
      obtain ⟨heap, y4, y5, y6, e, e2, e3⟩ := ih (found ++ [t]) (some (.int k)) z5 z6 (fun d hd => hL d (List.mem_cons_of_mem _ hd)) (fun x hx => by
        rcases List.mem_append.mp hx with hx | hx
        · exact hf x hx
        · rw [List.mem_singleton.mp hx]; exact ht) (by rw [List.length_append, List.length_singleton]; omega)
      refine ⟨heap, y4, y5, y6, ?_, by rw [e2, List.length_append, List.length_singleton, List.length_cons]; omega, e3⟩
      unfold forL
      simp only [ev_gN, List.length_cons, List.length_nil, Nat.reduceAdd, Nat.reduceLT, if_true, List.set_cons_succ, List.set_cons_zero]
      rw [step]
      exact e
  obtain ⟨heap, y4, y5, y6, e, e2, e3⟩ := loop ((List.range (n % (m + 1)).toNat).map fun (k : Nat) => D.int (k : Int)) [] none none none (fun d hd => by obtain ⟨k, _, rfl⟩ := List.mem_map.mp hd; exact ⟨k, rfl⟩) (fun t h => by cases h) (by simp; omega)
  refine ⟨heap, ?_, by rw [e2]; simp; omega, e3⟩
  have rg := range_ok c0 (by omega)
  have dt : dispT [] = some (hD []) := rfl
  show (match m_law_heap [some pn.d, some (.int n), some (.int m), none, none, none, none] st with | .nx _ st1 => (R.ok D.non st1 : R D) | .rt d st1 => R.ok d st1 | .exc c st1 => R.exc c st1 | .bad => R.bad) = _
  generalize ((List.range (n % (m + 1)).toNat).map fun (k : Nat) => D.int (k : Int)) = RG at e rg
  generalize hD heap = HH at e
  generalize hD [] = H0 at e dt
  generalize pn.d = PD at e
  unfold m_law_heap
  simp [dt, am, md, rg, e]
end Dn

/-! PuJ8: verdicts in small; texts of rows, and back (pure). -/
namespace Dn
section
variable {g : Tx → Option Tx} {k p : Tx}
theorem rooted_root (h : g k = some []) : Rooted g k := ⟨0, k, rfl, h⟩
theorem rooted_step (h : g k = some p) (hp : p ≠ []) : Rooted g k ↔ Rooted g p := by
  have n1 : ups g k 1 = some p := by show (some k).bind (nxt g) = _; exact nxt_some.mpr ⟨h, hp⟩
  constructor
  · rintro ⟨n, x, h1, h2⟩
    cases n with
    | zero => cases h1; rw [h] at h2; cases h2; exact absurd rfl hp
    | succ n =>
      refine ⟨n, x, ?_, h2⟩
      rw [← ups_add k p 1 n n1, Nat.add_comm]; exact h1
  · rintro ⟨n, x, h1, h2⟩
    exact ⟨1 + n, x, by rw [ups_add k p 1 n n1]; exact h1, h2⟩
theorem not_rooted_none (h : g k = none) : ¬ Rooted g k := by
  rintro ⟨n, x, h1, h2⟩
  cases n with
  | zero => cases h1; rw [h] at h2; cases h2
  | succ n =>
    have : ups g k 1 = none := by show (some k).bind (nxt g) = none; exact nxt_none.mpr (.inl h)
    rw [ups_none this (by omega)] at h1; cases h1
theorem verd_root (h : Rooted g k) : verd g k = [] := by unfold verd; rw [if_pos h]
theorem verd_nil_iff : verd g k = [] ↔ Rooted g k := by
  unfold verd
  constructor
  · intro h
    split at h
    · assumption
    · split at h <;> cases h
  · intro h; rw [if_pos h]
theorem ups_self (h : g k = some k) (hk : k ≠ []) : ∀ n, ups g k n = some k
  | 0 => rfl
  | n + 1 => by show (ups g k n).bind _ = _; rw [ups_self h hk n]; exact nxt_some.mpr ⟨h, hk⟩
theorem verd_self (h : g k = some k) (hk : k ≠ []) : verd g k = [wRing] := by
  have nr : ¬ Rooted g k := fun ⟨n, x, h1, h2⟩ => by
    rw [ups_self h hk n] at h1; cases h1; rw [h] at h2; cases h2; exact hk rfl
  unfold verd
  rw [if_neg nr, if_pos ⟨1, Nat.le_refl _, ups_self h hk 1⟩]
theorem verd_lost1 (h : g k = some p) (hp : p ≠ []) (hn : g p = none) (hne : p ≠ k) : verd g k = [wLost] := by
  have nr : ¬ Rooted g k := fun h1 => not_rooted_none hn ((rooted_step h hp).mp h1)
  have n1 : ups g k 1 = some p := by show (some k).bind (nxt g) = _; exact nxt_some.mpr ⟨h, hp⟩
  have n2 : ups g k 2 = none := by
    show (ups g k 1).bind (nxt g) = none
    rw [n1]; exact nxt_none.mpr (.inl hn)
  have nc : ¬ Ring g k := fun ⟨n, h1, h2⟩ => by
    by_cases e : n = 1
    · rw [e, n1] at h2; cases h2; exact hne rfl
    · rw [ups_none n2 (by omega)] at h2; cases h2
  unfold verd
  rw [if_neg nr, if_neg nc]
end
/-! ### splitting -/
theorem split_one {a : Tx} (h : 32 ∉ a) : splitC 32 a = [a] := by
  induction a with
  | nil => rfl
  | cons c a ih =>
    have h1 : c ≠ 32 := fun z => h (by rw [z]; exact List.mem_cons_self)
    unfold splitC
    rw [if_neg h1, ih fun z => h (List.mem_cons_of_mem _ z)]
theorem split_app {a b : Tx} (h : 32 ∉ a) : splitC 32 (a ++ 32 :: b) = a :: splitC 32 b := by
  induction a with
  | nil => rfl
  | cons c a ih =>
    have h1 : c ≠ 32 := fun z => h (by rw [z]; exact List.mem_cons_self)
    show splitC 32 (c :: (a ++ 32 :: b)) = _
    conv => lhs; unfold splitC
    rw [if_neg h1, ih fun z => h (List.mem_cons_of_mem _ z)]
theorem split4 {k p a g : Tx} (hk : 32 ∉ k) (hp : 32 ∉ p) (ha : 32 ∉ a) (hg : 32 ∉ g) : splitC 32 (k ++ [32] ++ p ++ [32] ++ a ++ [32] ++ g) = [k, p, a, g] := by
  have e : k ++ [32] ++ p ++ [32] ++ a ++ [32] ++ g = k ++ 32 :: (p ++ 32 :: (a ++ 32 :: g)) := by simp
  rw [e, split_app hk, split_app hp, split_app ha, split_one hg]
theorem name_no32 {l : Tx} (h : isNameB l = true) : 32 ∉ l := fun z => by
  unfold isNameB at h
  simp only [Bool.and_eq_true, List.all_eq_true] at h
  have := h.2 32 z
  revert this
  decide
theorem num_no32 : ∀ n, n < 1000 → 32 ∉ numC n := by decide +kernel
theorem num_amt : ∀ n, n < 1000 → amtOf (numC n) = some ((n : Nat) : Int) := by decide +kernel
theorem nameB_of {l : Tx} (h : NameC l) : isNameB l = true := by
  unfold isNameB
  simp only [Bool.and_eq_true, decide_eq_true_eq, List.all_eq_true]
  refine ⟨⟨h.1, h.2.1⟩, fun c hc => ?_⟩
  unfold abcB
  have hh := h.2.2 c hc
  have : ∀ c, 97 ≤ c → c ≤ 122 → decide (c ∈ abc) = true := by
    intro c h1 h2
    rw [decide_eq_true_eq]
    simp [abc]
    omega
  exact this c hh.1 hh.2
theorem amt_num {n : Int} (h0 : 0 ≤ n) (h1 : n ≤ 999) : amtOf (numC n.toNat) = some n := by
  rw [num_amt n.toNat (by omega)]
  congr 1; omega
/-- a row that may be written -/
structure RwOk (r : Rw) : Prop where
  key : isNameB r.key = true
  par : ∀ p, r.par = some p → isNameB p = true
  a0 : 0 ≤ r.amt
  a1 : r.amt ≤ 999
  tag : isNameB r.tag = true
def Rw.txt (r : Rw) : Tx := txtR r.key r.par r.amt r.tag
theorem txt_split {r : Rw} (h : RwOk r) : splitC 32 r.txt = [r.key, r.par.getD [45], numC r.amt.toNat, r.tag] := by
  unfold Rw.txt txtR
  refine split4 (name_no32 h.key) ?_ (num_no32 _ (by have := h.a1; omega)) (name_no32 h.tag)
  cases e : r.par with
  | none => decide
  | some p => exact name_no32 (h.par p e)
theorem name_ne_dash {p : Tx} (h : isNameB p = true) : p ≠ [45] := fun z => by subst z; revert h; decide
theorem txt_row {r : Rw} (h : RwOk r) : rowT r.txt = r := by
  unfold rowT
  rw [txt_split h]
  simp only [amt_num h.a0 h.a1, Option.getD_some]
  obtain ⟨k, p, a, g⟩ := r
  cases p with
  | none => simp
  | some q =>
    have : q ≠ [45] := name_ne_dash (h.par q rfl)
    simp [this]
theorem txt_good {pn : Pn} {r : Rw} (h : RwOk r) (h1 : pn.lo ≤ r.amt) (h2 : r.amt ≤ pn.hi) (h3 : r.tag ∈ pn.tags) : faus pn r.txt = [] := by
  rw [good_iff]
  refine ⟨r.key, r.par.getD [45], numC r.amt.toNat, r.tag, r.amt, txt_split h, h.key, ?_, amt_num h.a0 h.a1, h1, h2, h3, ?_⟩
  · cases e : r.par with
    | none => exact .inl rfl
    | some p => exact .inr (h.par p e)
  · have e1 := isName_ne h.key
    have e2 := isName_ne h.tag
    have e3 : r.par.getD [45] ≠ [] := by
      cases e : r.par with
      | none => simp
      | some p => exact isName_ne (h.par p e)
    have e4 : numC r.amt.toNat ≠ [] := fun z => by
      have := amt_num h.a0 h.a1
      rw [z] at this
      cases this
    simp only [List.mem_cons, List.not_mem_nil, or_false, not_or]
    exact ⟨fun z => e1 z.symm, fun z => e3 z.symm, fun z => e4 z.symm, fun z => e2 z.symm⟩
/-- the row of a good text -/
theorem good_rw {pn : Pn} {t : Tx} (P : PlanOk pn.lo pn.hi pn.tags) (h : faus pn t = []) : RwOk (rowT t) ∧ pn.lo ≤ (rowT t).amt ∧ (rowT t).amt ≤ pn.hi ∧ (rowT t).tag ∈ pn.tags := by
  obtain ⟨k, p, a, g, n, e, er, h1, h2, h3, h4, h5, h6⟩ := (good_iff.mp h).row
  have gp := good_par h
  rw [er] at gp ⊢
  exact ⟨⟨h1, fun q hq => (gp q hq).2, by have := P.lo0; exact Int.le_trans this h4, by have := P.hi1; exact Int.le_trans h5 this, nameB_of (P.name g h6)⟩, h4, h5, h6⟩
theorem txt_len {r : Rw} (h : RwOk r) : r.txt.length ≤ 40 := by
  have kl : ∀ l, isNameB l = true → l.length ≤ 5 := fun l hl => by
    unfold isNameB at hl
    simp only [Bool.and_eq_true, decide_eq_true_eq] at hl
    exact hl.1.2
  exact (law_text_ok (kl _ h.key) (fun q hq => kl q (h.par q hq)) h.a0 h.a1 (kl _ h.tag) []).2
end Dn

/-! PuJ9: verdicts and rows that depend on what is there alone (pure). -/
namespace Dn
theorem vd_congr {pn : Pn} {heap heap' : List Tx} (h : ∀ r, r ∈ goods pn heap ↔ r ∈ goods pn heap') (t : Tx) : vd pn heap t = vd pn heap' t := by
  unfold vd
  rw [par_congr h]
theorem goods_congr {pn : Pn} {heap heap' : List Tx} (h : ∀ t, t ∈ heap ↔ t ∈ heap') : ∀ r, r ∈ goods pn heap ↔ r ∈ goods pn heap' := fun r => by
  rw [mem_goods, mem_goods]
  exact ⟨fun ⟨t, h1, h2⟩ => ⟨t, (h t).mp h1, h2⟩, fun ⟨t, h1, h2⟩ => ⟨t, (h t).mpr h1, h2⟩⟩
theorem vd_mem {pn : Pn} {heap heap' : List Tx} (h : ∀ t, t ∈ heap ↔ t ∈ heap') (t : Tx) : vd pn heap t = vd pn heap' t := vd_congr (goods_congr h) t
theorem kept_mem {pn : Pn} {heap heap' : List Tx} (h : ∀ t, t ∈ heap ↔ t ∈ heap') : keptS pn heap = keptS pn heap' := keptS_eq fun r =>
  ⟨fun ⟨t, h1, h2, h3⟩ => ⟨t, (h t).mp h1, by rw [← vd_mem h]; exact h2, h3⟩, fun ⟨t, h1, h2, h3⟩ => ⟨t, (h t).mpr h1, by rw [vd_mem h]; exact h2, h3⟩⟩
theorem vd_bad {pn : Pn} {heap : List Tx} {t : Tx} (h : faus pn t ≠ []) : vd pn heap t = faus pn t := by unfold vd; rw [if_pos h]
theorem vd_of {pn : Pn} {heap : List Tx} {t : Tx} (h : faus pn t = []) (hp : par (goods pn heap) (rowT t).key ≠ none) : vd pn heap t = verd (par (goods pn heap)) (rowT t).key := by
  unfold vd; rw [if_neg (by simpa using h), if_neg hp]
theorem par_uq {G : List R4} {r : R4} (h : r ∈ G) (u : ∀ q ∈ G, q.1 = r.1 → q = r) : par G r.1 = some r.2.1 := par_some.mpr ⟨r, ⟨h, rfl, u⟩, rfl⟩
theorem par_no {G : List R4} {k : Tx} (h : ∀ q ∈ G, q.1 ≠ k) : par G k = none := par_none.mpr fun ⟨r, u⟩ => h r u.mem u.key
theorem keptS_one (pn : Pn) (t : Tx) : keptS pn [t] = if vd pn [t] t = [] then [((rowT t).key, (rowT t).d)] else [] := by
  unfold keptS keptB
  simp only [List.foldl_cons, List.foldl_nil]
  split
  · have : putKD [] (rowT t).key (rowT t).d = [((rowT t).key, (rowT t).d)] := rfl
    rw [this]
    exact canon_sto (one_sto (rowT t).rowOk)
  · exact canon_sto Sto1.nil
theorem tD_pl (l : List Tx) : Pl 1 (tD l) := Pl.tup (strs_pl l)
theorem tD_nil (l : List Tx) : eqD (tD l) (.tup []) = some (.bool (decide (l = []))) := by
  classical
  rw [eq_ok (tD_pl l) (Pl.tup (n := 0) (fun x hx => by cases hx)) (by omega)]
  congr 2
  exact decide_eq_decide.mpr (by simp [tD])
theorem tups_pl (f : Tx → List Tx) (L : List Tx) : Pl 2 (.tup (L.map fun t => tD (f t))) := Pl.tup fun x hx => by obtain ⟨t, _, rfl⟩ := List.mem_map.mp hx; exact tD_pl _
theorem Rw.par_get (r : Rw) : idxD r.d (.int 1) = some (parD r.par) := rowD_par _ _ _ _
theorem Rw.key_get (r : Rw) : idxD r.d (.int 0) = some (.str r.key) := rfl
end Dn

/-! PuL1: the laws' own is_name, amount, faults, row_of (pure). -/
namespace Dn
theorem le_ch (a b : Nat) : leD (.str [a]) (.str [b]) = some (.bool (decide (a ≤ b))) := by
  simp only [leD, ltS]
  by_cases h : b = a
  · subst h; simp
  · rw [if_neg h]
    by_cases h2 : b < a
    · simp [h2]
    · have : a ≤ b := by omega
      simp [h2, this]
/-- [sign for sign in text if not lo <= sign <= hi] == [] -/
def outB (lo hi : Nat) (l : Tx) : Bool := l.all fun c => decide (lo ≤ c) && decide (c ≤ hi)
def outF (lo hi : Nat) : D → Bool
  | .str [c] => !(decide (lo ≤ c) && decide (c ≤ hi))
  | _ => false
theorem comp_out {env : Env} {st : Sto} {i j lo hi : Nat} {l : Tx} (hi' : env[i]? = some (some (.str l))) (hj : j < env.length) :
    e2 eqD (eComp (iSeq (eVar i)) [j] (gN j) (eNot (eChain leD leD (eC (.str [lo])) (eVar j) (eC (.str [hi])))) (eVar j)) (eA dispL aNil) env st = .ok (.bool (outB lo hi l)) st := by
  have c : eComp (iSeq (eVar i)) [j] (gN j) (eNot (eChain leD leD (eC (.str [lo])) (eVar j) (eC (.str [hi])))) (eVar j) env st = .ok (.list ((l.map fun c => D.str [c]).filter (outF lo hi))) st := by
    refine comp_filter (by simp [hi', itemsOf]) fun d hd => ?_
    obtain ⟨c, _, rfl⟩ := List.mem_map.mp hd
    refine ⟨env.set j (some (.str [c])), ?_, ?_, ?_⟩
    · show (if j < (env.set j none).length then some ((env.set j none).set j (some (.str [c]))) else none) = _
      rw [if_pos (by simpa using hj), set_twice]
    · have g : (env.set j (some (D.str [c])))[j]? = some (some (.str [c])) := get_set_self hj
      have l1 := le_ch lo c
      have l2 := le_ch c hi
      by_cases h1 : lo ≤ c
      · rw [decide_eq_true h1] at l1
        simp only [ev_not, ev_chain, ev_c, ev_var, g, R.bind_ok, l1, l2, ofOpt_some, outF, h1, decide_true, Bool.true_and]
      · rw [decide_eq_false h1] at l1
        simp only [ev_not, ev_chain, ev_c, ev_var, g, R.bind_ok, l1, l2, ofOpt_some, outF, h1, decide_false, Bool.false_and]
    · have g : (env.set j (some (D.str [c])))[j]? = some (some (.str [c])) := get_set_self hj
      simp only [ev_var, g]
  have e : eqD (.list ((l.map fun c => D.str [c]).filter (outF lo hi))) (.list []) = some (.bool (outB lo hi l)) := by
    classical
    rw [eq_ok (n := 1) (Pl.list fun x hx => ?_) (Pl.list (xs := []) fun x hx => by cases hx) (by omega)]
    · congr 2
      rw [Bool.eq_iff_iff, decide_eq_true_eq]
      unfold outB
      rw [List.all_eq_true]
      constructor
      · intro h c hc
        have h : (l.map fun c => D.str [c]).filter (outF lo hi) = [] := by injection h
        have := List.filter_eq_nil_iff.mp h (.str [c]) (List.mem_map.mpr ⟨c, hc, rfl⟩)
        simpa [outF] using this
      · intro h
        congr 1
        refine List.filter_eq_nil_iff.mpr fun x hx => ?_
        obtain ⟨c, hc, rfl⟩ := List.mem_map.mp hx
        have := h c hc
        simpa [outF] using this
    · obtain ⟨c, _, rfl⟩ := List.mem_map.mp (List.mem_filter.mp hx).1
      exact Pl.str _ _
  rw [ev_e2, c]
  simp only [R.bind_ok]
  show ofOpt (eqD _ (.list [])) st = _
  rw [e]; rfl
theorem abcB_eq (c : Nat) : abcB c = (decide (97 ≤ c) && decide (c ≤ 122)) := by
  unfold abcB
  rw [← Bool.decide_and, decide_eq_decide]
  simp [abc]; omega
theorem outB_abc (l : Tx) : outB 97 122 l = l.all abcB := by
  unfold outB; congr 1; funext c; exact (abcB_eq c).symm
theorem law_is_name_eq (l : Tx) (st : Sto) : d_law_is_name_1 [.str l] st = .ok (.bool (isNameB l)) st := by
  have ic := comp_out (env := [some (.str l), none]) (st := st) (i := 0) (j := 1) (lo := 97) (hi := 122) (l := l) rfl (by simp)
  rw [outB_abc] at ic
  simp only [d_law_is_name_1, runDef, env0]
  unfold m_law_is_name_1
  generalize (e2 eqD (eComp (iSeq (eVar 0)) [1] (gN 1) (eNot (eChain leD leD (eC (.str [97])) (eVar 1) (eC (.str [122])))) (eVar 1)) (eA dispL aNil)) = Q at ic ⊢
  unfold isNameB
  by_cases h1 : 1 ≤ l.length
  · by_cases h2 : l.length ≤ 5
    · have i1 : (1 : Int) ≤ (l.length : Nat) := by omega
      have i2 : ((l.length : Nat) : Int) ≤ 5 := by omega
      simp [lenD, leD, i1, i2, h1, h2, ic]
    · have i1 : (1 : Int) ≤ (l.length : Nat) := by omega
      have i2 : ¬ ((l.length : Nat) : Int) ≤ 5 := by omega
      simp [lenD, leD, i1, i2, h1, h2]
  · have i1 : ¬ (1 : Int) ≤ (l.length : Nat) := by omega
    simp [lenD, leD, i1, h1]
theorem num_lead1 : ∀ a, a < 10 → numC (digVal [48 + a]) = [48 + a] := by decide +kernel
theorem num_lead2 : ∀ a, a < 10 → ∀ b, b < 10 → (decide (numC (digVal [48 + a, 48 + b]) = [48 + a, 48 + b]) = decide (a ≠ 0)) := by decide +kernel
theorem num_lead3 : ∀ a, a < 10 → ∀ b, b < 10 → ∀ c, c < 10 → (decide (numC (digVal [48 + a, 48 + b, 48 + c]) = [48 + a, 48 + b, 48 + c]) = decide (a ≠ 0)) := by decide +kernel
theorem dig_of {c : Nat} (h : (decide (48 ≤ c) && decide (c ≤ 57)) = true) : ∃ a, a < 10 ∧ c = 48 + a := by
  simp at h; exact ⟨c - 48, by omega, by omega⟩
theorem num_lead {w : Tx} (h1 : 1 ≤ w.length) (h2 : w.length ≤ 3) (hd : digB w = true) : numC (digVal w) = w ↔ (w.length = 1 ∨ w.head? ≠ some 48) := by
  match w, h1, h2, hd with
  | [x], _, _, hd =>
    simp only [digB, List.all_cons, List.all_nil, Bool.and_true] at hd
    obtain ⟨a, ha, rfl⟩ := dig_of hd
    simp [num_lead1 a ha]
  | [x, y], _, _, hd =>
    simp only [digB, List.all_cons, List.all_nil, Bool.and_true, Bool.and_eq_true] at hd
    obtain ⟨a, ha, rfl⟩ := dig_of (by rw [Bool.and_eq_true]; exact hd.1)
    obtain ⟨b, hb, rfl⟩ := dig_of (by rw [Bool.and_eq_true]; exact hd.2)
    have := decide_eq_decide.mp (num_lead2 a ha b hb)
    rw [this]; simp
  | [x, y, z], _, _, hd =>
    simp only [digB, List.all_cons, List.all_nil, Bool.and_true, Bool.and_eq_true] at hd
    obtain ⟨a, ha, rfl⟩ := dig_of (by rw [Bool.and_eq_true]; exact hd.1)
    obtain ⟨b, hb, rfl⟩ := dig_of (by rw [Bool.and_eq_true]; exact hd.2.1)
    obtain ⟨c, hc, rfl⟩ := dig_of (by rw [Bool.and_eq_true]; exact hd.2.2)
    have := decide_eq_decide.mp (num_lead3 a ha b hb c hc)
    rw [this]; simp
theorem law_amount_eq (w : Tx) (st : Sto) : d_law_amount [.str w] st = .ok (.int ((amtOf w).getD (-1))) st := by
  have ic := comp_out (env := [some (.str w), none, none]) (st := st) (i := 0) (j := 2) (lo := 48) (hi := 57) (l := w) rfl (by simp)
  have ob : outB 48 57 w = digB w := rfl
  rw [ob] at ic
  show (match m_law_amount [some (.str w), none, none] st with | .nx _ st1 => (R.ok D.non st1 : R D) | .rt d st1 => R.ok d st1 | .exc c st1 => R.exc c st1 | .bad => R.bad) = _
  suffices h : m_law_amount [some (.str w), none, none] st = .rt (.int ((amtOf w).getD (-1))) st by rw [h]
  unfold m_law_amount
  generalize (e2 eqD (eComp (iSeq (eVar 0)) [2] (gN 2) (eNot (eChain leD leD (eC (.str [48])) (eVar 2) (eC (.str [57])))) (eVar 2)) (eA dispL aNil)) = Q at ic ⊢
  by_cases h1 : 1 ≤ w.length
  · by_cases h2 : w.length ≤ 3
    · have i1 : (1 : Int) ≤ (w.length : Nat) := by omega
      have i2 : ((w.length : Nat) : Int) ≤ 3 := by omega
      cases hd : digB w with
      | true =>
        rw [hd] at ic
        have iv := int_small h1 h2 hd
        have nl := num_lead h1 h2 hd
        have e1 := eq_int w.length 1
        have l1 : leD (.int 1) (.int (w.length : Nat)) = some (.bool true) := by simp only [leD, i1, decide_true]
        have l2 : leD (.int (w.length : Nat)) (.int 3) = some (.bool true) := by simp only [leD, i2, decide_true]
        have ln : lenD [.str w] = some (.int (w.length : Nat)) := rfl
        obtain ⟨c, r, rfl⟩ : ∃ c r, w = c :: r := by
          cases w with
          | nil => simp at h1
          | cons c r => exact ⟨c, r, rfl⟩
        have i0 : idxD (.str (c :: r)) (.int 0) = some (.str [c]) := by simp [idxD, ixD]
        have nq := ne_str [c] [48]
        have am : amtOf (c :: r) = if (c :: r).length = 1 ∨ c ≠ 48 then some ((digVal (c :: r) : Nat) : Int) else none := by
          have : (c :: r).head? ≠ some 48 ↔ c ≠ 48 := by simp
          rw [this] at nl
          unfold amtOf
          by_cases hn : numC (digVal (c :: r)) = c :: r
          · rw [if_pos ⟨h1, h2, hd, hn⟩, if_pos (nl.mp hn)]
          · rw [if_neg (fun z => hn z.2.2.2), if_neg (fun z => hn (nl.mpr z))]
        rw [am]
        clear am nl hd ob h2 i1 i2 h1
        have hl : decide ((((c :: r).length : Nat) : Int) = 1) = decide ((c :: r).length = 1) := decide_eq_decide.mpr (by omega)
        rw [hl] at e1
        have hc : decide (([c] : Tx) ≠ [48]) = decide (c ≠ 48) := decide_eq_decide.mpr (by simp)
        rw [hc] at nq
        generalize digVal (c :: r) = dv at *
        generalize (((c :: r).length : Nat) : Int) = L at *
        generalize (c :: r).length = L' at *
        generalize D.str (c :: r) = W at *
        generalize D.str [c] = Z at *
        by_cases h1 : L' = 1
        · rw [decide_eq_true h1] at e1
          rw [if_pos (.inl h1)]
          simp [ln, l1, l2, ic, e1, iv]
        · rw [decide_eq_false h1] at e1
          by_cases h2 : c = 48
          · rw [decide_eq_false (fun z => z h2)] at nq
            rw [if_neg (by simp [h1, h2])]
            simp [ln, l1, l2, ic, e1, i0, nq, negD]
          · rw [decide_eq_true h2] at nq
            rw [if_pos (.inr h2)]
            simp [ln, l1, l2, ic, e1, i0, nq, iv]
      | false =>
        rw [hd] at ic
        rw [show amtOf w = none from if_neg (fun z => by rw [hd] at z; exact absurd z.2.2.1 (by simp))]
        simp [lenD, leD, i1, i2, ic, negD]
    · rw [show amtOf w = none from if_neg (fun z => h2 z.2.1)]
      have i1 : (1 : Int) ≤ (w.length : Nat) := by omega
      have i2 : ¬ ((w.length : Nat) : Int) ≤ 3 := by omega
      simp [lenD, leD, i1, i2, negD]
  · rw [show amtOf w = none from if_neg (fun z => h1 z.1)]
    have i1 : ¬ (1 : Int) ≤ (w.length : Nat) := by omega
    simp [lenD, leD, i1, negD]
end Dn

/-! PuL2: the laws' own faults, row_of, together (pure). -/
namespace Dn
theorem run_rt {ps n : Nat} {m : MS} {ds : List D} {st st1 : Sto} {d : D} (h : m (env0 n ds) st = .rt d st1) (hl : ds.length = ps) : runDef ps n m ds st = .ok d st1 := by
  unfold runDef; rw [if_pos hl, h]
theorem dispT_ok {xs : List D} (h : xs.length ≤ 1000) : dispT xs = some (.tup xs) := by unfold dispT; rw [if_pos (by rw [sz_eq]; omega)]
theorem dispL_ok {xs : List D} (h : xs.length ≤ 1000) : dispL xs = some (.list xs) := by unfold dispL; rw [if_pos (by rw [sz_eq]; omega)]
def emF : D → Bool
  | .str w => decide (w = [])
  | _ => false
theorem law_empty {ls : List Tx} {e0 e1 e3 e4 e5 e6 : Option D} (st : Sto) : e2 neD q_law_faults_1 (eA dispL aNil) [e0, e1, some (.list (ls.map D.str)), e3, e4, e5, e6] st = .ok (.bool (decide ([] ∈ ls))) st := by
  have c : q_law_faults_1 [e0, e1, some (.list (ls.map D.str)), e3, e4, e5, e6] st = .ok (.list ((ls.map D.str).filter emF)) st := by
    unfold q_law_faults_1
    refine comp_filter (by simp [itemsOf]) fun d hd => ?_
    obtain ⟨w, _, rfl⟩ := List.mem_map.mp hd
    have q := eq_str w []
    exact ⟨_, rfl, by simp [wipeE, q, emF], by simp [wipeE]⟩
  have e : neD (.list ((ls.map D.str).filter emF)) (.list []) = some (.bool (decide ([] ∈ ls))) := by
    classical
    rw [ne_ok (n := 1) (Pl.list fun x hx => strs_pl ls x (List.mem_filter.mp hx).1) (Pl.list (xs := []) fun x hx => by cases hx) (by omega)]
    congr 2
    refine decide_eq_decide.mpr ?_
    constructor
    · intro h
      refine Decidable.by_contra fun z => h ?_
      congr 1
      refine List.filter_eq_nil_iff.mpr fun x hx => ?_
      obtain ⟨w, hw, rfl⟩ := List.mem_map.mp hx
      intro q
      have : w = [] := by simpa [emF] using q
      exact z (this ▸ hw)
    · intro h z
      have z : (ls.map D.str).filter emF = [] := by injection z
      have := List.filter_eq_nil_iff.mp z (.str []) (List.mem_map.mpr ⟨[], h, rfl⟩)
      exact this (by simp [emF])
  rw [ev_e2, c]
  simp only [R.bind_ok]
  show ofOpt (neD _ (.list [])) st = _
  rw [e]; rfl
def nm4 (b1 b2 b3 b4 : Bool) : List Tx := (if b1 then [wKey] else []) ++ (if b2 then [wPar] else []) ++ (if b3 then [wAmt] else []) ++ (if b4 then [wTag] else [])
theorem law_zip (PD T WL : Option D) (b1 b2 b3 b4 : Bool) (st : Sto) : q_law_faults_2 [PD, T, WL, some (.list [.bool b1, .bool b2, .bool b3, .bool b4]), none, none, none] st = .ok (.list ((nm4 b1 b2 b3 b4).map D.str)) st := by
  cases b1 <;> cases b2 <;> cases b3 <;> cases b4 <;> rfl
theorem law_faults_eq {pn : Pn} (P : 0 ≤ pn.lo) (t : Tx) (ht : TxOk t) (st : Sto) : d_law_faults [pn.d, .str t] st = .ok (tD (faus pn t)) st := by
  have hs := split_ok ht
  refine run_rt ?_ rfl
  show m_law_faults [some pn.d, some (.str t), none, none, none, none, none] st = _
  have le := law_empty (ls := splitC 32 t) (e0 := some pn.d) (e1 := some (.str t)) (e3 := none) (e4 := none) (e5 := none) (e6 := none) st
  have ln : lenD [.list ((splitC 32 t).map D.str)] = some (.int (splitC 32 t).length) := by simp [lenD]
  have n4 := ne_int (splitC 32 t).length 4
  have sX : isStrD (.str t) = true := rfl
  by_cases hl : (splitC 32 t).length = 4
  · obtain ⟨k, p, a, g, e⟩ := four hl
    have nn : decide ((((splitC 32 t).length : Nat) : Int) ≠ 4) = false := decide_eq_false (by omega)
    rw [nn] at n4
    clear nn
    generalize (((splitC 32 t).length : Nat) : Int) = L at ln n4
    unfold faus
    rw [e] at hs le ln ⊢
    by_cases hm : [] ∈ [k, p, a, g]
    · rw [decide_eq_true hm] at le
      simp only []
      rw [if_pos hm]
      unfold m_law_faults
      generalize (e2 neD q_law_faults_1 (eA dispL aNil)) = Q at le ⊢
      generalize pn.d = PD at *
      generalize D.list ([k, p, a, g].map D.str) = WL at *
      generalize D.str t = T at *
      simp [sX, hs, ln, n4, le, dispT, tD, wCount]
    · rw [decide_eq_false hm] at le
      simp only []
      rw [if_neg hm]
      have n1 := law_is_name_eq k st
      have n2 := law_is_name_eq p st
      have am := law_amount_eq a st
      have n3 := ne_str p [45]
      have tg := nin_strsT g pn.tags
      have i0 : idxD pn.d (.int 0) = some (.int pn.lo) := rfl
      have i1 : idxD pn.d (.int 1) = some (.int pn.hi) := rfl
      have i2 : idxD pn.d (.int 2) = some (.tup (pn.tags.map D.str)) := rfl
      have w0 : idxD (.list ([k, p, a, g].map D.str)) (.int 0) = some (.str k) := rfl
      have w1 : idxD (.list ([k, p, a, g].map D.str)) (.int 1) = some (.str p) := rfl
      have w2 : idxD (.list ([k, p, a, g].map D.str)) (.int 2) = some (.str a) := rfl
      have w3 : idxD (.list ([k, p, a, g].map D.str)) (.int 3) = some (.str g) := rfl
      have zz := law_zip (some pn.d) (some (.str t)) (some (.list ([k, p, a, g].map D.str))) (!isNameB k) (decide (p ≠ [45]) && !isNameB p) (!amtOk pn a) (decide (g ∉ pn.tags)) st
      have fin : nm4 (!isNameB k) (decide (p ≠ [45]) && !isNameB p) (!amtOk pn a) (decide (g ∉ pn.tags)) = fau4 pn k p a g := by
        unfold nm4 fau4
        congr 1
        · congr 1
          · congr 1
            · cases isNameB k <;> rfl
            · by_cases h : p = [45] <;> cases hn : isNameB p <;> simp [h]
          · cases amtOk pn a <;> rfl
        · by_cases h : g ∈ pn.tags <;> simp [h]
      rw [fin] at zz
      generalize D.list ([k, p, a, g].map D.str) = WL at *
      have ch : ∀ env, eChain leD leD (eC (.int pn.lo)) (eC (.int ((amtOf a).getD (-1)))) (eC (.int pn.hi)) env st = .ok (.bool (amtOk pn a)) st := fun env => by
        unfold amtOk
        cases amtOf a with
        | none =>
          have : ¬ pn.lo ≤ -1 := by omega
          simp [leD, this]
        | some n =>
          by_cases h1 : pn.lo ≤ n
          · simp [leD, h1]
          · simp [leD, h1]
      have ch0 := ch []
      simp only [ev_chain, ev_c, R.bind_ok] at ch0
      generalize (amtOf a).getD (-1) = av at am ch0
      generalize amtOk pn a = ab at ch0 zz
      have tp : tupleD [.list ((fau4 pn k p a g).map D.str)] = some (tD (fau4 pn k p a g)) := rfl
      have e2' : ∀ env, env[2]? = some (some WL) → eAnd (e2 neD (e2 idxD (eVar 2) (eC (.int 1))) (eC (.str [45]))) (eNot (eCall d_law_is_name_1 (aCons (e2 idxD (eVar 2) (eC (.int 1))) aNil))) env st = .ok (.bool (decide (p ≠ [45]) && !isNameB p)) st := fun env he => by
        by_cases h : p = [45]
        · rw [decide_eq_false (by simpa using h)] at n3 ⊢
          simp [he, w1, n3]
        · rw [decide_eq_true h] at n3 ⊢
          simp [he, w1, n3, n2]
      have d2 : dispL [.bool (!isNameB k), .bool (decide (p ≠ [45]) && !isNameB p)] = some (.list [.bool (!isNameB k), .bool (decide (p ≠ [45]) && !isNameB p)]) := rfl
      have a1 : ∀ x, appendD (.list [.bool (!isNameB k), .bool (decide (p ≠ [45]) && !isNameB p)]) [x] = some (.list [.bool (!isNameB k), .bool (decide (p ≠ [45]) && !isNameB p), x]) := fun _ => rfl
      have a2 : ∀ x y, appendD (.list [.bool (!isNameB k), .bool (decide (p ≠ [45]) && !isNameB p), x]) [y] = some (.list [.bool (!isNameB k), .bool (decide (p ≠ [45]) && !isNameB p), x, y]) := fun _ _ => rfl
      have lX : ∀ xs, isListD (.list xs) = true := fun _ => rfl
      unfold m_law_faults
      generalize (e2 neD q_law_faults_1 (eA dispL aNil)) = Q at le ⊢
      generalize hE : eAnd (e2 neD (e2 idxD (eVar 2) (eC (.int 1))) (eC (.str [45]))) (eNot (eCall d_law_is_name_1 (aCons (e2 idxD (eVar 2) (eC (.int 1))) aNil))) = Q2 at e2' ⊢
      have e2'' := e2' [some pn.d, some (.str t), some WL, none, none, none, none] rfl
      clear e2' ch hE n3 fin hl e hm
      generalize pn.d = PD at *
      generalize D.str t = T at *
      generalize D.tup (pn.tags.map D.str) = TT at *
      generalize D.list ((fau4 pn k p a g).map D.str) = FL at *
      generalize tD (fau4 pn k p a g) = FT at *
      generalize (decide (p ≠ [45]) && !isNameB p) = bb at *
      generalize isNameB k = bk at *
      generalize decide (g ∉ pn.tags) = bg at *
      generalize pn.lo = lo at *
      generalize pn.hi = hi at *
      simp only [ev_seq, ev_asg, ev_sif, ev_ret, ev_or, ev_not, ev_eM, ev_c, ev_eA, ev_cons, ev_nil, ev_var, ev_e2, ev_gN, ev_call, ev_upd, ev_chain, ev_skip, sX, hs, ln, n4, le, w0, w2, w3, n1, am, i0, i1, i2, tg, e2'', d2, a1, a2, lX, ch0, zz, tp, List.getElem?_cons_zero, R.bind_ok, ofOpt_some, List.length_cons, List.length_nil, Nat.reduceAdd, Nat.reduceLT, if_true, List.set_cons_succ, List.set_cons_zero, List.getElem?_cons_succ]
  · have nn : decide ((((splitC 32 t).length : Nat) : Int) ≠ 4) = true := decide_eq_true (by omega)
    rw [nn] at n4
    have ef : faus pn t = [wCount] := by
      unfold faus
      split
      · rename_i e
        rw [e] at hl
        exact absurd rfl hl
      · rfl
    rw [ef]
    unfold m_law_faults
    generalize (e2 neD q_law_faults_1 (eA dispL aNil)) = Q at le ⊢
    generalize pn.d = PD at *
    generalize D.list ((splitC 32 t).map D.str) = WL at *
    generalize D.str t = T at *
    simp [sX, hs, ln, n4, dispT, tD, wCount]
theorem law_row_of_ok {pn : Pn} {t : Tx} (ht : TxOk t) (h : faus pn t = []) (st : Sto) : d_law_row_of [.str t] st = .ok (rowT t).d st := by
  obtain ⟨k, p, a, g, n, e, er, h1, h2, h3, h4, h5, h6⟩ := (good_iff.mp h).row
  have hs := split_ok ht
  rw [e] at hs
  have iv := amt_int h3
  have q := eq_str p [45]
  rw [er]
  refine run_rt ?_ rfl
  show m_law_row_of [some (.str t), none] st = _
  have sX : isStrD (.str t) = true := rfl
  have w1 : idxD (.list ([k, p, a, g].map D.str)) (.int 1) = some (.str p) := rfl
  have lX : ∀ xs, isListD (.list xs) = true := fun _ => rfl
  have pt : putD (.list ([k, p, a, g].map D.str)) [.non, .int 1] = some (.list [.str k, .non, .str a, .str g]) := rfl
  have v0 : idxD (.list [.str k, .non, .str a, .str g]) (.int 0) = some (.str k) := rfl
  have v1 : idxD (.list [.str k, .non, .str a, .str g]) (.int 1) = some .non := rfl
  have v2 : idxD (.list [.str k, .non, .str a, .str g]) (.int 2) = some (.str a) := rfl
  have v3 : idxD (.list [.str k, .non, .str a, .str g]) (.int 3) = some (.str g) := rfl
  have u0 : idxD (.list ([k, p, a, g].map D.str)) (.int 0) = some (.str k) := rfl
  have u2 : idxD (.list ([k, p, a, g].map D.str)) (.int 2) = some (.str a) := rfl
  have u3 : idxD (.list ([k, p, a, g].map D.str)) (.int 3) = some (.str g) := rfl
  have d4 : ∀ w x y z : D, dispT [w, x, y, z] = some (.tup [w, x, y, z]) := fun _ _ _ _ => rfl
  unfold m_law_row_of
  by_cases hp : p = [45]
  · rw [decide_eq_true hp] at q
    rw [if_pos hp]
    have l1 := lX ([k, p, a, g].map D.str)
    generalize D.list ([k, p, a, g].map D.str) = WL at *
    generalize D.list [.str k, .non, .str a, .str g] = VL at *
    generalize D.str t = T at *
    simp [sX, hs, w1, q, l1, pt, v0, v1, v2, v3, iv, d4, Rw.d, rowD]
  · rw [decide_eq_false hp] at q
    rw [if_neg hp]
    generalize D.list ([k, p, a, g].map D.str) = WL at *
    generalize D.str t = T at *
    simp [sX, hs, w1, q, u0, u2, u3, iv, d4, Rw.d, rowD]
/-! ### the way up, seen from the law -/
section
variable {g : Tx → Option Tx} {k : Tx}
theorem ups_mul {n : Nat} (h : ups g k n = some k) : ∀ q, ups g k (n * q) = some k
  | 0 => rfl
  | q + 1 => by rw [Nat.mul_succ, ups_add k k (n * q) n (ups_mul h q)]; exact h
theorem ups_end {n : Nat} {x : Tx} (h : ups g k n = some x) (hx : nxt g x = none) {m : Nat} (hm : n < m) : ups g k m = none := by
  refine ups_none (n := n + 1) ?_ hm
  show (ups g k n).bind (nxt g) = none
  rw [h]; exact hx
theorem ring_not_rooted (h : Ring g k) : ¬ Rooted g k := fun ⟨m, x, h1, h2⟩ => by
  obtain ⟨n, hn, e⟩ := h
  have := ups_mul e (m + 1)
  rw [ups_end h1 (nxt_none.mpr (.inr h2)) (show m < n * (m + 1) from Nat.lt_of_lt_of_le (Nat.lt_succ_self m) (Nat.le_mul_of_pos_left _ hn))] at this
  cases this
theorem verd_ring (h : Ring g k) : verd g k = [wRing] := by
  unfold verd; rw [if_neg (ring_not_rooted h), if_pos h]
theorem verd_gone {i : Nat} {x : Tx} (h : ups g k i = some x) (hx : g x = none) : verd g k = [wLost] := by
  have en := fun {m} => ups_end (m := m) h (nxt_none.mpr (.inl hx))
  unfold verd
  rw [if_neg, if_neg]
  · rintro ⟨n, hn, e⟩
    have := ups_mul e (i + 1)
    rw [en (show i < n * (i + 1) from Nat.lt_of_lt_of_le (Nat.lt_succ_self i) (Nat.le_mul_of_pos_left _ hn))] at this
    cases this
  · rintro ⟨n, y, h1, h2⟩
    rcases Nat.lt_trichotomy n i with q | q | q
    · rw [ups_end h1 (nxt_none.mpr (.inr h2)) q] at h; cases h
    · subst q; rw [h] at h1; cases h1; rw [hx] at h2; cases h2
    · rw [en q] at h1; cases h1
theorem verd_long {ks : List Tx} (hk : ∀ x, g x ≠ none → x ∈ ks) {x : Tx} (h : ups g k (ks.length + 1) = some x) (hx : g x ≠ none) (hn : ∀ j, 1 ≤ j → j ≤ ks.length + 1 → ups g k j ≠ some k) : verd g k = [wLost] := by
  -- a list of keys up without repeats is short
  have short : ∀ n, (∀ j, j < n → ∃ y, ups g k j = some y ∧ g y ≠ none) → (∀ a b, a < b → b < n → ups g k a ≠ ups g k b) → n ≤ ks.length := fun n h1 h2 => by
    have nd : ((List.range n).map fun j => (ups g k j).getD []).Nodup := by
      refine List.pairwise_map.mpr ?_
      refine List.Pairwise.imp_of_mem (R := fun a b => a < b) (fun {a b} ha hb hab z => ?_) (List.pairwise_lt_range (n := n))
      have ha := List.mem_range.mp ha
      have hb := List.mem_range.mp hb
      obtain ⟨y, e1, _⟩ := h1 a ha
      obtain ⟨y', e2, _⟩ := h1 b hb
      rw [e1, e2] at z
      exact h2 a b hab hb (by rw [e1, e2]; exact congrArg some z)
    have := List.Nodup.length_le_of_subset nd (l₂ := ks) fun y hy => by
      obtain ⟨j, hj, rfl⟩ := List.mem_map.mp hy
      obtain ⟨z, e, hz⟩ := h1 j (List.mem_range.mp hj)
      rw [e]; exact hk z hz
    simpa using this
  have mid : ∀ n y, ups g k n = some y → ∀ j, j < n → ∃ z, ups g k j = some z ∧ g z ≠ none := fun n y e j hj => by
    cases q : ups g k j with
    | none => rw [ups_none q (Nat.le_of_lt hj)] at e; cases e
    | some z =>
      refine ⟨z, rfl, fun hz => ?_⟩
      rw [ups_end q (nxt_none.mpr (.inl hz)) hj] at e; cases e
  unfold verd
  rw [if_neg, if_neg]
  · -- no ring
    intro hr
    obtain ⟨n, hn1, e, hmin⟩ : ∃ n, 1 ≤ n ∧ ups g k n = some k ∧ ∀ m, 1 ≤ m → m < n → ups g k m ≠ some k := by
      obtain ⟨n, hn1, e⟩ := hr
      have : ∀ N n, n ≤ N → 1 ≤ n → ups g k n = some k → ∃ n, 1 ≤ n ∧ ups g k n = some k ∧ ∀ m, 1 ≤ m → m < n → ups g k m ≠ some k := by
        intro N
        induction N with
        | zero => intro n h1 h2; omega
        | succ N ih =>
          intro n h1 h2 h3
          by_cases q : ∃ m, 1 ≤ m ∧ m < n ∧ ups g k m = some k
          · obtain ⟨m, q1, q2, q3⟩ := q
            exact ih m (by omega) q1 q3
          · exact ⟨n, h2, h3, fun m q1 q2 q3 => q ⟨m, q1, q2, q3⟩⟩
      exact this n n (Nat.le_refl _) hn1 e
    have l : n ≤ ks.length := short n (mid n k e) fun a b hab hb z => by
      have h1 : ups g k (n - (b - a)) = some k := by
        obtain ⟨y, ey, _⟩ := mid n k e b hb
        have e1 := ups_add k y b (n - b) ey
        rw [show b + (n - b) = n by omega, e] at e1
        have e2 := ups_add k y a (n - b) (by rw [z]; exact ey)
        rw [← e1] at e2
        rw [show n - (b - a) = a + (n - b) by omega]; exact e2
      exact hmin (n - (b - a)) (by omega) (by omega) h1
    exact hn n hn1 (by omega) e
  · -- not rooted
    rintro ⟨n, y, e, hy⟩
    have hn2 : ks.length + 1 ≤ n := by
      refine Decidable.by_contra fun q => ?_
      rw [ups_end e (nxt_none.mpr (.inr hy)) (show n < ks.length + 1 by omega)] at h; cases h
    have hyn : g y ≠ none := by rw [hy]; simp
    have l : n + 1 ≤ ks.length := short (n + 1) (fun j hj => by
        by_cases q : j = n
        · subst q; exact ⟨y, e, hyn⟩
        · exact mid n y e j (by omega)) fun a b hab hb z => by
      by_cases q : b = n
      · subst q
        rw [ups_end (by rw [z]; exact e) (nxt_none.mpr (.inr hy)) hab] at e; cases e
      · obtain ⟨y', ey, _⟩ := mid n y e b (by omega)
        have e1 := ups_add k y' b (n - b) ey
        rw [show b + (n - b) = n by omega, e] at e1
        have e2 := ups_add k y' a (n - b) (by rw [z]; exact ey)
        rw [← e1] at e2
        rw [ups_end e2 (nxt_none.mpr (.inr hy)) (show a + (n - b) < n by omega)] at e; cases e
    omega
end
end Dn

/-! PuL3: the laws' own together, judged, kept (pure). -/
namespace Dn
theorem forL_nx {tg : TGt} {p : MS} {d : D} {ds : List D} {env env1 env2 : Env} {st st2 : Sto} (h : tg d env = some env1) (hb : p env1 st = .nx env2 st2) : forL tg p (d :: ds) env st = forL tg p ds env2 st2 := by
  conv => lhs; unfold forL
  simp only [h, hb]
theorem forL_rt {tg : TGt} {p : MS} {d r : D} {ds : List D} {env env1 : Env} {st st2 : Sto} (h : tg d env = some env1) (hb : p env1 st = .rt r st2) : forL tg p (d :: ds) env st = .rt r st2 := by
  conv => lhs; unfold forL
  simp only [h, hb]
/-- an empty one is told by None -/
def parN (p : Tx) : D := if p = [] then .non else .str p
structure ParN (g : Tx → Option Tx) (kvs : KV) : Prop where
  look : ∀ k, lookD kvs k = (g k).map parN
  len : kvs.length < 62
section
variable {g : Tx → Option Tx} {kvs : KV} {k : Tx} (P : ParN g kvs)
include P
theorem law_tg_loop (st : Sto) : ∀ (ds : List D) (i : Nat) (x h : Tx) (x3 : Option D), ups g k i = some x → g x = some h → (∀ j, 1 ≤ j → j ≤ i → ups g k j ≠ some k) →
    (forL (gN 3) b_law_together_1 ds [some (.dict kvs), some (.str k), some (parN h), x3] st = .rt (tD (verd g k)) st) ∨
    (∃ x' h' y3, forL (gN 3) b_law_together_1 ds [some (.dict kvs), some (.str k), some (parN h), x3] st = .nx [some (.dict kvs), some (.str k), some (parN h'), y3] st ∧ ups g k (i + ds.length) = some x' ∧ g x' = some h' ∧ ∀ j, 1 ≤ j → j ≤ i + ds.length → ups g k j ≠ some k) := by
  intro ds
  induction ds with
  | nil => intro i x h x3 h1 h2 h3; exact .inr ⟨x, h, x3, rfl, h1, h2, h3⟩
  | cons d ds ih =>
    intro i x h x3 h1 h2 h3
    have tg : gN 3 d [some (.dict kvs), some (.str k), some (parN h), x3] = some [some (.dict kvs), some (.str k), some (parN h), some d] := rfl
    have lk := P.look h
    by_cases hh : h = []
    · left
      subst hh
      have v : verd g k = [] := verd_root ⟨i, x, h1, h2⟩
      rw [v]
      have e : b_law_together_1 [some (.dict kvs), some (.str k), some (parN []), some d] st = .rt (tD []) st := by
        have i1 : isN2 (parN []) .non = some (.bool true) := rfl
        generalize parN [] = H at *
        generalize D.dict kvs = K at *
        unfold b_law_together_1
        simp [i1, dispT, tD]
      exact forL_rt tg e
    · have pn : parN h = .str h := by unfold parN; rw [if_neg hh]
      have nx : nxt g x = some h := nxt_some.mpr ⟨h2, hh⟩
      have up : ups g k (i + 1) = some h := by
        show (ups g k i).bind (nxt g) = _
        rw [h1]; exact nx
      rw [pn] at tg ⊢
      have i1 : isN2 (.str h) .non = some (.bool false) := rfl
      have q := eq_str h k
      have nn : ninD (.str h) (.dict kvs) = some (.bool (decide (g h = none))) := by
        simp only [ninD, inD, lk]
        cases g h <;> rfl
      by_cases hk : h = k
      · left
        have v : verd g k = [wRing] := verd_ring ⟨i + 1, by omega, by rw [up, hk]⟩
        rw [v]
        rw [decide_eq_true hk] at q
        have e : b_law_together_1 [some (.dict kvs), some (.str k), some (.str h), some d] st = .rt (tD [wRing]) st := by
          generalize D.dict kvs = K at *
          unfold b_law_together_1
          simp [i1, q, dispT, tD, wRing]
        exact forL_rt tg e
      · rw [decide_eq_false hk] at q
        by_cases hg : g h = none
        · left
          rw [verd_gone up hg]
          rw [decide_eq_true hg] at nn
          have e : b_law_together_1 [some (.dict kvs), some (.str k), some (.str h), some d] st = .rt (tD [wLost]) st := by
            generalize D.dict kvs = K at *
            unfold b_law_together_1
            simp [i1, q, nn, dispT, tD, wLost]
          exact forL_rt tg e
        · rw [decide_eq_false hg] at nn
          obtain ⟨h4, e4⟩ : ∃ h4, g h = some h4 := by
            cases e : g h with
            | none => exact absurd e hg
            | some y => exact ⟨y, rfl⟩
          have ix : idxD (.dict kvs) (.str h) = some (parN h4) := by
            show lookD kvs h = _
            rw [lk, e4]; rfl
          have e : b_law_together_1 [some (.dict kvs), some (.str k), some (.str h), some d] st = .nx [some (.dict kvs), some (.str k), some (parN h4), some d] st := by
            generalize parN h4 = H4 at *
            generalize D.dict kvs = K at *
            unfold b_law_together_1
            simp [i1, q, nn, ix]
          rw [forL_nx tg e]
          have := ih (i + 1) h h4 (some d) up e4 fun j j1 j2 => by
            by_cases z : j = i + 1
            · rw [z, up]; simpa using hk
            · exact h3 j j1 (by omega)
          rw [List.length_cons, show i + (ds.length + 1) = i + 1 + ds.length by omega]
          exact this
theorem law_together_ok (st : Sto) : d_law_together [.dict kvs, .str k] st = .ok (tD (if g k = none then [wTwice] else verd g k)) st := by
  have lk := P.look k
  have pl := P.len
  refine run_rt ?_ rfl
  show m_law_together [some (.dict kvs), some (.str k), none, none] st = _
  have nn : ninD (.str k) (.dict kvs) = some (.bool (decide (g k = none))) := by
    simp only [ninD, inD, lk]
    cases g k <;> rfl
  by_cases hg : g k = none
  · rw [if_pos hg]
    rw [decide_eq_true hg] at nn
    generalize D.dict kvs = K at *
    unfold m_law_together
    simp [nn, dispT, tD, wTwice]
  · rw [if_neg hg]
    rw [decide_eq_false hg] at nn
    obtain ⟨h, e⟩ : ∃ h4, g k = some h4 := by
      cases e : g k with
      | none => exact absurd e hg
      | some y => exact ⟨y, rfl⟩
    have ix : idxD (.dict kvs) (.str k) = some (parN h) := by
      show lookD kvs k = _
      rw [lk, e]; rfl
    have ln : lenD [.dict kvs] = some (.int kvs.length) := rfl
    have ad : addD (.int (kvs.length : Nat)) (.int 1) = some (.int ((kvs.length : Nat) + 1 : Int)) := rfl
    have rg := range_ok (n := ((kvs.length : Nat) + 1 : Int)) (by omega) (by omega)
    have tn : ((kvs.length : Nat) + 1 : Int).toNat = kvs.length + 1 := by omega
    rw [tn] at rg
    have L := law_tg_loop P (k := k) st ((List.range (kvs.length + 1)).map fun (k : Nat) => D.int (k : Int)) 0 k h none rfl e (fun j j1 j2 => by omega)
    have dl : ((List.range (kvs.length + 1)).map fun (k : Nat) => D.int (k : Int)).length = kvs.length + 1 := by simp
    rw [dl] at L
    have wl : dispT [.str [108, 111, 115, 116]] = some (tD [wLost]) := rfl
    rcases L with L | ⟨x', h', y3, L, u1, u2, u3⟩
    · generalize (List.range (kvs.length + 1)).map (fun (k : Nat) => D.int (k : Int)) = RL at *
      generalize parN h = PH at *
      generalize D.dict kvs = K at *
      generalize tD (verd g k) = VV at *
      unfold m_law_together
      simp [nn, ix, ln, ad, rg, L]
    · rw [Nat.zero_add] at u1 u3
      have v : verd g k = [wLost] := by
        have ks : (kvs.map (·.1)).length = kvs.length := by simp
        refine verd_long (ks := kvs.map (·.1)) (fun z hz => ?_) (x := x') (by rw [ks]; exact u1) (by rw [u2]; simp) (fun j j1 j2 => u3 j j1 (by rw [ks] at j2; exact j2))
        refine Decidable.by_contra fun n => ?_
        have := P.look z
        rw [lookD_none.mpr n] at this
        cases e : g z with
        | none => exact hz e
        | some y => rw [e] at this; cases this
      rw [v]
      generalize (List.range (kvs.length + 1)).map (fun (k : Nat) => D.int (k : Int)) = RL at *
      generalize parN h = PH at *
      generalize parN h' = PH' at *
      generalize D.dict kvs = K at *
      generalize tD [wLost] = VV at *
      unfold m_law_together
      simp [nn, ix, ln, ad, rg, L, wl]
end
/-! ### the rows, each once, as they come -/
def rwsF (pn : Pn) (acc : List Rw) (t : Tx) : List Rw := if faus pn t = [] ∧ rowT t ∉ acc then acc ++ [rowT t] else acc
def rws (pn : Pn) (heap : List Tx) : List Rw := heap.foldl (rwsF pn) []
structure Rws (pn : Pn) (L : List Tx) (acc : List Rw) : Prop where
  nd : acc.Nodup
  mem : ∀ r, r ∈ acc ↔ ∃ t ∈ L, faus pn t = [] ∧ rowT t = r
  len : acc.length ≤ L.length
theorem rws_step {pn : Pn} {L : List Tx} {acc : List Rw} (h : Rws pn L acc) (t : Tx) : Rws pn (L ++ [t]) (rwsF pn acc t) := by
  unfold rwsF
  by_cases c : faus pn t = [] ∧ rowT t ∉ acc
  · rw [if_pos c]
    refine ⟨List.nodup_append.mpr ⟨h.nd, by simp, fun a ha b hb z => ?_⟩, fun r => ?_, by have := h.len; simp; omega⟩
    · rw [List.mem_singleton.mp hb] at z; exact c.2 (z ▸ ha)
    · rw [List.mem_append, h.mem]
      constructor
      · rintro (⟨u, hu, h1, h2⟩ | q)
        · exact ⟨u, List.mem_append_left _ hu, h1, h2⟩
        · exact ⟨t, by simp, c.1, (List.mem_singleton.mp q).symm⟩
      · rintro ⟨u, hu, h1, h2⟩
        rcases List.mem_append.mp hu with q | q
        · exact .inl ⟨u, q, h1, h2⟩
        · rw [List.mem_singleton.mp q] at h2; exact .inr (by simp [h2])
  · rw [if_neg c]
    refine ⟨h.nd, fun r => ?_, by have := h.len; simp; omega⟩
    rw [h.mem]
    constructor
    · rintro ⟨u, hu, h1, h2⟩; exact ⟨u, List.mem_append_left _ hu, h1, h2⟩
    · rintro ⟨u, hu, h1, h2⟩
      rcases List.mem_append.mp hu with q | q
      · exact ⟨u, q, h1, h2⟩
      · have q := List.mem_singleton.mp q
        subst q
        have m : rowT u ∈ acc := Decidable.by_contra fun z => c ⟨h1, z⟩
        rw [h2] at m
        exact (h.mem r).mp m
theorem rws_go {pn : Pn} : ∀ (L M : List Tx) (acc : List Rw), Rws pn M acc → Rws pn (M ++ L) (L.foldl (rwsF pn) acc)
  | [], M, acc, h => by rw [List.append_nil]; exact h
  | t :: L, M, acc, h => by
    have := rws_go L (M ++ [t]) _ (rws_step h t)
    rwa [List.append_assoc] at this
theorem rws_ok (pn : Pn) (heap : List Tx) : Rws pn heap (rws pn heap) := by
  have := rws_go (pn := pn) heap [] [] ⟨List.nodup_nil, fun r => by simp, by simp⟩
  exact this
def parKN (Rs : List R4) : KV := (Rs.filter fun r => decide ((Rs.map (·.1)).count r.1 = 1)).map fun r => (r.1, parN r.2.1)
theorem parKN_keys (Rs : List R4) : (parKN Rs).map (·.1) = (parK Rs).map (·.1) := by
  unfold parKN parK; rw [List.map_map, List.map_map]; rfl
theorem parN_inj {p q : Tx} (h : parN p = parN q) : p = q := by
  unfold parN at h
  by_cases hp : p = []
  · rw [if_pos hp] at h
    by_cases hq : q = []
    · rw [hp, hq]
    · rw [if_neg hq] at h; cases h
  · rw [if_neg hp] at h
    by_cases hq : q = []
    · rw [if_pos hq] at h; cases h
    · rw [if_neg hq] at h; cases h; rfl
theorem parKN_look {G Rs : List R4} (nd : Rs.Nodup) (mem : ∀ r, r ∈ Rs ↔ r ∈ G) (k : Tx) : lookD (parKN Rs) k = (par G k).map parN := by
  have key : ∀ p, lookD (parKN Rs) k = some (parN p) ↔ par G k = some p := fun p => by
    rw [lookD_iff (by rw [parKN_keys]; exact parK_nd _), par_some]
    unfold parKN
    rw [List.mem_map]
    constructor
    · rintro ⟨r, hr, e⟩
      obtain ⟨h1, h2⟩ := List.mem_filter.mp hr
      have e1 : r.1 = k := congrArg Prod.fst e
      have e2 : r.2.1 = p := parN_inj (congrArg Prod.snd e)
      subst e1
      have u := (count_one nd h1).mp (of_decide_eq_true h2)
      exact ⟨r, ⟨(mem r).mp h1, rfl, fun q hq => u q ((mem q).mpr hq)⟩, e2⟩
    · rintro ⟨r, u, rfl⟩
      have hr := (mem r).mpr u.mem
      refine ⟨r, List.mem_filter.mpr ⟨hr, decide_eq_true ((count_one nd hr).mpr fun q hq e => u.one q ((mem q).mp hq) (e.trans u.key))⟩, ?_⟩
      rw [u.key]
  cases e : par G k with
  | some p => exact (key p).mpr e
  | none =>
    cases e2 : lookD (parKN Rs) k with
    | none => rfl
    | some d =>
      have := lookD_mem e2
      unfold parKN at this
      obtain ⟨r, _, er⟩ := List.mem_map.mp this
      have e3 : d = parN r.2.1 := (congrArg Prod.snd er).symm
      rw [e3] at e2
      rw [(key _).mp e2] at e
      cases e
theorem parN_d {r : Rw} (h : ∀ p, r.par = some p → p ≠ []) : parN (r.par.getD []) = parD r.par := by
  cases e : r.par with
  | none => rfl
  | some p => show (if p = [] then _ else _) = _; rw [if_neg (h p e)]; rfl
theorem rws_par {pn : Pn} {heap : List Tx} {r : Rw} (h : r ∈ rws pn heap) : ∀ p, r.par = some p → p ≠ [] := by
  obtain ⟨t, _, f, rfl⟩ := ((rws_ok pn heap).mem r).mp h
  exact fun p hp => (good_par f p hp).1
theorem rws4_nd (pn : Pn) (heap : List Tx) : ((rws pn heap).map Rw.k4).Nodup := by
  refine List.pairwise_map.mpr ?_
  refine List.Pairwise.imp_of_mem (fun {a b} ha hb hab z => ?_) (rws_ok pn heap).nd
  exact hab (k4_inj (rws_par ha) (rws_par hb) z)
theorem rws4_mem (pn : Pn) (heap : List Tx) : ∀ r, r ∈ (rws pn heap).map Rw.k4 ↔ r ∈ goods pn heap := fun r => by
  rw [mem_goods, List.mem_map]
  constructor
  · rintro ⟨q, hq, rfl⟩
    obtain ⟨t, ht, f, rfl⟩ := ((rws_ok pn heap).mem q).mp hq
    exact ⟨t, ht, f, rfl⟩
  · rintro ⟨t, ht, f, rfl⟩
    exact ⟨rowT t, ((rws_ok pn heap).mem _).mpr ⟨t, ht, f, rfl⟩, rfl⟩
theorem parN_ok {pn : Pn} {heap : List Tx} (hh : HpOk heap) : ParN (par (goods pn heap)) (parKN ((rws pn heap).map Rw.k4)) where
  look := parKN_look (rws4_nd pn heap) (rws4_mem pn heap)
  len := by
    have h1 : (parKN ((rws pn heap).map Rw.k4)).length ≤ ((rws pn heap).map Rw.k4).length := by
      unfold parKN; rw [List.length_map]; exact List.length_filter_le _ _
    have h2 := (rws_ok pn heap).len
    have h3 := hh.len
    rw [List.length_map] at h1
    omega
end Dn

/-! PuL4: the laws' own judged, kept (pure). -/
namespace Dn
theorem Rw.d_inj {r q : Rw} (h : r.d = q.d) : r = q := by
  obtain ⟨k, p, a, g⟩ := r
  obtain ⟨k', p', a', g'⟩ := q
  cases p <;> cases p' <;> simp [Rw.d, rowD] at h ⊢ <;> first | exact h | exact h.elim | skip
theorem Rw.d_mem {r : Rw} {l : List Rw} : r.d ∈ l.map Rw.d ↔ r ∈ l := by
  rw [List.mem_map]
  exact ⟨fun ⟨q, hq, e⟩ => Rw.d_inj e ▸ hq, fun h => ⟨r, h, rfl⟩⟩
def pfN (ks : List Tx) : D → Option D
  | .tup [.str k, p, _, _] => if ks.count k = 1 then some (.tup [.str k, p]) else none
  | _ => none
theorem law_judged_ok {pn : Pn} (P0 : 0 ≤ pn.lo) {heap : List Tx} (hh : HpOk heap) (st : Sto) : d_law_judged [pn.d, hD heap] st = .ok (.tup (heap.map fun t => tD (vd pn heap t))) st := by
  have P := parN_ok (pn := pn) hh
  have hl := hh.len
  have e0 : dispT [] = some (.tup []) := rfl
  -- the rows
  have loop1 : ∀ (L : List Tx) (acc : List Rw) (x3 : Option D), (∀ t ∈ L, t ∈ heap) → acc.length + L.length < 100 → ∃ y3,
      forL (gN 3) b_law_judged_1 (L.map D.str) [some pn.d, some (hD heap), some (.list (acc.map Rw.d)), x3, none, none, none, none, none] st = .nx [some pn.d, some (hD heap), some (.list ((L.foldl (rwsF pn) acc).map Rw.d)), y3, none, none, none, none, none] st := by
    intro L
    induction L with
    | nil => intro acc x3 _ _; exact ⟨x3, rfl⟩
    | cons t L ih =>
      intro acc x3 hm hal
      rw [List.length_cons] at hal
      have tx := hh.tx t (hm t List.mem_cons_self)
      have fe := law_faults_eq P0 t tx st
      have q0 := tD_nil (faus pn t)
      have step : b_law_judged_1 [some pn.d, some (hD heap), some (.list (acc.map Rw.d)), some (.str t), none, none, none, none, none] st = .nx [some pn.d, some (hD heap), some (.list ((rwsF pn acc t).map Rw.d)), some (.str t), none, none, none, none, none] st := by
        unfold rwsF
        by_cases h : faus pn t = []
        · have ro := law_row_of_ok tx h st
          rw [decide_eq_true h] at q0
          have nn : ninD (rowT t).d (.list (acc.map Rw.d)) = some (.bool (decide (rowT t ∉ acc))) := by
            classical
            rw [ninL_ok (n := 1) (rowT t).rowOk.pl (fun y hy => by obtain ⟨q, _, rfl⟩ := List.mem_map.mp hy; exact q.rowOk.pl) (by omega)]
            congr 2
            exact decide_eq_decide.mpr (not_congr Rw.d_mem)
          have ap : appendD (.list (acc.map Rw.d)) [(rowT t).d] = some (.list ((acc ++ [rowT t]).map Rw.d)) := by
            simp only [appendD]; rw [if_pos (by rw [sz_eq, List.length_map]; omega), List.map_append]; rfl
          have lX : isListD (.list (acc.map Rw.d)) = true := rfl
          by_cases hm : rowT t ∈ acc
          · rw [decide_eq_false (by simpa using hm)] at nn
            rw [if_neg (by simp [hm])]
            generalize D.list (acc.map Rw.d) = AL at *
            generalize tD (faus pn t) = FT at *
            generalize pn.d = PD at *
            generalize hD heap = HD at *
            generalize (rowT t).d = RD at *
            unfold b_law_judged_1
            simp [fe, e0, q0, ro, nn]
          · rw [decide_eq_true hm] at nn
            rw [if_pos ⟨h, hm⟩]
            generalize D.list ((acc ++ [rowT t]).map Rw.d) = AL2 at *
            generalize D.list (acc.map Rw.d) = AL at *
            generalize tD (faus pn t) = FT at *
            generalize pn.d = PD at *
            generalize hD heap = HD at *
            generalize (rowT t).d = RD at *
            unfold b_law_judged_1
            simp [fe, e0, q0, ro, nn, lX, ap]
        · rw [decide_eq_false h] at q0
          rw [if_neg (fun z => h z.1)]
          generalize D.list (acc.map Rw.d) = AL at *
          generalize tD (faus pn t) = FT at *
          generalize pn.d = PD at *
          generalize hD heap = HD at *
          unfold b_law_judged_1
          simp [fe, e0, q0]
      have hal2 : (rwsF pn acc t).length ≤ acc.length + 1 := by
        unfold rwsF; split <;> simp
      obtain ⟨y3, e⟩ := ih (rwsF pn acc t) (some (.str t)) (fun u hu => hm u (List.mem_cons_of_mem _ hu)) (by omega)
      refine ⟨y3, ?_⟩
      rw [List.map_cons, forL_nx rfl step]
      exact e
  obtain ⟨y3, lp1⟩ := loop1 heap [] none (fun t h => h) (by simp; omega)
  have lp1 : forL (gN 3) b_law_judged_1 (heap.map D.str) [some pn.d, some (hD heap), some (.list []), none, none, none, none, none, none] st = .nx [some pn.d, some (hD heap), some (.list ((rws pn heap).map Rw.d)), y3, none, none, none, none, none] st := lp1
  have rp : ∀ r ∈ rws pn heap, ∀ p, r.par = some p → p ≠ [] := fun r hr => rws_par hr
  have rl := (rws_ok pn heap).len
  generalize hRs : rws pn heap = Rs at *
  have k1 : (Rs.map Rw.k4).map (·.1) = Rs.map Rw.key := by rw [List.map_map]; rfl
  have c1 : q_law_judged_2 [some pn.d, some (hD heap), some (.list (Rs.map Rw.d)), y3, none, none, none, none, none] st = .ok (.list ((Rs.map Rw.key).map D.str)) st := by
    unfold q_law_judged_2
    rw [comp_map (f := keyD) (ds := Rs.map Rw.d) (by simp [itemsOf]) (fun d hd => ?_)]
    · rw [List.map_map, List.map_map]; rfl
    · obtain ⟨r, _, rfl⟩ := List.mem_map.mp hd
      exact ⟨_, rfl, by simp [wipeE, r.key_get]; rfl⟩
  have c2 : q_law_judged_3 [some pn.d, some (hD heap), some (.list (Rs.map Rw.d)), y3, some (.list ((Rs.map Rw.key).map D.str)), none, none, none, none] st = .ok (.list ((parKN (Rs.map Rw.k4)).map prD)) st := by
    unfold q_law_judged_3
    rw [comp_ok (f := pfN (Rs.map Rw.key)) (ds := Rs.map Rw.d) (by simp [itemsOf]) (fun d hd => ?_)]
    · congr 2
      unfold parKN
      rw [k1, List.filterMap_map]
      generalize (Rs.map Rw.key) = ks
      clear lp1 hRs c1 k1 P rl loop1
      induction Rs with
      | nil => rfl
      | cons r Rs ih =>
        have ih := ih fun q hq => rp q (List.mem_cons_of_mem _ hq)
        have hn := parN_d (rp r List.mem_cons_self)
        rw [List.filterMap_cons, List.map_cons, List.filter_cons]
        have pe : pfN ks r.d = if ks.count r.key = 1 then some (.tup [.str r.key, parD r.par]) else none := by
          obtain ⟨k, p, a, g⟩ := r
          cases p <;> rfl
        have k4 : r.k4.1 = r.key := rfl
        have k42 : r.k4.2.1 = r.par.getD [] := rfl
        by_cases h : ks.count r.key = 1
        · simp only [Function.comp, pe, k4, h, if_true, decide_true, List.map_cons]
          rw [k42, hn]
          exact congrArg _ ih
        · simp only [Function.comp, pe, k4, h, if_false, decide_false, Bool.false_eq_true]
          exact ih
    · obtain ⟨r, hr, rfl⟩ := List.mem_map.mp hd
      refine ⟨[some pn.d, some (hD heap), some (.list (Rs.map Rw.d)), y3, some (.list ((Rs.map Rw.key).map D.str)), none, none, none, some r.d], rfl, ?_⟩
      have ct := count_str (Rs.map Rw.key) r.key
      have i0 := r.key_get
      have i1 := r.par_get
      have hX : isListD (.list ((Rs.map Rw.key).map D.str)) = true := rfl
      have q := eq_int (((Rs.map Rw.key).count r.key : Nat) : Int) 1
      have qe : decide ((((Rs.map Rw.key).count r.key : Nat) : Int) = 1) = decide ((Rs.map Rw.key).count r.key = 1) := decide_eq_decide.mpr (by omega)
      rw [qe] at q
      have pe : pfN (Rs.map Rw.key) r.d = if (Rs.map Rw.key).count r.key = 1 then some (.tup [.str r.key, parD r.par]) else none := by
        obtain ⟨k, p, a, g⟩ := r
        cases p <;> rfl
      rw [pe]
      generalize D.list ((Rs.map Rw.key).map D.str) = KL at ct hX
      generalize r.d = RD at *
      generalize (Rs.map Rw.key).count r.key = n at ct q ⊢
      generalize parD r.par = PR at *
      by_cases h : n = 1
      · left
        rw [decide_eq_true h] at q
        exact ⟨.tup [.str r.key, PR], by simp [hX, ct, i0, q], by simp [i0, i1, dispT], by rw [if_pos h]⟩
      · right
        rw [decide_eq_false h] at q
        exact ⟨by simp [hX, ct, i0, q], by rw [if_neg h]⟩
  have dd : dictD [.list ((parKN (Rs.map Rw.k4)).map prD)] = some (.dict (parKN (Rs.map Rw.k4))) := by
    simp only [dictD, pairs_map, Option.map_some]
    rw [merge_nil (fun k _ => by simp) (by rw [parKN_keys]; exact parK_nd _), List.nil_append]
  generalize parKN (Rs.map Rw.k4) = PKN at *
  have loop : ∀ (L : List Tx) (acc : List D) (x3 x7 : Option D), (∀ t ∈ L, t ∈ heap) → acc.length + L.length < 100 → ∃ y3 y7,
      forL (gN 3) b_law_judged_4 (L.map D.str) [some pn.d, some (hD heap), some (.list (Rs.map Rw.d)), x3, some (.list ((Rs.map Rw.key).map D.str)), some (.dict PKN), some (.list acc), x7, none] st
        = .nx [some pn.d, some (hD heap), some (.list (Rs.map Rw.d)), y3, some (.list ((Rs.map Rw.key).map D.str)), some (.dict PKN), some (.list (acc ++ L.map fun t => tD (vd pn heap t))), y7, none] st := by
    intro L
    induction L with
    | nil => intro acc x3 x7 _ _; exact ⟨x3, x7, by simp⟩
    | cons t L ih =>
      intro acc x3 x7 hm hal
      rw [List.length_cons] at hal
      have tx := hh.tx t (hm t List.mem_cons_self)
      have fe := law_faults_eq P0 t tx st
      have q0 := tD_nil (faus pn t)
      have step : ∃ z7, b_law_judged_4 [some pn.d, some (hD heap), some (.list (Rs.map Rw.d)), some (.str t), some (.list ((Rs.map Rw.key).map D.str)), some (.dict PKN), some (.list acc), x7, none] st
          = .nx [some pn.d, some (hD heap), some (.list (Rs.map Rw.d)), some (.str t), some (.list ((Rs.map Rw.key).map D.str)), some (.dict PKN), some (.list (acc ++ [tD (vd pn heap t)])), z7, none] st := by
        have ap : ∀ d, appendD (.list acc) [d] = some (.list (acc ++ [d])) := fun d => by simp only [appendD]; rw [if_pos (by rw [sz_eq]; omega)]
        have hX : isListD (.list acc) = true := rfl
        by_cases h : faus pn t = []
        · have ro := law_row_of_ok tx h st
          have tg := law_together_ok P (k := (rowT t).key) st
          have i0 := (rowT t).key_get
          rw [decide_eq_true h] at q0
          have ev : vd pn heap t = if par (goods pn heap) (rowT t).key = none then [wTwice] else verd (par (goods pn heap)) (rowT t).key := by unfold vd; rw [if_neg (by simpa using h)]
          rw [← ev] at tg
          have ap := ap (tD (vd pn heap t))
          generalize tD (faus pn t) = T0 at *
          generalize tD (vd pn heap t) = TV at *
          generalize (rowT t).d = RD at *
          generalize D.dict PKN = PK at *
          generalize pn.d = PD at *
          generalize hD heap = HD at *
          generalize D.list (acc ++ [TV]) = AC2 at *
          generalize D.list acc = AC at *
          exact ⟨_, by unfold b_law_judged_4; simp [fe, e0, q0, ro, i0, tg, hX, ap]; rfl⟩
        · rw [decide_eq_false h] at q0
          have ev : vd pn heap t = faus pn t := by unfold vd; rw [if_pos h]
          rw [ev]
          have ap := ap (tD (faus pn t))
          generalize tD (faus pn t) = T0 at *
          generalize D.dict PKN = PK at *
          generalize pn.d = PD at *
          generalize hD heap = HD at *
          generalize D.list (acc ++ [T0]) = AC2 at *
          generalize D.list acc = AC at *
          exact ⟨_, by unfold b_law_judged_4; simp [fe, e0, q0, hX, ap]; rfl⟩
      obtain ⟨z7, step⟩ := step
      obtain ⟨y3, y7, e⟩ := ih (acc ++ [tD (vd pn heap t)]) (some (.str t)) z7 (fun u hu => hm u (List.mem_cons_of_mem _ hu)) (by rw [List.length_append, List.length_singleton]; omega)
      refine ⟨y3, y7, ?_⟩
      rw [List.map_cons, forL_nx rfl step, e, List.map_cons, List.append_assoc]
      rfl
  obtain ⟨y3', y7, lp⟩ := loop heap [] y3 none (fun t h => h) (by simp; omega)
  rw [List.nil_append] at lp
  refine run_rt ?_ rfl
  show m_law_judged [some pn.d, some (hD heap), none, none, none, none, none, none, none] st = _
  have ih : itemsOf (hD heap) = some (heap.map D.str) := rfl
  have tp : tupleD [.list (heap.map fun t => tD (vd pn heap t))] = some (.tup (heap.map fun t => tD (vd pn heap t))) := rfl
  have dl : dispL [] = some (.list []) := rfl
  clear loop loop1 P rp hRs
  generalize pn.d = PD at *
  generalize hD heap = HD at *
  generalize D.list (Rs.map Rw.d) = RL at *
  generalize D.list ((Rs.map Rw.key).map D.str) = KL at *
  generalize D.list (PKN.map prD) = PL at *
  generalize D.dict PKN = PK at *
  generalize D.tup (heap.map fun t => tD (vd pn heap t)) = AT at *
  generalize D.list (heap.map fun t => tD (vd pn heap t)) = AL at *
  generalize heap.map D.str = HL at *
  unfold m_law_judged
  simp [lp1, c1, c2, dd, dl, ih, lp, tp]
theorem split_key {pn : Pn} {t : Tx} (h : faus pn t = []) : ∃ ws, splitC 32 t = (rowT t).key :: ws := by
  obtain ⟨k, p, a, g, n, e, er, _⟩ := (good_iff.mp h).row
  exact ⟨[p, a, g], by rw [e, er]⟩
theorem law_kept_ok {pn : Pn} (P0 : 0 ≤ pn.lo) {heap : List Tx} (hh : HpOk heap) (st : Sto) : d_law_kept [pn.d, hD heap] st = .ok (stoD (keptS pn heap)) st := by
  have jd := law_judged_ok P0 hh st
  have hl := hh.len
  have e0 : dispT [] = some (.tup []) := rfl
  have zp : zipA [hD heap, .tup (heap.map fun t => tD (vd pn heap t))] = some (heap.map fun t => .tup [.str t, tD (vd pn heap t)]) := by
    simp only [zipA, hD, zipL_map]
  have loop : ∀ (L : List Tx) (B : KV) (x3 x4 : Option D), (∀ t ∈ L, t ∈ heap) → B.length + L.length < 100 → ∃ y3 y4,
      forL (gT [3, 4]) b_law_kept_1 (L.map fun t => .tup [.str t, tD (vd pn heap t)]) [some pn.d, some (hD heap), some (.dict B), x3, x4, none] st = .nx [some pn.d, some (hD heap), some (.dict (keptB pn heap L B)), y3, y4, none] st := by
    intro L
    induction L with
    | nil => intro B x3 x4 _ _; exact ⟨x3, x4, rfl⟩
    | cons t L ih =>
      intro B x3 x4 hm hB
      rw [List.length_cons] at hB
      have tx := hh.tx t (hm t List.mem_cons_self)
      have q0 := tD_nil (vd pn heap t)
      have step : b_law_kept_1 [some pn.d, some (hD heap), some (.dict B), some (.str t), some (tD (vd pn heap t)), none] st = .nx [some pn.d, some (hD heap), some (.dict (if vd pn heap t = [] then putKD B (rowT t).key (rowT t).d else B)), some (.str t), some (tD (vd pn heap t)), none] st := by
        by_cases h : vd pn heap t = []
        · have fg := (vd_nil h).1
          have ro := law_row_of_ok tx fg st
          obtain ⟨ws, es⟩ := split_key fg
          have hs := split_ok tx
          rw [es] at hs
          have ix : idxD (.list (((rowT t).key :: ws).map D.str)) (.int 0) = some (.str (rowT t).key) := by simp [idxD, ixD]
          have sX : isStrD (.str t) = true := rfl
          have pt : putD (.dict B) [(rowT t).d, .str (rowT t).key] = some (.dict (putKD B (rowT t).key (rowT t).d)) := by
            simp only [putD]; rw [if_pos (by rw [sz_eq]; omega)]
          rw [if_pos h]
          rw [decide_eq_true h] at q0
          have dX : isDictD (.dict B) = true := rfl
          generalize D.list (((rowT t).key :: ws).map D.str) = WL at *
          generalize tD (vd pn heap t) = T0 at *
          generalize D.dict (putKD B (rowT t).key (rowT t).d) = B2 at pt ⊢
          generalize D.dict B = B1 at *
          generalize (rowT t).d = RD at *
          generalize pn.d = PD at *
          generalize hD heap = HD at *
          generalize D.str t = T at *
          unfold b_law_kept_1; simp [e0, q0, ro, sX, hs, ix, dX, pt]
        · rw [if_neg h]
          rw [decide_eq_false h] at q0
          generalize tD (vd pn heap t) = T0 at *
          generalize D.dict B = B1 at *
          generalize pn.d = PD at *
          generalize hD heap = HD at *
          unfold b_law_kept_1; simp [e0, q0]
      have hB2 : (if vd pn heap t = [] then putKD B (rowT t).key (rowT t).d else B).length ≤ B.length + 1 := by
        split
        · exact putKD_len2 B _ _
        · omega
      obtain ⟨y3, y4, e⟩ := ih (if vd pn heap t = [] then putKD B (rowT t).key (rowT t).d else B) (some (.str t)) (some (tD (vd pn heap t))) (fun u hu => hm u (List.mem_cons_of_mem _ hu)) (by omega)
      refine ⟨y3, y4, ?_⟩
      rw [List.map_cons, forL_nx (env1 := [some pn.d, some (hD heap), some (.dict B), some (.str t), some (tD (vd pn heap t)), none]) rfl step]
      exact e
  obtain ⟨y3, y4, lp⟩ := loop heap [] none none (fun t h => h) (by simp; omega)
  have bk := keptB_book (pn := pn) (heap := heap) (L := heap) nil_book
  have kl : (keptB pn heap heap []).length < 64 := by
    have := keptB_len (pn := pn) (heap := heap) (L := heap) (B := [])
    simp at this; omega
  have cr : q_law_kept_2 [some pn.d, some (hD heap), some (.dict (keptB pn heap heap [])), y3, y4, none] st = .ok (.list ((keptS pn heap).map (·.2))) st := by
    unfold q_law_kept_2 keptS
    generalize keptB pn heap heap [] = S at bk kl
    rw [comp_map (ds := (sortB ltS (S.map (·.1))).map D.str) (f := fun d => match d with | .str k => (lookD S k).getD .non | _ => .non) ?_ (fun d hd => ?_)]
    · unfold canon
      rw [List.map_map, List.map_map]; rfl
    · simp [sortD, kl, itemsOf]
    · obtain ⟨k, hk, rfl⟩ := List.mem_map.mp hd
      have hk := (sortB_perm _).mem_iff.mp hk
      refine ⟨[some pn.d, some (hD heap), some (.dict S), y3, y4, some (.str k)], rfl, ?_⟩
      cases e : lookD S k with
      | none => exact absurd hk (lookD_none.mp e)
      | some r => simp [idxD, e]
  have tp : tupleD [.list ((keptS pn heap).map (·.2))] = some (stoD (keptS pn heap)) := rfl
  refine run_rt ?_ rfl
  show m_law_kept [some pn.d, some (hD heap), none, none, none, none] st = _
  clear loop
  generalize pn.d = PD at *
  generalize hD heap = HD at *
  generalize D.tup (heap.map fun t => tD (vd pn heap t)) = JT at *
  generalize (heap.map fun t => D.tup [.str t, tD (vd pn heap t)]) = ZL at *
  generalize D.dict (keptB pn heap heap []) = KB at *
  generalize D.list ((keptS pn heap).map (·.2)) = KL at *
  generalize stoD (keptS pn heap) = SD at *
  have ei : ∀ env, iA zipA (aCons (eVar 1) (aCons (eCall d_law_judged (aCons (eVar 0) (aCons (eVar 1) aNil))) aNil)) env st = ((aCons (eVar 1) (aCons (eCall d_law_judged (aCons (eVar 0) (aCons (eVar 1) aNil))) aNil)) env st).bind fun xs st => ofOpt (zipA xs) st := fun env => rfl
  unfold m_law_kept
  simp [ei, jd, zp, lp, cr, tp]
end Dn

/-! PuSp: texts spoilt again and again: how long they get (pure). -/
namespace Dn
def wsum (ls : List Tx) : Nat := (ls.map List.length).sum + ls.length
/-- a list of texts of a weight of at most n -/
def Wt (n : Nat) (d : D) : Prop := ∃ ls : List Tx, d = .list (ls.map D.str) ∧ wsum ls ≤ n
theorem wsum_app (a b : List Tx) : wsum (a ++ b) = wsum a + wsum b := by simp [wsum]; omega
theorem wsum_cons (a : Tx) (b : List Tx) : wsum (a :: b) = a.length + 1 + wsum b := by simp [wsum]; omega
theorem wsum_sub {a b : List Tx} (h : a.Sublist b) : wsum a ≤ wsum b := by
  induction h with
  | slnil => exact Nat.le_refl _
  | cons x _ ih => rw [wsum_cons]; omega
  | cons_cons x _ ih => rw [wsum_cons, wsum_cons]; omega
theorem wsum_len (a : List Tx) : a.length ≤ wsum a := by unfold wsum; omega
theorem wsum_rev (a : List Tx) : wsum a.reverse = wsum a := by
  induction a with
  | nil => rfl
  | cons x a ih => rw [List.reverse_cons, wsum_app, wsum_cons, ih]; simp [wsum]; omega
theorem wsum_mem {a : List Tx} {x : Tx} (h : x ∈ a) : x.length + 1 ≤ wsum a := by
  have := wsum_sub (List.singleton_sublist.mpr h)
  rw [wsum_cons] at this
  simp [wsum] at this ⊢
  omega
theorem split_w (c : Nat) : ∀ t : Tx, wsum (splitC c t) = t.length + 1
  | [] => by simp [splitC, wsum]
  | x :: t => by
    have ih := split_w c t
    unfold splitC
    split
    · rw [wsum_cons, ih]; simp; omega
    · split
      · rename_i w ws e
        rw [e, wsum_cons] at ih
        rw [wsum_cons]; simp only [List.length_cons]; omega
      · rename_i e
        rw [e] at ih; simp [wsum] at ih
theorem Wt.slice {n : Nat} {d : D} (h : Wt n d) (lo hi : Option Int) : ∃ e, sliceD d lo hi = some e ∧ Wt n e := by
  obtain ⟨ls, rfl, h1⟩ := h
  exact ⟨.list ((cutD ls lo hi).map D.str), by simp only [sliceD, cut_map], cutD ls lo hi, rfl, Nat.le_trans (wsum_sub (cut_sub ls lo hi)) h1⟩
theorem Wt.add {n m : Nat} {d e : D} (h : Wt n d) (h' : Wt m e) (hn : n + m ≤ 1000000) : ∃ f, addD d e = some f ∧ Wt (n + m) f := by
  obtain ⟨ls, rfl, h1⟩ := h
  obtain ⟨ls', rfl, h1'⟩ := h'
  have := wsum_len ls
  have := wsum_len ls'
  refine ⟨.list ((ls ++ ls').map D.str), ?_, ls ++ ls', rfl, by rw [wsum_app]; omega⟩
  rw [addL (by rw [List.length_map, List.length_map]; omega), List.map_append]
theorem Wt.one {n : Nat} {l : Tx} (h : l.length + 1 ≤ n) : Wt n (.list [.str l]) := ⟨[l], rfl, by rw [wsum_cons]; simp [wsum]; omega⟩
theorem Wt.rev {n : Nat} {d : D} (h : Wt n d) : ∃ e, revD d = some e ∧ Wt n e := by
  obtain ⟨ls, rfl, h1⟩ := h
  exact ⟨.list (ls.reverse.map D.str), by simp only [revD, List.map_reverse], ls.reverse, rfl, by rw [wsum_rev]; exact h1⟩
theorem Wt.mono {n m : Nat} {d : D} (h : Wt n d) (k : n ≤ m) : Wt m d := by
  obtain ⟨ls, h1, h2⟩ := h; exact ⟨ls, h1, by omega⟩
theorem join_len (s : Tx) (hs : s.length ≤ 1) : ∀ ls : List Tx, (joinC s ls).length ≤ wsum ls := by
  intro ls
  induction ls with
  | nil => simp [joinC]
  | cons l ls ih =>
    cases ls with
    | nil => simp [joinC, wsum]
    | cons q r =>
      rw [wsum_cons]
      simp only [joinC, List.length_append] at ih ⊢
      omega
theorem Wt.join {n : Nat} {d : D} (h : Wt n d) (hn : n ≤ 1000000) : ∃ u : Tx, joinD (.str [32]) [d] = some (.str u) ∧ u.length ≤ n := by
  obtain ⟨ls, rfl, h1⟩ := h
  have := join_len [32] (by simp) ls
  refine ⟨joinC [32] ls, ?_, by omega⟩
  simp only [joinD, strs_map, Option.bind_some]
  unfold wsum at h1
  rw [if_pos (by rw [sz_eq]; simp; omega)]
theorem pick6 {F0 F1 F2 F3 F4 F5 : D} {n : Nat} {i : Int} (c0 : 0 ≤ i) (c1 : i < 6) (g : ∀ F ∈ [F0, F1, F2, F3, F4, F5], Wt n F) : ∃ F, Wt n F ∧ idxD (.list [F0, F1, F2, F3, F4, F5]) (.int i) = some F := by
  have hl : i.toNat < [F0, F1, F2, F3, F4, F5].length := by show _ < 6; omega
  refine ⟨[F0, F1, F2, F3, F4, F5][i.toNat], g _ (List.getElem_mem hl), ?_⟩
  have e : ixD [F0, F1, F2, F3, F4, F5].length i = some i.toNat := by
    unfold ixD; rw [if_pos c0, if_pos (by show _ < ((6 : Nat) : Int); omega)]
  simp only [idxD, e, Option.bind_some]
  rw [List.getElem?_eq_getElem hl]
theorem spoilt_ok2 (t : Tx) (n : Int) (ht : t.length ≤ 100000) (h0 : 0 ≤ n) (st : Sto) : ∃ u : Tx, d_law_spoilt_text [.str t, .int n] st = .ok (.str u) st ∧ u.length ≤ 3 * t.length + 20 := by
  have hs : splitD (.str t) [.str [32]] = some (.list ((splitC 32 t).map D.str)) := split_ok (by omega)
  obtain ⟨l1, l2⟩ := split_len t
  have sw : Wt (t.length + 1) (.list ((splitC 32 t).map D.str)) := ⟨splitC 32 t, rfl, by rw [split_w]; exact Nat.le_refl _⟩
  have ln : lenD [.list ((splitC 32 t).map D.str)] = some (.int (splitC 32 t).length) := by simp [lenD]
  have d8 : fdivD (.int n) (.int 8) = some (.int (n / 8)) := fdiv_pos (by omega)
  have md : modD (.int (n / 8)) (.int (splitC 32 t).length) = some (.int (n / 8 % (splitC 32 t).length)) := mod_pos (by omega)
  obtain ⟨a0, a1⟩ := lcg_lt (n / 8) (splitC 32 t).length (by omega)
  obtain ⟨wa, hwa, iwa⟩ := idx_in (ls := splitC 32 t) a0 a1
  have hwl := split_short t wa hwa
  generalize n / 8 % ((splitC 32 t).length : Int) = at_ at md a0 a1 iwa
  have d256 : fdivD (.int n) (.int 256) = some (.int (n / 256)) := fdiv_pos (by omega)
  have m12 : modD (.int (n / 256)) (.int 12) = some (.int (n / 256 % 12)) := mod_pos (by omega)
  obtain ⟨b0, b1⟩ := lcg_lt (n / 256) 12 (by omega)
  obtain ⟨sm, hsm, ism⟩ := idx_in (ls := someW) b0 (by show _ < ((12 : Nat) : Int); omega)
  have hsl : sm.length ≤ 6 := by
    have : ∀ x ∈ someW, x.length ≤ 6 := by decide
    exact this sm hsm
  have m6 : modD (.int n) (.int 6) = some (.int (n % 6)) := mod_pos (by omega)
  obtain ⟨c0, c1⟩ := lcg_lt n 6 (by omega)
  generalize n / 256 % 12 = bt at m12 b0 b1 ism
  generalize hWL : D.list ((splitC 32 t).map D.str) = WL at hs sw ln iwa
  have ad1 : addD (.int at_) (.int 1) = some (.int (at_ + 1)) := rfl
  obtain ⟨P1, s1, q1⟩ := sw.slice none (some at_)
  obtain ⟨P2, s2, q2⟩ := sw.slice (some (at_ + 1)) none
  obtain ⟨P3, s3, q3⟩ := sw.slice (some at_) (some (at_ + 1))
  obtain ⟨P4, s4, q4⟩ := sw.slice (some at_) none
  obtain ⟨F0, f0, g0⟩ := q1.add q2 (by omega)
  obtain ⟨F1a, f1a, g1a⟩ := q1.add q3 (by omega)
  obtain ⟨F1, f1, g1⟩ := g1a.add q4 (by omega)
  obtain ⟨F2a, f2a, g2a⟩ := q1.add (Wt.one (n := 7) (l := sm) (by omega)) (by omega)
  obtain ⟨F2, f2, g2⟩ := g2a.add q2 (by omega)
  obtain ⟨wc, swc, hwc⟩ := slice_str wa none (some (-1))
  obtain ⟨F3a, f3a, g3a⟩ := q1.add (Wt.one (n := t.length + 2) (l := wc) (by omega)) (by omega)
  obtain ⟨F3, f3, g3⟩ := g3a.add q2 (by omega)
  have aw : addD (.str wa) (.str [48]) = some (.str (wa ++ [48])) := by
    simp only [addD]; rw [if_pos (by rw [sz_eq]; simp; omega)]
  obtain ⟨F4a, f4a, g4a⟩ := q1.add (Wt.one (n := t.length + 3) (l := wa ++ [48]) (by simp; omega)) (by omega)
  obtain ⟨F4, f4, g4⟩ := g4a.add q2 (by omega)
  obtain ⟨F5, f5, g5⟩ := sw.rev
  obtain ⟨F, gF, ixF⟩ := pick6 (F0 := F0) (F1 := F1) (F2 := F2) (F3 := F3) (F4 := F4) (F5 := F5) (n := 3 * t.length + 20) c0 c1 (by
    intro F hF
    simp only [List.mem_cons, List.not_mem_nil, or_false] at hF
    rcases hF with rfl | rfl | rfl | rfl | rfl | rfl
    · exact g0.mono (by omega)
    · exact g1.mono (by omega)
    · exact g2.mono (by omega)
    · exact g3.mono (by omega)
    · exact g4.mono (by omega)
    · exact g5.mono (by omega))
  obtain ⟨u, ju, hu⟩ := gF.join (by omega)
  refine ⟨u, ?_, hu⟩
  refine run_rt ?_ rfl
  show m_law_spoilt_text [some (.str t), some (.int n), none, none, none, none] st = _
  have ng : negD (.int 1) = some (.int (-1)) := rfl
  have hsome : dispL [.str [45], .str [97], .str [48], .str [48, 55], .str [49, 48, 48, 48], .str [57, 57, 57], .str [115, 105, 120, 115, 105, 120], .str [65], .str [], .str [45, 49], .str [97, 32, 98], .str [111, 107]] = some (.list (someW.map D.str)) := rfl
  generalize D.list (someW.map D.str) = SW at hsome ism
  have dl1 : ∀ x : D, dispL [x] = some (.list [x]) := fun x => rfl
  have dl2 : ∀ x y : D, dispL [x, y] = some (.list [x, y]) := fun x y => rfl
  have ap : ∀ (xs : List D) (d : D), xs.length < 10 → appendD (.list xs) [d] = some (.list (xs ++ [d])) := fun xs d h => by simp only [appendD]; rw [if_pos (by rw [sz_eq]; omega)]
  have a2 := ap [F0, F1] F2 (by simp)
  have a3 := ap [F0, F1, F2] F3 (by simp)
  have a4 := ap [F0, F1, F2, F3] F4 (by simp)
  have a5 := ap [F0, F1, F2, F3, F4] F5 (by simp)
  simp only [List.cons_append, List.nil_append] at a2 a3 a4 a5
  unfold m_law_spoilt_text
  simp [isStrD, hs, d8, ln, md, hsome, s1, s2, s3, s4, ad1, f0, f1a, f1, dl2, d256, m12, ism, dl1, f2a, f2, isListD, a2, iwa, ng, swc, f3a, f3, a3, aw, f4a, f4, a4, f5, a5, m6, ixF, ju]
end Dn

/-! PuRep1: report_text (pure). -/
namespace Dn
def wOk : Tx := [111, 107]
/-- the words behind the number -/
def rpW (f : List Tx) : List Tx := if f = [] then [wOk] else f
def rpRow (n : Nat) (f : List Tx) : Tx := joinC [32] (numC n :: rpW f)
def rpRows : Nat → List (List Tx) → List Tx
  | _, [] => []
  | n, f :: F => rpRow n f :: rpRows (n + 1) F
/-- rows, each with its end -/
def endT (rows : List Tx) : Tx := (rows.map fun r => r ++ [10]).flatten
def repT (n : Nat) (F : List (List Tx)) : Tx := endT (rpRows n F)
theorem digs_len : ∀ (f n k : Nat) (ds : List Char), n < 10 ^ (k + 1) → (Nat.toDigitsCore 10 f n ds).length ≤ ds.length + k + 1
  | 0, n, k, ds, _ => by unfold Nat.toDigitsCore; omega
  | f + 1, n, k, ds, h => by
    unfold Nat.toDigitsCore
    simp only []
    split
    · simp
    · rename_i hz
      cases k with
      | zero => simp at h; omega
      | succ k =>
        have := digs_len f (n / 10) k (Nat.digitChar (n % 10) :: ds) (by rw [Nat.pow_succ] at h; omega)
        simp only [List.length_cons] at this
        omega
theorem numC_len5 (n : Nat) (h : n < 16384) : (numC n).length ≤ 5 := by
  unfold numC Nat.toDigits
  rw [List.length_map]
  have := digs_len (n + 1) n 4 [] (by omega)
  simpa using this
theorem str_lt {n : Nat} (h : n < 1000000) : strD [.int (n : Nat)] = some (.str (numC n)) := by
  simp only [strD]
  rw [if_pos (by omega), Int.toNat_natCast]
/-- faults of a small size -/
def Sm (f : List Tx) : Prop := wsum f ≤ 100
theorem rpW_w {f : List Tx} (h : Sm f) : wsum (rpW f) ≤ 103 := by
  unfold rpW
  split
  · simp [wsum, wOk]
  · unfold Sm at h; omega
def rtB : MS := (sUpd 1 isListD appendD (aCons (eM isStrD joinD (eC (.str [32])) (aCons (e2 addD (eA dispL (aCons (eA strD (aCons (eVar 2) aNil)) aNil)) (e2 addD (eA listD (aCons (eVar 3) aNil)) (e2 repD (eA dispL (aCons (eC (.str [111, 107])) aNil)) (eA intD (aCons (e2 eqD (eA lenD (aCons (eVar 3) aNil)) (eC (.int 0))) aNil))))) aNil)) aNil))
def rtC : ME := (eM isStrD joinD (eC (.str [])) (aCons (eComp (iSeq (eVar 1)) [4] (gN 4) (eC (.bool true)) (e2 addD (eVar 4) (eC (.str [10])))) aNil))
theorem m_report_text_eq : m_report_text = (sSeq (sAsg (gN 1) (eA dispL aNil)) (sSeq (sFor (iA enumA (aCons (eVar 0) aNil)) (gT [2, 3]) rtB) (sRet rtC))) := rfl
theorem rt_step0 {e0 e4 : Option D} (st : Sto) (xs : List D) (n : D) (nc : Tx) (f : List Tx) (s1 : strD [n] = some (.str nc)) (nl : nc.length ≤ 5) (hf : Sm f) (hx : xs.length < 100000) : rtB [e0, some (.list xs), some n, some (tD f), e4] st = .nx [e0, some (.list (xs ++ [.str (joinC [32] (nc :: rpW f))])), some n, some (tD f), e4] st := by
  have ww := rpW_w hf
  have d1 : ∀ x : D, dispL [x] = some (.list [x]) := fun _ => rfl
  have lf : listD [tD f] = some (.list (f.map D.str)) := rfl
  have ln := len_tD f
  have q := len0 (l := f)
  have fl : f.length ≤ 100 := Nat.le_trans (wsum_len f) hf
  have rp : ∀ b : Bool, repD (.list [.str wOk]) (.int (if b then 1 else 0)) = some (.list ((if b then [wOk] else []).map D.str)) := fun b => by cases b <;> rfl
  have ib : ∀ b : Bool, intD [.bool b] = some (.int (if b then 1 else 0)) := fun _ => rfl
  have a1 : addD (.list (f.map D.str)) (.list ((if decide (f = []) then [wOk] else []).map D.str)) = some (.list ((rpW f).map D.str)) := by
    have o1 : (if decide (f = []) = true then [wOk] else []).length ≤ 1 := by split <;> simp
    rw [addL (by rw [List.length_map, List.length_map]; omega), ← List.map_append]
    congr 3
    unfold rpW
    by_cases h : f = []
    · simp [h]
    · simp [h]
  have a2 : addD (.list [.str nc]) (.list ((rpW f).map D.str)) = some (.list ((nc :: rpW f).map D.str)) := by
    have := wsum_len (rpW f)
    rw [addL (by rw [List.length_map]; simp; omega)]; rfl
  have jn : joinD (.str [32]) [.list ((nc :: rpW f).map D.str)] = some (.str (joinC [32] (nc :: rpW f))) := by
    simp only [joinD, strs_map, Option.bind_some]
    have w := wsum_cons nc (rpW f)
    unfold wsum at w ww
    rw [if_pos (by rw [sz_eq]; simp only [List.length_cons, List.length_nil] at *; omega)]
  have ap : appendD (.list xs) [.str (joinC [32] (nc :: rpW f))] = some (.list (xs ++ [.str (joinC [32] (nc :: rpW f))])) := by
    simp only [appendD]; rw [if_pos (by rw [sz_eq]; omega)]
  have lX : isListD (.list xs) = true := rfl
  have sX : isStrD (.str [32]) = true := rfl
  have rp := rp (decide (f = []))
  have ib := ib (decide (f = []))
  generalize D.list (xs ++ [.str (joinC [32] (nc :: rpW f))]) = X2 at *
  generalize D.list xs = X1 at *
  generalize joinC [32] (nc :: rpW f) = RR at *
  generalize D.list ((nc :: rpW f).map D.str) = NL at *
  generalize D.list ((rpW f).map D.str) = RW at *
  generalize D.list (f.map D.str) = FL at *
  generalize tD f = FD at *
  generalize (if decide (f = []) = true then [wOk] else []) = OO at *
  generalize (if decide (f = []) = true then (1 : Int) else 0) = OI at *
  generalize decide (f = []) = fb at *
  unfold wOk at rp
  generalize D.list (OO.map D.str) = OL at *
  unfold rtB
  simp [lX, sX, s1, d1, lf, ln, q, ib, rp, a1, a2, jn, ap]
theorem rt_step {e0 e4 : Option D} (st : Sto) (xs : List D) (n : Nat) (f : List Tx) (hn : n < 16384) (hf : Sm f) (hx : xs.length < 100000) : rtB [e0, some (.list xs), some (.int (n : Nat)), some (tD f), e4] st = .nx [e0, some (.list (xs ++ [.str (rpRow n f)])), some (.int (n : Nat)), some (tD f), e4] st :=
  rt_step0 st xs _ (numC n) f (str_lt (by omega)) (numC_len5 n hn) hf hx
theorem rt_loop {e0 e4 : Option D} (st : Sto) : ∀ (F : List (List Tx)) (n : Nat) (xs : List Tx) (x2 x3 : Option D), (∀ f ∈ F, Sm f) → n + F.length < 16384 → xs.length + F.length < 100000 →
    ∃ y2 y3, forL (gT [2, 3]) rtB (enumL n (F.map tD)) [e0, some (.list (xs.map D.str)), x2, x3, e4] st = .nx [e0, some (.list ((xs ++ rpRows n F).map D.str)), y2, y3, e4] st
  | [], n, xs, x2, x3, _, _, _ => ⟨x2, x3, by simp [rpRows, enumL]⟩
  | f :: F, n, xs, x2, x3, hf, hn, hx => by
    rw [List.length_cons] at hn hx
    have step := rt_step (e0 := e0) (e4 := e4) st (xs.map D.str) n f (by omega) (hf f List.mem_cons_self) (by rw [List.length_map]; omega)
    obtain ⟨y2, y3, e⟩ := rt_loop (e0 := e0) (e4 := e4) st F (n + 1) (xs ++ [rpRow n f]) (some (.int (n : Nat))) (some (tD f)) (fun g hg => hf g (List.mem_cons_of_mem _ hg)) (by omega) (by simp; omega)
    refine ⟨y2, y3, ?_⟩
    have em : (xs ++ [rpRow n f]).map D.str = xs.map D.str ++ [.str (rpRow n f)] := by rw [List.map_append]; rfl
    rw [em] at e
    rw [List.map_cons]
    unfold enumL
    rw [forL_nx (env1 := [e0, some (.list (xs.map D.str)), some (.int (n : Nat)), some (tD f), e4]) rfl step, e, List.append_assoc]
    rfl
theorem joinC_lenG (sep : Tx) : ∀ ls : List Tx, (joinC sep ls).length ≤ (ls.map List.length).sum + ls.length * sep.length
  | [] => by simp [joinC]
  | [p] => by simp [joinC]
  | p :: q :: r => by
    have ih := joinC_lenG sep (q :: r)
    simp only [joinC, List.length_append, List.map_cons, List.sum_cons, List.length_cons] at ih ⊢
    have : (r.length + 1 + 1) * sep.length = (r.length + 1) * sep.length + sep.length := by rw [Nat.add_mul, Nat.one_mul]
    omega
theorem rpRow_len {n : Nat} {f : List Tx} (hn : n < 16384) (hf : Sm f) : (rpRow n f).length ≤ 110 := by
  have nl := numC_len5 n hn
  have ww := rpW_w hf
  have j := join_len [32] (by simp) (numC n :: rpW f)
  rw [wsum_cons] at j
  unfold rpRow
  omega
theorem rpRows_all {P : Tx → Prop} : ∀ (F : List (List Tx)) (n : Nat), (∀ m f, n ≤ m → m < n + F.length → f ∈ F → P (rpRow m f)) → ∀ r ∈ rpRows n F, P r
  | [], n, _, r, h => by cases h
  | f :: F, n, hp, r, h => by
    rcases List.mem_cons.mp h with rfl | h
    · exact hp n f (Nat.le_refl _) (by simp) List.mem_cons_self
    · exact rpRows_all F (n + 1) (fun m g h1 h2 hg => hp m g (by omega) (by simp; omega) (List.mem_cons_of_mem _ hg)) r h
theorem rpRows_len : ∀ (F : List (List Tx)) (n : Nat), (rpRows n F).length = F.length
  | [], _ => rfl
  | f :: F, n => by simp [rpRows, rpRows_len F (n + 1)]
theorem sum_le {l : List Tx} {m : Nat} (h : ∀ r ∈ l, r.length ≤ m) : (l.map List.length).sum ≤ l.length * m := by
  induction l with
  | nil => simp
  | cons a l ih =>
    have h1 := h a List.mem_cons_self
    have h2 := ih fun r hr => h r (List.mem_cons_of_mem _ hr)
    simp only [List.map_cons, List.sum_cons, List.length_cons, Nat.add_mul, Nat.one_mul]
    omega
/-- "".join([row + "\n" for row in rows]) -/
theorem ends_ok {env : Env} {st : Sto} {i j : Nat} {it : MI} {rows : List Tx} (hi : it env st = .ok (rows.map D.str) st) (hj : j < env.length) (hl : ∀ r ∈ rows, r.length ≤ 9000) (hn : rows.length ≤ 100000) (hs : (rows.map List.length).sum + 2 * rows.length ≤ 16000000) :
    eM isStrD joinD (eC (.str [])) (aCons (eComp it [j] (gN j) (eC (.bool true)) (e2 addD (eVar j) (eC (.str [10])))) aNil) env st = .ok (.str (endT rows)) st := by
  have c : eComp it [j] (gN j) (eC (.bool true)) (e2 addD (eVar j) (eC (.str [10]))) env st = .ok (.list ((rows.map fun r => r ++ [10]).map D.str)) st := by
    rw [comp_map (f := fun d => match d with | .str r => .str (r ++ [10]) | _ => .non) (ds := rows.map D.str) hi (fun d hd => ?_)]
    · rw [List.map_map, List.map_map]; rfl
    · obtain ⟨r, hr, rfl⟩ := List.mem_map.mp hd
      refine ⟨env.set j (some (.str r)), ?_, ?_⟩
      · show (if j < (env.set j none).length then some ((env.set j none).set j (some (.str r))) else none) = _
        rw [if_pos (by simpa using hj), set_twice]
      · have g : (env.set j (some (D.str r)))[j]? = some (some (.str r)) := get_set_self hj
        have a : addD (.str r) (.str [10]) = some (.str (r ++ [10])) := add_str (by have := hl r hr; simp; omega)
        simp only [ev_e2, ev_var, g, ev_c, R.bind_ok, a, ofOpt_some]
  have hsum : ((rows.map fun r => r ++ [10]).map List.length).sum = (rows.map List.length).sum + rows.length := by
    clear c hi hn hs hl
    induction rows with
    | nil => rfl
    | cons r rows ih => simp only [List.map_cons, List.sum_cons, List.length_cons, List.length_append, List.length_nil, ih]; omega
  have jn : joinD (.str []) [.list ((rows.map fun r => r ++ [10]).map D.str)] = some (.str (endT rows)) := by
    simp only [joinD, strs_map, Option.bind_some]
    rw [if_pos (by rw [sz_eq, hsum]; simp; omega), joinC_nil]; rfl
  have sX : isStrD (.str []) = true := rfl
  generalize eComp it [j] (gN j) (eC (.bool true)) (e2 addD (eVar j) (eC (.str [10]))) = Q at *
  generalize D.list ((rows.map fun r => r ++ [10]).map D.str) = RL at *
  generalize endT rows = ET at *
  simp [sX, c, jn]
theorem report_ok {d : D} {F : List (List Tx)} (hd : enumA [d] = some (enumL 0 (F.map tD))) (hf : ∀ f ∈ F, Sm f) (hn : F.length < 16000) (st : Sto) : d_report_text [d] st = .ok (.str (repT 0 F)) st := by
  obtain ⟨y2, y3, e⟩ := rt_loop (e0 := some d) (e4 := none) st F 0 [] none none hf (by omega) (by simp; omega)
  rw [List.nil_append, List.map_nil] at e
  have hl : ∀ r ∈ rpRows 0 F, r.length ≤ 110 := rpRows_all F 0 fun m f _ h2 hm => rpRow_len (by omega) (hf f hm)
  have hrl := rpRows_len F 0
  have hs := sum_le hl
  rw [hrl] at hs
  have en : rtC [some d, some (.list ((rpRows 0 F).map D.str)), y2, y3, none] st = .ok (.str (repT 0 F)) st := by
    unfold rtC repT
    exact ends_ok (i := 1) (rows := rpRows 0 F) (by simp [itemsOf]) (by simp) (fun r hr => by have := hl r hr; omega) (by omega) (by omega)
  refine run_rt ?_ rfl
  show m_report_text [some d, none, none, none, none] st = _
  rw [m_report_text_eq]
  have dl : dispL [] = some (.list []) := rfl
  have ei : ∀ env, iA enumA (aCons (eVar 0) aNil) env st = ((aCons (eVar 0) aNil) env st).bind fun xs st => ofOpt (enumA xs) st := fun env => rfl
  generalize D.list ((rpRows 0 F).map D.str) = RL at *
  generalize rtB = BB at *
  generalize rtC = CC at *
  generalize repT 0 F = RT at *
  simp [ei, dl, hd, e, en]
theorem enum_tup (F : List (List Tx)) : enumA [.tup (F.map tD)] = some (enumL 0 (F.map tD)) := rfl
theorem enum_list (F : List (List Tx)) : enumA [.list (F.map tD)] = some (enumL 0 (F.map tD)) := rfl
end Dn

/-! PuRep2: read_report (pure). -/
namespace Dn
theorem forL_exc {tg : TGt} {p : MS} {d : D} {c : Nat} {ds : List D} {env env1 : Env} {st st2 : Sto} (h : tg d env = some env1) (hb : p env1 st = .exc c st2) : forL tg p (d :: ds) env st = .exc c st2 := by
  conv => lhs; unfold forL
  simp only [h, hb]
theorem need_ok (b : Bool) (st : Sto) : d_need [.bool b] st = if b then .ok .non st else .exc 0 st := by
  cases b <;> rfl
def fields : List Tx := [wKey, wPar, wAmt, wTag]
def alone : List Tx := [wCount, wTwice, wRing, wLost]
def fieldsIn (ws : List Tx) : List Tx := fields.filter fun w => decide (w ∈ ws)
def faIn (ws : List Tx) : Option (List Tx) := if ws = [wOk] then some [] else if ws.length = 1 ∧ ws.headD [] ∈ alone then some ws else if ws ≠ [] ∧ ws = fieldsIn ws then some ws else none
def inF (ws : List Tx) : D → Bool
  | .str w => decide (w ∈ ws)
  | _ => false
theorem fields_comp (x0 : Option D) (ws : List Tx) (st : Sto) : q_faults_in_1 [x0, some (.tup (ws.map D.str)), none] st = .ok (.list ((fieldsIn ws).map D.str)) st := by
  have c : q_faults_in_1 [x0, some (.tup (ws.map D.str)), none] st = .ok (.list ((fields.map D.str).filter (inF ws))) st := by
    unfold q_faults_in_1
    refine comp_filter rfl fun d hd => ?_
    obtain ⟨w, _, rfl⟩ := List.mem_map.mp hd
    have q := in_strsT w ws
    generalize D.tup (ws.map D.str) = WT at *
    exact ⟨_, rfl, by simp [wipeE, q, inF], by simp [wipeE]⟩
  rw [c]
  congr 2
  unfold fieldsIn
  rw [List.filter_map]
  rfl
theorem eq_lst (a b : List Tx) : eqD (.list (a.map D.str)) (.list (b.map D.str)) = some (.bool (decide (a = b))) := by
  classical
  rw [eq_ok (list_strs_pl a) (list_strs_pl b) (by omega)]
  congr 2
  refine decide_eq_decide.mpr ⟨fun h => ?_, fun h => by rw [h]⟩
  have h : a.map D.str = b.map D.str := by injection h
  have := congrArg strsD h
  rw [strs_map, strs_map] at this
  exact Option.some.inj this
theorem eq_tup (a b : List Tx) : eqD (.tup (a.map D.str)) (.tup (b.map D.str)) = some (.bool (decide (a = b))) := by
  classical
  show eqD (tD a) (tD b) = _
  rw [eq_ok (tD_pl a) (tD_pl b) (by omega)]
  congr 2
  refine decide_eq_decide.mpr ⟨fun h => ?_, fun h => by rw [h]⟩
  have h : a.map D.str = b.map D.str := by injection h
  have := congrArg strsD h
  rw [strs_map, strs_map] at this
  exact Option.some.inj this
theorem faults_in_eq (ws : List Tx) (st : Sto) : d_faults_in [.list (ws.map D.str)] st = match faIn ws with | some f => .ok (tD f) st | none => .exc 0 st := by
  have q1 := eq_lst ws [wOk]
  have q1' : eqD (.list (ws.map D.str)) (.list [.str [111, 107]]) = some (.bool (decide (ws = [wOk]))) := q1
  have dl : dispL [.str [111, 107]] = some (.list [.str [111, 107]]) := rfl
  have e0 : dispT [] = some (.tup []) := rfl
  have tp : tupleD [.list (ws.map D.str)] = some (.tup (ws.map D.str)) := rfl
  have ln : lenD [.tup (ws.map D.str)] = some (.int (ws.length : Nat)) := by simp [lenD]
  have l1 := eq_int (ws.length : Nat) 1
  have l1' : decide (((ws.length : Nat) : Int) = 1) = decide (ws.length = 1) := decide_eq_decide.mpr (by omega)
  rw [l1'] at l1
  have fc := fields_comp (some (.list (ws.map D.str))) ws st
  have tp2 : tupleD [.list ((fieldsIn ws).map D.str)] = some (.tup ((fieldsIn ws).map D.str)) := rfl
  have q2 := eq_tup ws (fieldsIn ws)
  have gt : gtD (.int (ws.length : Nat)) (.int 0) = some (.bool (decide (ws ≠ []))) := by
    simp only [gtD]; congr 2
    refine decide_eq_decide.mpr ?_
    cases ws <;> simp <;> omega
  have ix : ws.length = 1 → idxD (.tup (ws.map D.str)) (.int 0) = some (.str (ws.headD [])) := fun h => by
    match ws, h with
    | [w], _ => rfl
  have ia := in_strsT (ws.headD []) alone
  have ia' : inD (.str (ws.headD [])) (.tup ([[99, 111, 117, 110, 116], [116, 119, 105, 99, 101], [114, 105, 110, 103], [108, 111, 115, 116]].map D.str)) = some (.bool (decide (ws.headD [] ∈ alone))) := ia
  have nd := fun b => need_ok b st
  show (match m_faults_in [some (.list (ws.map D.str)), none, none] st with | .nx _ st1 => (R.ok D.non st1 : R D) | .rt d st1 => R.ok d st1 | .exc c st1 => R.exc c st1 | .bad => R.bad) = _
  have td : tD ws = .tup (ws.map D.str) := rfl
  unfold faIn
  by_cases h1 : ws = [wOk]
  · rw [if_pos h1]
    rw [decide_eq_true h1] at q1'
    generalize D.list (ws.map D.str) = WL at *
    unfold m_faults_in
    simp [dl, q1', e0]; rfl
  · rw [if_neg h1]
    rw [decide_eq_false h1] at q1'
    by_cases h2 : ws.length = 1
    · rw [decide_eq_true h2] at l1
      have ix := ix h2
      by_cases h3 : ws.headD [] ∈ alone
      · rw [if_pos ⟨h2, h3⟩]
        rw [decide_eq_true h3] at ia'
        simp only []
        rw [td]
        generalize D.list (ws.map D.str) = WL at *
        generalize D.tup (ws.map D.str) = WT at *
        generalize D.str (ws.headD []) = HD at *
        unfold m_faults_in
        generalize D.tup ([[99, 111, 117, 110, 116], [116, 119, 105, 99, 101], [114, 105, 110, 103], [108, 111, 115, 116]].map D.str) = AL at *
        simp [dl, q1', tp, ln, l1, ix, ia']
      · rw [if_neg (fun z => h3 z.2)]
        rw [decide_eq_false h3] at ia'
        have hn : ws ≠ [] := fun z => by rw [z] at h2; simp at h2
        rw [decide_eq_true hn] at gt
        by_cases h4 : ws = fieldsIn ws
        · rw [if_pos ⟨hn, h4⟩]
          rw [decide_eq_true h4] at q2
          simp only []
          rw [td]
          generalize D.list ((fieldsIn ws).map D.str) = FL at *
          generalize D.tup ((fieldsIn ws).map D.str) = FT at *
          generalize D.list (ws.map D.str) = WL at *
          generalize D.tup (ws.map D.str) = WT at *
          generalize D.str (ws.headD []) = HD at *
          unfold m_faults_in
          generalize D.tup ([[99, 111, 117, 110, 116], [116, 119, 105, 99, 101], [114, 105, 110, 103], [108, 111, 115, 116]].map D.str) = AL at *
          simp [dl, q1', tp, ln, l1, ix, ia', gt, fc, tp2, q2, nd]
        · rw [if_neg (fun z => h4 z.2)]
          rw [decide_eq_false h4] at q2
          generalize D.list ((fieldsIn ws).map D.str) = FL at *
          generalize D.tup ((fieldsIn ws).map D.str) = FT at *
          generalize D.list (ws.map D.str) = WL at *
          generalize D.tup (ws.map D.str) = WT at *
          generalize D.str (ws.headD []) = HD at *
          unfold m_faults_in
          generalize D.tup ([[99, 111, 117, 110, 116], [116, 119, 105, 99, 101], [114, 105, 110, 103], [108, 111, 115, 116]].map D.str) = AL at *
          simp [dl, q1', tp, ln, l1, ix, ia', gt, fc, tp2, q2, nd]
    · rw [if_neg (fun z => h2 z.1)]
      rw [decide_eq_false h2] at l1
      by_cases hn : ws = []
      · rw [decide_eq_false (by simpa using hn)] at gt
        rw [if_neg (fun z => z.1 hn)]
        generalize D.list (ws.map D.str) = WL at *
        generalize D.tup (ws.map D.str) = WT at *
        unfold m_faults_in
        simp [dl, q1', tp, ln, l1, gt, nd]
      · rw [decide_eq_true hn] at gt
        by_cases h4 : ws = fieldsIn ws
        · rw [if_pos ⟨hn, h4⟩]
          rw [decide_eq_true h4] at q2
          simp only []
          rw [td]
          generalize D.list ((fieldsIn ws).map D.str) = FL at *
          generalize D.tup ((fieldsIn ws).map D.str) = FT at *
          generalize D.list (ws.map D.str) = WL at *
          generalize D.tup (ws.map D.str) = WT at *
          unfold m_faults_in
          simp [dl, q1', tp, ln, l1, gt, fc, tp2, q2, nd]
        · rw [if_neg (fun z => h4 z.2)]
          rw [decide_eq_false h4] at q2
          generalize D.list ((fieldsIn ws).map D.str) = FL at *
          generalize D.tup ((fieldsIn ws).map D.str) = FT at *
          generalize D.list (ws.map D.str) = WL at *
          generalize D.tup (ws.map D.str) = WT at *
          unfold m_faults_in
          simp [dl, q1', tp, ln, l1, gt, fc, tp2, q2, nd]
theorem fields_w (ws : List Tx) : wsum (fieldsIn ws) ≤ 22 := Nat.le_trans (wsum_sub List.filter_sublist) (by decide)
theorem faIn_sm {ws f : List Tx} (h : faIn ws = some f) : Sm f := by
  unfold faIn at h
  unfold Sm
  split at h
  · cases h; simp [wsum]
  · split at h
    · rename_i c
      cases h
      match ws, c with
      | [w], c =>
        have : ∀ x ∈ alone, x.length ≤ 5 := by decide
        have := this w c.2
        simp [wsum]; omega
    · split at h
      · rename_i c
        cases h
        rw [c.2]
        have := fields_w ws
        omega
      · cases h
/-- one row -/
def rdRow (n : Nat) (r : Tx) : Option (List Tx) := match splitC 32 r with
  | w0 :: ws => if w0 = numC n then faIn ws else none
  | [] => none
def rdRows : Nat → List Tx → Option (List (List Tx))
  | _, [] => some []
  | n, r :: rs => match rdRow n r with
    | none => none
    | some f => match rdRows (n + 1) rs with
      | none => none
      | some F => some (f :: F)
theorem split_cons (c : Nat) (t : Tx) : ∃ w ws, splitC c t = w :: ws := by
  cases e : splitC c t with
  | nil => have := split_w c t; rw [e] at this; simp [wsum] at this
  | cons w ws => exact ⟨w, ws, rfl⟩
theorem rr_step0 (w0 : Tx) (ws : List Tx) (n : D) (nc r : Tx) (hs : strD [n] = some (.str nc)) (he : splitC 32 r = w0 :: ws) (hr : TxOk r) (xs : List D) (hx : xs.length < 100000) (x0 x4 : Option D) (st : Sto) :
    ∃ y4, b_read_report_1 [x0, some (.list xs), some n, some (.str r), x4] st = match (if w0 = nc then faIn ws else none) with | some f => .nx [x0, some (.list (xs ++ [tD f])), some n, some (.str r), y4] st | none => .exc 0 st := by
  have sp := split_ok hr
  rw [he] at sp
  have ix : idxD (.list ((w0 :: ws).map D.str)) (.int 0) = some (.str w0) := by simp [idxD, ixD]
  have sl : sliceD (.list ((w0 :: ws).map D.str)) (some 1) none = some (.list (ws.map D.str)) := by
    simp only [sliceD]
    rw [cut_map, cut_hi _ (by omega) (by simp; omega)]; rfl
  have q := eq_str w0 nc
  have fi := faults_in_eq ws st
  have sX : isStrD (.str r) = true := rfl
  have lX : isListD (.list xs) = true := rfl
  have ap : ∀ d, appendD (.list xs) [d] = some (.list (xs ++ [d])) := fun d => by simp only [appendD]; rw [if_pos (by rw [sz_eq]; omega)]
  have nd := fun b => need_ok b st
  by_cases h : w0 = nc
  · rw [decide_eq_true h] at q
    rw [if_pos h]
    cases hf : faIn ws with
    | none =>
      rw [hf] at fi
      simp only [] at fi
      generalize D.list ((w0 :: ws).map D.str) = WL at *
      generalize D.list (ws.map D.str) = SL at *
      generalize D.list xs = XL at *
      generalize D.str r = RD at *
      exact ⟨x4, by unfold b_read_report_1; simp [sX, sp, ix, hs, q, nd, lX, sl, fi]⟩
    | some f =>
      rw [hf] at fi
      simp only [] at fi
      have ap := ap (tD f)
      refine ⟨some (.list ((w0 :: ws).map D.str)), ?_⟩
      simp only []
      generalize D.list ((w0 :: ws).map D.str) = WL at *
      generalize D.list (ws.map D.str) = SL at *
      generalize D.list (xs ++ [tD f]) = XL2 at *
      generalize D.list xs = XL at *
      generalize tD f = FD at *
      generalize D.str r = RD at *
      unfold b_read_report_1
      simp [sX, sp, ix, hs, q, nd, lX, sl, fi, ap]
  · rw [decide_eq_false h] at q
    rw [if_neg h]
    generalize D.list ((w0 :: ws).map D.str) = WL at *
    generalize D.list xs = XL at *
    generalize D.str r = RD at *
    exact ⟨x4, by unfold b_read_report_1; simp [sX, sp, ix, hs, q, nd]⟩
theorem rr_step (n : Nat) (hn : n < 100000) (r : Tx) (hr : TxOk r) (xs : List D) (hx : xs.length < 100000) (x0 x4 : Option D) (st : Sto) :
    ∃ y4, b_read_report_1 [x0, some (.list xs), some (.int (n : Nat)), some (.str r), x4] st = match rdRow n r with | some f => .nx [x0, some (.list (xs ++ [tD f])), some (.int (n : Nat)), some (.str r), y4] st | none => .exc 0 st := by
  obtain ⟨w0, ws, e⟩ := split_cons 32 r
  have h := rr_step0 w0 ws (.int (n : Nat)) (numC n) r (str_lt (by omega)) e hr xs hx x0 x4 st
  have : rdRow n r = if w0 = numC n then faIn ws else none := by unfold rdRow; rw [e]
  rw [this]; exact h
theorem rr_loop (x0 : Option D) (st : Sto) : ∀ (rows : List Tx) (n : Nat) (xs : List (List Tx)) (x2 x3 x4 : Option D), (∀ r ∈ rows, TxOk r) → n + rows.length < 100000 → xs.length + rows.length < 100000 →
    ∃ y2 y3 y4, forL (gT [2, 3]) b_read_report_1 (enumL n (rows.map D.str)) [x0, some (.list (xs.map tD)), x2, x3, x4] st = match rdRows n rows with | some F => .nx [x0, some (.list ((xs ++ F).map tD)), y2, y3, y4] st | none => .exc 0 st
  | [], n, xs, x2, x3, x4, _, _, _ => ⟨x2, x3, x4, by simp [rdRows, enumL]⟩
  | r :: rows, n, xs, x2, x3, x4, hr, hn, hx => by
    rw [List.length_cons] at hn hx
    obtain ⟨z4, step⟩ := rr_step n (by omega) r (hr r List.mem_cons_self) (xs.map tD) (by rw [List.length_map]; omega) x0 x4 st
    rw [List.map_cons]
    unfold enumL rdRows
    have tg : gT [2, 3] (.tup [.int (n : Nat), .str r]) [x0, some (.list (xs.map tD)), x2, x3, x4] = some [x0, some (.list (xs.map tD)), some (.int (n : Nat)), some (.str r), x4] := rfl
    cases hd : rdRow n r with
    | none =>
      rw [hd] at step
      exact ⟨x2, x3, x4, forL_exc tg step⟩
    | some f =>
      rw [hd] at step
      have em : (xs ++ [f]).map tD = xs.map tD ++ [tD f] := by rw [List.map_append]; rfl
      obtain ⟨y2, y3, y4, e⟩ := rr_loop x0 st rows (n + 1) (xs ++ [f]) (some (.int (n : Nat))) (some (.str r)) z4 (fun q hq => hr q (List.mem_cons_of_mem _ hq)) (by omega) (by simp; omega)
      refine ⟨y2, y3, y4, ?_⟩
      rw [em] at e
      rw [forL_nx tg step, e]
      cases rdRows (n + 1) rows with
      | none => rfl
      | some F => simp only [List.append_assoc, List.singleton_append]
theorem rdRows_sm : ∀ {rows : List Tx} {n : Nat} {F : List (List Tx)}, rdRows n rows = some F → F.length = rows.length ∧ ∀ f ∈ F, Sm f
  | [], n, F, h => by cases h; exact ⟨rfl, fun f hf => by cases hf⟩
  | r :: rows, n, F, h => by
    unfold rdRows at h
    cases hd : rdRow n r with
    | none => rw [hd] at h; cases h
    | some f =>
      rw [hd] at h
      cases hs : rdRows (n + 1) rows with
      | none => rw [hs] at h; cases h
      | some F' =>
        rw [hs] at h
        cases h
        obtain ⟨l, a⟩ := rdRows_sm hs
        refine ⟨by simp [l], fun g hg => ?_⟩
        rcases List.mem_cons.mp hg with rfl | hg
        · unfold rdRow at hd
          split at hd
          · split at hd
            · exact faIn_sm hd
            · cases hd
          · cases hd
        · exact a g hg
/-- the faults of which a text is the report -/
def rdRep (t : Tx) : Option (List (List Tx)) := match rdRows 0 (splitC 10 t).dropLast with
  | some F => if repT 0 F = t then some F else none
  | none => none
theorem cut_last {α : Type} (xs : List α) : cutD xs none (some (-1)) = xs.dropLast := by
  have e : sIxD xs.length xs.length (some (-1)) = xs.length - 1 := by
    unfold sIxD
    simp only []
    rw [if_pos (by omega)]
    omega
  have e0 : sIxD xs.length 0 none = 0 := rfl
  unfold cutD
  rw [e, e0, List.dropLast_eq_take]
  simp
theorem read_report_eq (t : Tx) (ht : t.length ≤ 15000) (st : Sto) : d_read_report [.str t] st = match rdRep t with | some F => .ok (.tup (F.map tD)) st | none => .exc 0 st := by
  have sp : splitD (.str t) [.str [10]] = some (.list ((splitC 10 t).map D.str)) := by
    simp only [splitD]
    rw [if_pos ⟨by decide, by rw [sz_eq]; omega⟩]
  have sl : sliceD (.list ((splitC 10 t).map D.str)) none (some (-1)) = some (.list ((splitC 10 t).dropLast.map D.str)) := by
    simp only [sliceD]
    rw [cut_map, cut_last]
  have w := split_w 10 t
  have wl := wsum_len (splitC 10 t)
  have dl : (splitC 10 t).dropLast.length ≤ t.length := by rw [List.length_dropLast]; omega
  have tx : ∀ r ∈ (splitC 10 t).dropLast, TxOk r := fun r hr => by
    have := wsum_mem (List.dropLast_subset _ hr)
    unfold TxOk; omega
  obtain ⟨y2, y3, y4, lp⟩ := rr_loop (some (.str t)) st (splitC 10 t).dropLast 0 [] none none none tx (by omega) (by simp; omega)
  rw [List.map_nil] at lp
  have iX : instD isStrD (.str t) = some (.bool true) := rfl
  have sX : isStrD (.str t) = true := rfl
  have nd := fun b => need_ok b st
  have dl0 : dispL [] = some (.list []) := rfl
  have ng : negD (.int 1) = some (.int (-1)) := rfl
  have en : enumA [.list ((splitC 10 t).dropLast.map D.str)] = some (enumL 0 ((splitC 10 t).dropLast.map D.str)) := rfl
  have ei : ∀ (m : MA) env, iA enumA m env st = (m env st).bind fun xs st => ofOpt (enumA xs) st := fun m env => rfl
  show (match m_read_report [some (.str t), none, none, none, none] st with | .nx _ st1 => (R.ok D.non st1 : R D) | .rt d st1 => R.ok d st1 | .exc c st1 => R.exc c st1 | .bad => R.bad) = _
  unfold rdRep
  cases hr : rdRows 0 (splitC 10 t).dropLast with
  | none =>
    rw [hr] at lp
    simp only [] at lp ⊢
    generalize (enumL 0 ((splitC 10 t).dropLast.map D.str)) = EL at *
    generalize D.list ((splitC 10 t).dropLast.map D.str) = DL at *
    generalize D.list ((splitC 10 t).map D.str) = SL at *
    generalize D.str t = T at *
    unfold m_read_report
    simp [iX, nd, dl0, sX, sp, ng, sl, ei, en, lp]
  | some F =>
    rw [hr] at lp
    simp only [List.nil_append] at lp ⊢
    obtain ⟨fl, fs⟩ := rdRows_sm hr
    have rp := report_ok (enum_list F) fs (by omega) st
    have q := eq_str (repT 0 F) t
    have tp : tupleD [.list (F.map tD)] = some (.tup (F.map tD)) := rfl
    by_cases h : repT 0 F = t
    · rw [if_pos h]
      rw [decide_eq_true h] at q
      simp only []
      generalize D.str (repT 0 F) = RT at *
      generalize (enumL 0 ((splitC 10 t).dropLast.map D.str)) = EL at *
      generalize D.list ((splitC 10 t).dropLast.map D.str) = DL at *
      generalize D.list ((splitC 10 t).map D.str) = SL at *
      generalize D.list (F.map tD) = FL at *
      generalize D.tup (F.map tD) = FT at *
      generalize D.str t = T at *
      unfold m_read_report
      simp [iX, nd, dl0, sX, sp, ng, sl, ei, en, lp, rp, q, tp]
    · rw [if_neg h]
      rw [decide_eq_false h] at q
      simp only []
      generalize D.str (repT 0 F) = RT at *
      generalize (enumL 0 ((splitC 10 t).dropLast.map D.str)) = EL at *
      generalize D.list ((splitC 10 t).dropLast.map D.str) = DL at *
      generalize D.list ((splitC 10 t).map D.str) = SL at *
      generalize D.list (F.map tD) = FL at *
      generalize D.str t = T at *
      unfold m_read_report
      simp [iX, nd, dl0, sX, sp, ng, sl, ei, en, lp, rp, q]
end Dn

/-! PuRep3: reports read again (pure). -/
namespace Dn
theorem splitC_eq (c x : Nat) (r : Tx) : splitC c (x :: r) = if x = c then [] :: splitC c r else match splitC c r with | w :: ws => (x :: w) :: ws | [] => [[x]] := rfl
theorem rdRows_eq (n : Nat) (r : Tx) (rs : List Tx) : rdRows n (r :: rs) = match rdRow n r with | none => none | some f => match rdRows (n + 1) rs with | none => none | some F => some (f :: F) := rfl
theorem splitG_one {c : Nat} {a : Tx} (h : c ∉ a) : splitC c a = [a] := by
  induction a with
  | nil => rfl
  | cons x a ih =>
    unfold splitC
    rw [if_neg (fun z => h (by rw [z]; exact List.mem_cons_self)), ih (fun z => h (List.mem_cons_of_mem _ z))]
theorem splitG_app {c : Nat} {a b : Tx} (h : c ∉ a) : splitC c (a ++ c :: b) = a :: splitC c b := by
  induction a with
  | nil => show splitC c (c :: b) = _; rw [splitC_eq, if_pos rfl]
  | cons x a ih =>
    show splitC c (x :: (a ++ c :: b)) = _
    rw [splitC_eq, if_neg (fun z => h (by rw [z]; exact List.mem_cons_self)), ih (fun z => h (List.mem_cons_of_mem _ z))]
theorem split_join {c : Nat} : ∀ {ws : List Tx}, ws ≠ [] → (∀ w ∈ ws, c ∉ w) → splitC c (joinC [c] ws) = ws
  | [], h, _ => absurd rfl h
  | [w], _, h => splitG_one (h w List.mem_cons_self)
  | w :: v :: r, _, h => by
    show splitC c (w ++ ([c] ++ joinC [c] (v :: r))) = _
    rw [List.singleton_append, splitG_app (h w List.mem_cons_self), split_join (by simp) fun x hx => h x (List.mem_cons_of_mem _ hx)]
theorem endT_cons (r : Tx) (rows : List Tx) : endT (r :: rows) = r ++ 10 :: endT rows := by simp [endT]
theorem endT_app (a b : List Tx) : endT (a ++ b) = endT a ++ endT b := by simp [endT]
theorem split_end : ∀ {rows : List Tx}, (∀ r ∈ rows, 10 ∉ r) → splitC 10 (endT rows) = rows ++ [[]]
  | [], _ => rfl
  | r :: rows, h => by
    rw [endT_cons, splitG_app (h r List.mem_cons_self), split_end fun x hx => h x (List.mem_cons_of_mem _ hx)]; rfl
/-- faults as judged may tell them -/
def FauOk (f : List Tx) : Prop := f = [] ∨ (∃ w ∈ alone, f = [w]) ∨ (f ≠ [] ∧ f = fieldsIn f)
theorem FauOk.sm {f : List Tx} (h : FauOk f) : Sm f := by
  unfold Sm
  rcases h with rfl | ⟨w, hw, rfl⟩ | ⟨_, h⟩
  · simp [wsum]
  · have : ∀ x ∈ alone, x.length ≤ 5 := by decide
    have := this w hw
    simp [wsum]; omega
  · rw [h]; have := fields_w f; omega
theorem fields_mem {f : List Tx} {w : Tx} (h : w ∈ fieldsIn f) : w ∈ fields := (List.mem_filter.mp h).1
theorem FauOk.word {f : List Tx} (h : FauOk f) {w : Tx} (hw : w ∈ rpW f) : w ∈ wOk :: (alone ++ fields) := by
  unfold rpW at hw
  rcases h with rfl | ⟨v, hv, rfl⟩ | ⟨hn, h⟩
  · rw [if_pos rfl] at hw; rw [List.mem_singleton.mp hw]; exact List.mem_cons_self
  · rw [if_neg (by simp)] at hw
    rw [List.mem_singleton.mp hw]
    exact List.mem_cons_of_mem _ (List.mem_append_left _ hv)
  · rw [if_neg hn, h] at hw
    exact List.mem_cons_of_mem _ (List.mem_append_right _ (fields_mem hw))
theorem words_no : ∀ w ∈ wOk :: (alone ++ fields), 32 ∉ w ∧ 10 ∉ w := by decide
theorem faIn_ok {f : List Tx} (h : FauOk f) : faIn (rpW f) = some f := by
  unfold faIn
  rcases h with rfl | ⟨v, hv, rfl⟩ | ⟨hn, h⟩
  · rfl
  · have e : rpW [v] = [v] := rfl
    rw [e]
    have ne : [v] ≠ [wOk] := fun z => by
      have : v = wOk := by injection z
      rw [this] at hv; revert hv; decide
    rw [if_neg ne, if_pos ⟨rfl, hv⟩]
  · have e : rpW f = f := by unfold rpW; rw [if_neg hn]
    rw [e]
    have ne : f ≠ [wOk] := fun z => by
      have : wOk ∈ fieldsIn f := by rw [← h, z]; exact List.mem_cons_self
      have := fields_mem this
      revert this; decide
    rw [if_neg ne]
    split
    · rfl
    · rw [if_pos ⟨hn, h⟩]
theorem num_no10 : ∀ n, n < 1000 → 10 ∉ numC n := by decide +kernel
theorem numC_inj {m n : Nat} (hm : m < 1000) (hn : n < 1000) (h : numC m = numC n) : m = n := by
  have a := num_amt m hm
  have b := num_amt n hn
  rw [h, b] at a
  injection a with a
  omega
theorem rpRow_split {n : Nat} {f : List Tx} (hn : n < 1000) (hf : FauOk f) : splitC 32 (rpRow n f) = numC n :: rpW f := by
  unfold rpRow
  refine split_join (by simp) fun w hw => ?_
  rcases List.mem_cons.mp hw with rfl | hw
  · exact num_no32 n hn
  · exact (words_no w (hf.word hw)).1
theorem joinC_memb {sep : Tx} : ∀ {ls : List Tx} {c : Nat}, c ∈ joinC sep ls → c ∈ sep ∨ ∃ l ∈ ls, c ∈ l
  | [], c, h => by cases h
  | [p], c, h => .inr ⟨p, by simp, h⟩
  | p :: q :: r, c, h => by
    rcases List.mem_append.mp (show c ∈ p ++ (sep ++ joinC sep (q :: r)) from h) with h | h
    · exact .inr ⟨p, by simp, h⟩
    · rcases List.mem_append.mp h with h | h
      · exact .inl h
      · rcases joinC_memb h with h | ⟨l, hl, hc⟩
        · exact .inl h
        · exact .inr ⟨l, List.mem_cons_of_mem _ hl, hc⟩
theorem rpRow_no10 {n : Nat} {f : List Tx} (hn : n < 1000) (hf : FauOk f) : 10 ∉ rpRow n f := fun h => by
  rcases joinC_memb h with h | ⟨l, hl, h⟩
  · revert h; decide
  · rcases List.mem_cons.mp hl with rfl | hl
    · exact num_no10 n hn h
    · exact (words_no l (hf.word hl)).2 h
theorem rdRow_ok {n : Nat} {f : List Tx} (hn : n < 1000) (hf : FauOk f) : rdRow n (rpRow n f) = some f := by
  unfold rdRow
  rw [rpRow_split hn hf]
  simp only [if_true]
  exact faIn_ok hf
theorem rdRow_other {m n : Nat} {f : List Tx} (hm : m < 1000) (hn : n < 1000) (hf : FauOk f) (h : m ≠ n) : rdRow m (rpRow n f) = none := by
  unfold rdRow
  rw [rpRow_split hn hf]
  simp only []
  rw [if_neg fun z => h (numC_inj hn hm z).symm]
theorem rdRows_app : ∀ {F : List (List Tx)} {n : Nat} (rs : List Tx), (∀ f ∈ F, FauOk f) → n + F.length ≤ 1000 → rdRows n (rpRows n F ++ rs) = (rdRows (n + F.length) rs).map (F ++ ·)
  | [], n, rs, _, _ => by
    show rdRows n rs = _
    cases rdRows n rs <;> simp
  | f :: F, n, rs, hf, hn => by
    rw [List.length_cons] at hn
    have ih := rdRows_app (F := F) (n := n + 1) rs (fun g hg => hf g (List.mem_cons_of_mem _ hg)) (by omega)
    show rdRows n (rpRow n f :: (rpRows (n + 1) F ++ rs)) = _
    rw [rdRows_eq, rdRow_ok (by omega) (hf f List.mem_cons_self)]
    simp only []
    rw [ih, List.length_cons, show n + (F.length + 1) = n + 1 + F.length by omega]
    cases rdRows (n + 1 + F.length) rs <;> rfl
theorem rdRows_ok {F : List (List Tx)} {n : Nat} (hf : ∀ f ∈ F, FauOk f) (hn : n + F.length ≤ 1000) : rdRows n (rpRows n F) = some F := by
  have := rdRows_app (F := F) (n := n) [] hf hn
  rw [List.append_nil] at this
  rw [this]; simp [rdRows]
theorem rows_no10 {F : List (List Tx)} {n : Nat} (hf : ∀ f ∈ F, FauOk f) (hn : n + F.length ≤ 1000) : ∀ r ∈ rpRows n F, 10 ∉ r := rpRows_all F n fun m f h1 h2 hm => rpRow_no10 (by omega) (hf f hm)
theorem rdRep_end {rows : List Tx} (h : ∀ r ∈ rows, 10 ∉ r) : rdRep (endT rows) = match rdRows 0 rows with | some F => if repT 0 F = endT rows then some F else none | none => none := by
  unfold rdRep
  rw [split_end h, List.dropLast_concat]
  all_goals (cases rdRows 0 rows <;> rfl)
theorem rdRep_ok {F : List (List Tx)} (hf : ∀ f ∈ F, FauOk f) (hn : F.length ≤ 1000) : rdRep (repT 0 F) = some F := by
  unfold repT
  rw [rdRep_end (rows_no10 hf (by omega)), rdRows_ok hf (by omega)]
  simp only []
  rw [if_pos (show repT 0 F = endT (rpRows 0 F) from rfl)]
theorem rpRows_take : ∀ (F : List (List Tx)) (n k : Nat), (rpRows n F).take k = rpRows n (F.take k)
  | [], n, k => by simp [rpRows]
  | f :: F, n, 0 => by simp [rpRows]
  | f :: F, n, k + 1 => by simp [rpRows, rpRows_take F (n + 1) k]
theorem rpRows_drop : ∀ (F : List (List Tx)) (n k : Nat), (rpRows n F).drop k = rpRows (n + k) (F.drop k)
  | [], n, k => by simp [rpRows]
  | f :: F, n, 0 => by simp [rpRows]
  | f :: F, n, k + 1 => by
    have := rpRows_drop F (n + 1) k
    simp only [rpRows, List.drop_succ_cons]
    rw [this, show n + 1 + k = n + (k + 1) by omega]
/-- rows that begin with another number -/
theorem rdRep_late {F : List (List Tx)} {k : Nat} (hf : ∀ f ∈ F, FauOk f) (hn : F.length ≤ 900) (h0 : 0 < k) (h1 : k < F.length) {more : List Tx} (hm : ∀ r ∈ more, 10 ∉ r) : rdRep (endT (rpRows k (F.drop k) ++ more)) = none := by
  have hd : ∀ f ∈ F.drop k, FauOk f := fun f h => hf f (List.mem_of_mem_drop h)
  have ln : (F.drop k).length = F.length - k := by simp
  rw [rdRep_end (fun r hr => by
    rcases List.mem_append.mp hr with h | h
    · exact rows_no10 hd (by omega) r h
    · exact hm r h)]
  cases e : F.drop k with
  | nil => rw [e] at ln; simp at ln; omega
  | cons f G =>
    show (match rdRows 0 (rpRow k f :: (rpRows (k + 1) G ++ more)) with | some F => _ | none => _) = _
    unfold rdRows
    rw [rdRow_other (by omega) (by omega) (hd f (by rw [e]; exact List.mem_cons_self)) (by omega)]
theorem rdRep_twice {F : List (List Tx)} (hf : ∀ f ∈ F, FauOk f) (hn : F.length ≤ 900) (h0 : F ≠ []) : rdRep (repT 0 F ++ repT 0 F) = none := by
  have hp : 0 < F.length := List.length_pos_iff.mpr h0
  unfold repT
  rw [← endT_app, rdRep_end (fun r hr => by
    rcases List.mem_append.mp hr with h | h <;> exact rows_no10 hf (by omega) r h), rdRows_app _ hf (by omega)]
  match F, hf, hp with
  | f :: G, hf, hp =>
    have : rdRows (0 + (f :: G).length) (rpRows 0 (f :: G)) = none := by
      show rdRows (0 + (f :: G).length) (rpRow 0 f :: rpRows 1 G) = none
      unfold rdRows
      rw [rdRow_other (by simp at hn ⊢; omega) (by omega) (hf f List.mem_cons_self) (by simp)]
    rw [this]; rfl
theorem nm4_ok (b1 b2 b3 b4 : Bool) : FauOk (nm4 b1 b2 b3 b4) := by
  cases b1 <;> cases b2 <;> cases b3 <;> cases b4 <;> first | exact .inl rfl | exact .inr (.inr ⟨by decide, by decide⟩)
theorem alone_ok {w : Tx} (h : w ∈ alone) : FauOk [w] := .inr (.inl ⟨w, h, rfl⟩)
theorem fau4_nm (pn : Pn) (k p a g : Tx) : nm4 (!isNameB k) (decide (p ≠ [45]) && !isNameB p) (!amtOk pn a) (decide (g ∉ pn.tags)) = fau4 pn k p a g := by
  unfold nm4 fau4
  congr 1
  · congr 1
    · congr 1
      · cases isNameB k <;> rfl
      · by_cases h : p = [45] <;> cases hn : isNameB p <;> simp [h]
    · cases amtOk pn a <;> rfl
  · by_cases h : g ∈ pn.tags <;> simp [h]
theorem faus_ok (pn : Pn) (t : Tx) : FauOk (faus pn t) := by
  unfold faus
  split
  · split
    · exact alone_ok (by decide)
    · rw [← fau4_nm]; exact nm4_ok _ _ _ _
  · exact alone_ok (by decide)
theorem vd_fau (pn : Pn) (heap : List Tx) (t : Tx) : FauOk (vd pn heap t) := by
  unfold vd
  split
  · exact faus_ok pn t
  · split
    · exact alone_ok (by decide)
    · unfold verd
      split
      · exact .inl rfl
      · split
        · exact alone_ok (by decide)
        · exact alone_ok (by decide)
/-! ### drawn faults -/
def lsB4 : MS := (sIf (e2 eqD (e2 modD (e2 fdivD (eVar 0) (e2 idxD (eA dispT (aCons (eC (.int 4)) (aCons (eC (.int 8)) (aCons (eC (.int 16)) (aCons (eC (.int 32)) aNil))))) (eVar 2))) (eC (.int 2))) (eC (.int 1))) (sAsg (gN 1) (e2 addD (eVar 1) (eA dispT (aCons (eVar 3) aNil)))) sSkip)
theorem ls_step (n q : Int) (k : Nat) (xs : List Tx) (w : Tx) (st : Sto) (hx : xs.length < 100) (hq : 0 < q ∧ q < 1000) (hk : idxD (.tup [.int 4, .int 8, .int 16, .int 32]) (.int (k : Int)) = some (.int q)) :
    lsB4 [some (.int n), some (tD xs), some (.int (k : Int)), some (.str w)] st = .nx [some (.int n), some (tD (xs ++ if decide (n / q % 2 = 1) then [w] else [])), some (.int (k : Int)), some (.str w)] st := by
  have d4 : dispT [.int 4, .int 8, .int 16, .int 32] = some (.tup [.int 4, .int 8, .int 16, .int 32]) := rfl
  have dv : fdivD (.int n) (.int q) = some (.int (n / q)) := fdiv_pos (by omega)
  have m2 : modD (.int (n / q)) (.int 2) = some (.int (n / q % 2)) := mod_pos (by omega)
  have e1 := eq_int (n / q % 2) 1
  have d1 : dispT [.str w] = some (.tup [.str w]) := rfl
  have ad : addD (tD xs) (.tup [.str w]) = some (tD (xs ++ [w])) := by
    unfold tD
    rw [addT (by rw [List.length_map]; simp; omega), List.map_append]; rfl
  generalize D.tup [.int 4, .int 8, .int 16, .int 32] = T4 at *
  by_cases h : n / q % 2 = 1
  · rw [decide_eq_true h] at e1 ⊢
    simp only [if_true]
    generalize tD (xs ++ [w]) = X2 at *
    generalize tD xs = X1 at *
    unfold lsB4
    simp [d4, hk, dv, m2, e1, d1, ad]
  · rw [decide_eq_false h] at e1 ⊢
    simp only [Bool.false_eq_true, if_false, List.append_nil]
    generalize tD xs = X1 at *
    unfold lsB4
    simp [d4, hk, dv, m2, e1]
theorem some_ok (n : Int) (h0 : 0 ≤ n) (st : Sto) : ∃ f, d_law_some [.int n] st = .ok (tD f) st ∧ FauOk f := by
  have m4 : modD (.int n) (.int 4) = some (.int (n % 4)) := mod_pos (by omega)
  have q0 := eq_int (n % 4) 0
  have q1 := eq_int (n % 4) 1
  have e0 : dispT [] = some (.tup []) := rfl
  by_cases h : n % 4 = 0
  · refine ⟨[], run_rt ?_ rfl, .inl rfl⟩
    show m_law_some [some (.int n), none, none, none] st = _
    rw [decide_eq_true h] at q0
    unfold m_law_some
    simp [m4, q0, e0]; rfl
  · rw [decide_eq_false h] at q0
    by_cases h1 : n % 4 = 1
    · rw [decide_eq_true h1] at q1
      have d4 : fdivD (.int n) (.int 4) = some (.int (n / 4)) := fdiv_pos (by omega)
      have m44 : modD (.int (n / 4)) (.int 4) = some (.int (n / 4 % 4)) := mod_pos (by omega)
      have dw : dispT [.str [99, 111, 117, 110, 116], .str [116, 119, 105, 99, 101], .str [114, 105, 110, 103], .str [108, 111, 115, 116]] = some (tD alone) := rfl
      have pk : ∃ w ∈ alone, idxD (tD alone) (.int (n / 4 % 4)) = some (.str w) := by
        have : n / 4 % 4 = 0 ∨ n / 4 % 4 = 1 ∨ n / 4 % 4 = 2 ∨ n / 4 % 4 = 3 := by omega
        rcases this with h | h | h | h <;> rw [h]
        · exact ⟨wCount, by decide, rfl⟩
        · exact ⟨wTwice, by decide, rfl⟩
        · exact ⟨wRing, by decide, rfl⟩
        · exact ⟨wLost, by decide, rfl⟩
      obtain ⟨w, hw, pk⟩ := pk
      have d1 : dispT [.str w] = some (tD [w]) := rfl
      refine ⟨[w], run_rt ?_ rfl, alone_ok hw⟩
      show m_law_some [some (.int n), none, none, none] st = _
      generalize tD alone = AT at *
      generalize tD [w] = WT at *
      unfold m_law_some
      simp [m4, q0, q1, dw, d4, m44, pk, d1]
    · rw [decide_eq_false h1] at q1
      have s0 := ls_step n 4 0 [] wKey st (by simp) (by omega) rfl
      have s1 := ls_step n 8 1 ([] ++ if decide (n / 4 % 2 = 1) then [wKey] else []) wPar st (by simp; split <;> simp) (by omega) rfl
      have s2 := ls_step n 16 2 (([] ++ if decide (n / 4 % 2 = 1) then [wKey] else []) ++ if decide (n / 8 % 2 = 1) then [wPar] else []) wAmt st (by simp; split <;> split <;> simp) (by omega) rfl
      have s3 := ls_step n 32 3 ((([] ++ if decide (n / 4 % 2 = 1) then [wKey] else []) ++ if decide (n / 8 % 2 = 1) then [wPar] else []) ++ if decide (n / 16 % 2 = 1) then [wAmt] else []) wTag st (by simp; split <;> split <;> split <;> simp) (by omega) rfl
      have ef : ((([] ++ if decide (n / 4 % 2 = 1) then [wKey] else []) ++ if decide (n / 8 % 2 = 1) then [wPar] else []) ++ if decide (n / 16 % 2 = 1) then [wAmt] else []) ++ (if decide (n / 32 % 2 = 1) then [wTag] else []) = nm4 (decide (n / 4 % 2 = 1)) (decide (n / 8 % 2 = 1)) (decide (n / 16 % 2 = 1)) (decide (n / 32 % 2 = 1)) := by
        rw [List.nil_append]; rfl
      rw [ef] at s3
      generalize (([] ++ if decide (n / 4 % 2 = 1) then [wKey] else []) ++ if decide (n / 8 % 2 = 1) then [wPar] else []) ++ (if decide (n / 16 % 2 = 1) then [wAmt] else []) = X3 at *
      generalize ([] ++ if decide (n / 4 % 2 = 1) then [wKey] else []) ++ (if decide (n / 8 % 2 = 1) then [wPar] else []) = X2 at *
      generalize ([] ++ if decide (n / 4 % 2 = 1) then [wKey] else []) = X1 at *
      refine ⟨_, run_rt ?_ rfl, nm4_ok (decide (n / 4 % 2 = 1)) (decide (n / 8 % 2 = 1)) (decide (n / 16 % 2 = 1)) (decide (n / 32 % 2 = 1))⟩
      show m_law_some [some (.int n), none, none, none] st = _
      generalize tD (nm4 (decide (n / 4 % 2 = 1)) (decide (n / 8 % 2 = 1)) (decide (n / 16 % 2 = 1)) (decide (n / 32 % 2 = 1))) = X4D at *
      have lp : forL (gT [2, 3]) lsB4 [.tup [.int ((0 : Nat) : Int), .str wKey], .tup [.int ((1 : Nat) : Int), .str wPar], .tup [.int ((2 : Nat) : Int), .str wAmt], .tup [.int ((3 : Nat) : Int), .str wTag]] [some (.int n), some (.tup []), none, none] st = .nx [some (.int n), some X4D, some (.int ((3 : Nat) : Int)), some (.str wTag)] st := by
        rw [forL_nx (env1 := [some (.int n), some (tD []), some (.int ((0 : Nat) : Int)), some (.str wKey)]) rfl s0, forL_nx (env1 := [some (.int n), some (tD X1), some (.int ((1 : Nat) : Int)), some (.str wPar)]) rfl s1, forL_nx (env1 := [some (.int n), some (tD X2), some (.int ((2 : Nat) : Int)), some (.str wAmt)]) rfl s2, forL_nx (env1 := [some (.int n), some (tD X3), some (.int ((3 : Nat) : Int)), some (.str wTag)]) rfl s3]
        rfl
      have en : enumA [.tup [.str wKey, .str wPar, .str wAmt, .str wTag]] = some [.tup [.int ((0 : Nat) : Int), .str wKey], .tup [.int ((1 : Nat) : Int), .str wPar], .tup [.int ((2 : Nat) : Int), .str wAmt], .tup [.int ((3 : Nat) : Int), .str wTag]] := rfl
      have dk : dispT [.str [107, 101, 121], .str [112, 97, 114, 101, 110, 116], .str [97, 109, 111, 117, 110, 116], .str [116, 97, 103]] = some (.tup [.str wKey, .str wPar, .str wAmt, .str wTag]) := rfl
      have ei : ∀ (m : MA) env, iA enumA m env st = (m env st).bind fun xs st => ofOpt (enumA xs) st := fun m env => rfl
      generalize [D.tup [.int ((0 : Nat) : Int), .str wKey], .tup [.int ((1 : Nat) : Int), .str wPar], .tup [.int ((2 : Nat) : Int), .str wAmt], .tup [.int ((3 : Nat) : Int), .str wTag]] = EL at *
      generalize D.tup [.str wKey, .str wPar, .str wAmt, .str wTag] = KT at *
      have em : m_law_some = (sSeq (sIf (e2 eqD (e2 modD (eVar 0) (eC (.int 4))) (eC (.int 0))) (sRet (eA dispT aNil)) sSkip) (sSeq (sIf (e2 eqD (e2 modD (eVar 0) (eC (.int 4))) (eC (.int 1))) (sRet (eA dispT (aCons (e2 idxD (eA dispT (aCons (eC (.str [99, 111, 117, 110, 116])) (aCons (eC (.str [116, 119, 105, 99, 101])) (aCons (eC (.str [114, 105, 110, 103])) (aCons (eC (.str [108, 111, 115, 116])) aNil))))) (e2 modD (e2 fdivD (eVar 0) (eC (.int 4))) (eC (.int 4)))) aNil))) sSkip) (sSeq (sAsg (gN 1) (eA dispT aNil)) (sSeq (sFor (iA enumA (aCons (eA dispT (aCons (eC (.str [107, 101, 121])) (aCons (eC (.str [112, 97, 114, 101, 110, 116])) (aCons (eC (.str [97, 109, 111, 117, 110, 116])) (aCons (eC (.str [116, 97, 103])) aNil))))) aNil)) (gT [2, 3]) lsB4) (sRet (eVar 1)))))) := rfl
      rw [em]
      generalize lsB4 = BB at *
      simp [m4, q0, q1, e0, ei, dk, en, lp]
end Dn

/-! PuWr: rows and their texts (pure). -/
namespace Dn
theorem name_len5 {l : Tx} (h : isNameB l = true) : l.length ≤ 5 := by
  unfold isNameB at h
  simp only [Bool.and_eq_true, decide_eq_true_eq] at h
  exact h.1.2
theorem rw_ok {pn : Pn} (P : PlanOk pn.lo pn.hi pn.tags) (n : Int) (h0 : 0 ≤ n) (st : Sto) : ∃ r : Rw, d_law_row [pn.d, .int n] st = .ok r.d st ∧ RwOk r ∧ pn.lo ≤ r.amt ∧ r.amt ≤ pn.hi ∧ r.tag ∈ pn.tags := by
  obtain ⟨k, p, a, t, e, h1, h2, h3, h4, h5⟩ := row_ok P n h0 st
  refine ⟨⟨k, p, a, t⟩, e, ⟨nameB_of h1, fun q hq => nameB_of (h2 q hq), ?_, ?_, nameB_of (P.name t h5)⟩, h3, h4, h5⟩
  · have := P.lo0; show 0 ≤ a; omega
  · have := P.hi1; show a ≤ 999; omega
theorem lawtext_rw {r : Rw} (h : RwOk r) (st : Sto) : d_law_text [r.d] st = .ok (.str r.txt) st ∧ r.txt.length ≤ 40 :=
  law_text_ok (name_len5 h.key) (fun q hq => name_len5 (h.par q hq)) h.a0 h.a1 (name_len5 h.tag) st
end Dn

/-! PuWw: written (pure). -/
namespace Dn
theorem name_len {l : Tx} (h : isNameB l = true) : l.length ≤ 5 := by
  unfold isNameB at h
  simp only [Bool.and_eq_true, decide_eq_true_eq] at h
  exact h.1.2
theorem join4 (k p na g : Tx) (hk : k.length ≤ 5) (hp : p.length ≤ 5) (hn : na.length ≤ 3) (hg : g.length ≤ 5) : joinD (.str [32]) [.list [.str k, .str p, .str na, .str g]] = some (.str (k ++ [32] ++ p ++ [32] ++ na ++ [32] ++ g)) := by
  have e : strsD [.str k, .str p, .str na, .str g] = some [k, p, na, g] := rfl
  simp only [joinD, e, Option.bind_some]
  rw [if_pos (by rw [sz_eq]; simp; omega)]
  simp [joinC]
theorem written_ok {r : Rw} (h : RwOk r) (st : Sto) : d_written [r.d] st = .ok (.str r.txt) st := by
  have sa := str_amt h.a0 h.a1
  have ns := numC_small r.amt.toNat (by have := h.a1; omega)
  have hk := name_len h.key
  have hg := name_len h.tag
  have hp : ∀ p, r.par = some p → p.length ≤ 5 := fun p e => name_len (h.par p e)
  have et : r.txt = r.key ++ [32] ++ r.par.getD [45] ++ [32] ++ numC r.amt.toNat ++ [32] ++ r.tag := rfl
  generalize numC r.amt.toNat = na at sa ns et
  rw [et]
  clear et h
  obtain ⟨k, p, a, g⟩ := r
  show (match m_written [some (Rw.mk k p a g).d, none, none, none, none] st with | .nx _ st1 => (R.ok D.non st1 : R D) | .rt d st1 => R.ok d st1 | .exc c st1 => R.exc c st1 | .bad => R.bad) = _
  have sa : strD [.int a] = some (.str na) := sa
  cases p with
  | none =>
    have j := join4 k [45] na g hk (by simp) ns hg
    have e : (Rw.mk k none a g).d = .tup [.str k, .non, .int a, .str g] := rfl
    rw [e]
    unfold m_written
    show _ = R.ok (D.str (k ++ [32] ++ [45] ++ [32] ++ na ++ [32] ++ g)) st
    generalize (k ++ [32] ++ [45] ++ [32] ++ na ++ [32] ++ g) = X at j ⊢
    simp [isN2, isNonD, isStrD, dispL, sa, j]
  | some p =>
    have j := join4 k p na g hk (hp p rfl) ns hg
    have e : (Rw.mk k (some p) a g).d = .tup [.str k, .str p, .int a, .str g] := rfl
    rw [e]
    unfold m_written
    show _ = R.ok (D.str (k ++ [32] ++ p ++ [32] ++ na ++ [32] ++ g)) st
    generalize (k ++ [32] ++ p ++ [32] ++ na ++ [32] ++ g) = X at j ⊢
    simp [isN2, isNonD, isStrD, dispL, sa, j]
end Dn

/-! k12, pure. -/
namespace Dn
theorem split_joinA {c : Nat} {b : Tx} : ∀ {ws : List Tx}, ws ≠ [] → (∀ w ∈ ws, c ∉ w) → splitC c (joinC [c] ws ++ c :: b) = ws ++ splitC c b
  | [], h, _ => absurd rfl h
  | [w], _, h => splitG_app (h w List.mem_cons_self)
  | w :: v :: r, _, h => by
    show splitC c ((w ++ ([c] ++ joinC [c] (v :: r))) ++ c :: b) = _
    rw [List.singleton_append, List.append_assoc, List.cons_append, splitG_app (h w List.mem_cons_self), split_joinA (by simp) fun x hx => h x (List.mem_cons_of_mem _ hx)]; rfl
theorem faus_four {pn : Pn} {t k p a g : Tx} (h : splitC 32 t = [k, p, a, g]) (hn : [] ∉ [k, p, a, g]) : faus pn t = fau4 pn k p a g := by
  unfold faus; rw [h]; simp only []; rw [if_neg hn]
theorem faus_count {pn : Pn} {t : Tx} (h : (splitC 32 t).length ≠ 4) : faus pn t = [wCount] := by
  unfold faus
  split
  · rename_i e; rw [e] at h; exact absurd rfl h
  · rfl
def odd0 : List Tx := [[65], [115, 105, 120, 115, 105, 120], [45]]
def odd1 : List Tx := [[57], [115, 105, 120, 115, 105, 120]]
def odd2 : List Tx := [[48, 49], [45, 49], [49, 48, 48, 48], [120]]
def odd3 : List Tx := [[66], [116, 97, 103, 116, 97, 103]]
def oddD : D := .tup [tD odd0, tD odd1, tD odd2, tD odd3]
theorem odds_ok : (∀ w ∈ odd0, isNameB w = false ∧ 32 ∉ w ∧ w ≠ [] ∧ w.length ≤ 6) ∧ (∀ w ∈ odd1, isNameB w = false ∧ w ≠ [45] ∧ 32 ∉ w ∧ w ≠ [] ∧ w.length ≤ 6) ∧ (∀ w ∈ odd2, amtOf w = none ∧ 32 ∉ w ∧ w ≠ [] ∧ w.length ≤ 6) ∧ (∀ w ∈ odd3, isNameB w = false ∧ 32 ∉ w ∧ w ≠ [] ∧ w.length ≤ 6) := by decide +kernel
theorem k12_step {n : Int} {k : Nat} {od : List Tx} (hk : idxD oddD (.int (k : Int)) = some (tD od)) (ho : od ≠ []) {ws : List Tx} (hw : k < ws.length) (xs : List Tx) (hx : xs.length < 100) (wn : Tx) (e0 e1 e2' e3 e4 e5 e6 e13 : Option D) :
    ∃ (b : Bool) (w : Tx) (y13 : Option D), w ∈ od ∧ b_law_k12_1 [e0, e1, e2', e3, e4, e5, e6, some (.int n), some (.list (ws.map D.str)), some oddD, some (tD xs), some (.int (k : Int)), some (.str wn), e13, none, none, none, none, none, none] []
      = .nx [e0, e1, e2', e3, e4, e5, e6, some (.int n), some (.list ((if b then ws.set k w else ws).map D.str)), some oddD, some (tD (xs ++ if b then [wn] else [])), some (.int (k : Int)), some (.str wn), y13, none, none, none, none, none, none] [] := by
  have dr := drawn_eq n (k : Int) []
  have d4 : fdivD (.int (drawnN n k)) (.int 4) = some (.int (drawnN n k / 4)) := fdiv_pos (by omega)
  have b0 := (drawn_bd n (k : Int)).1
  generalize drawnN n (k : Int) / 4 = v at *
  have m2 : modD (.int v) (.int 2) = some (.int (v % 2)) := mod_pos (by omega)
  have q := eq_int (v % 2) 1
  have d2 : fdivD (.int v) (.int 2) = some (.int (v / 2)) := fdiv_pos (by omega)
  have op : 0 < od.length := List.length_pos_iff.mpr ho
  have ln := len_tD od
  have ml : modD (.int (v / 2)) (.int (od.length : Nat)) = some (.int (v / 2 % (od.length : Nat))) := mod_pos (by omega)
  obtain ⟨c0, c1⟩ := lcg_lt (v / 2) (od.length : Nat) (by omega)
  obtain ⟨w, hwm, ix⟩ : ∃ w ∈ od, idxD (tD od) (.int (v / 2 % (od.length : Nat))) = some (.str w) := by
    have hl : (v / 2 % (od.length : Nat)).toNat < od.length := by omega
    refine ⟨od[(v / 2 % (od.length : Nat)).toNat], List.getElem_mem hl, ?_⟩
    have e : ixD (od.map D.str).length (v / 2 % (od.length : Nat)) = some (v / 2 % (od.length : Nat)).toNat := by
      unfold ixD; rw [List.length_map, if_pos c0, if_pos c1]
    unfold tD
    simp only [idxD, e, Option.bind_some]
    rw [List.getElem?_map, List.getElem?_eq_getElem hl]; rfl
  have pt : putD (.list (ws.map D.str)) [.str w, .int (k : Int)] = some (.list ((ws.set k w).map D.str)) := by
    have e : ixD (ws.map D.str).length (k : Int) = some k := by
      unfold ixD; rw [List.length_map, if_pos (by omega), if_pos (by omega), Int.toNat_natCast]
    simp only [putD, e, Option.map_some, List.map_set]
  have lX : isListD (.list (ws.map D.str)) = true := rfl
  have dw : dispT [.str wn] = some (.tup [.str wn]) := rfl
  have ad : addD (tD xs) (.tup [.str wn]) = some (tD (xs ++ [wn])) := by
    unfold tD
    rw [addT (by rw [List.length_map]; simp; omega), List.map_append]; rfl
  refine ⟨decide (v % 2 = 1), w, some (.int v), hwm, ?_⟩
  generalize v / 2 % (od.length : Nat) = vi at *
  by_cases h : v % 2 = 1
  · rw [decide_eq_true h] at q ⊢
    simp only [if_true]
    generalize D.list ((ws.set k w).map D.str) = W2 at *
    generalize D.list (ws.map D.str) = W1 at *
    generalize tD (xs ++ [wn]) = X2 at *
    generalize tD xs = X1 at *
    generalize tD od = OD at *
    generalize oddD = OO at *
    unfold b_law_k12_1
    simp [dr, d4, m2, q, lX, hk, d2, ln, ml, ix, pt, dw, ad]
  · rw [decide_eq_false h] at q ⊢
    simp only [Bool.false_eq_true, if_false, List.append_nil]
    generalize D.list (ws.map D.str) = W1 at *
    generalize tD xs = X1 at *
    generalize oddD = OO at *
    unfold b_law_k12_1
    simp [dr, d4, m2, q]
/-- what the drawn words come to -/
structure W4 (pn : Pn) (ws : List Tx) (b0 b1 b2 b3 : Bool) : Prop where
  four : ∃ w0 w1 w2 w3, ws = [w0, w1, w2, w3] ∧ isNameB w0 = !b0 ∧ (decide (w1 ≠ [45]) && !isNameB w1) = b1 ∧ (∀ lo hi, 0 ≤ lo → lo ≤ pn.lo → pn.hi ≤ hi → ∀ tg, amtOk ⟨lo, hi, tg⟩ w2 = !b2) ∧ decide (w3 ∉ pn.tags) = b3
  no32 : ∀ w ∈ ws, 32 ∉ w
  ne : [] ∉ ws
  len : ∀ w ∈ ws, w.length ≤ 6
theorem W4.faus {pn : Pn} {ws : List Tx} {b0 b1 b2 b3 : Bool} (h : W4 pn ws b0 b1 b2 b3) {lo hi : Int} (h0 : 0 ≤ lo) (h1 : lo ≤ pn.lo) (h2 : pn.hi ≤ hi) (tg : List Tx) : ∃ b4, faus ⟨lo, hi, tg⟩ (joinC [32] ws) = nm4 b0 b1 b2 b4 ∧ (tg = pn.tags → b4 = b3) := by
  obtain ⟨w0, w1, w2, w3, rfl, e0, e1, e2, e3⟩ := h.four
  refine ⟨decide (w3 ∉ tg), ?_, fun e => by rw [e]; exact e3⟩
  rw [faus_four (split_join (by simp) h.no32) h.ne, ← fau4_nm, e0, e1, e2 lo hi h0 h1 h2 tg, Bool.not_not, Bool.not_not]
theorem k12_amt {pn : Pn} (P : PlanOk pn.lo pn.hi pn.tags) {r : Rw} (ro : RwOk r) (b3 : r.tag ∈ pn.tags) (e0 e4 e6 e7 e8 e9 e10 e11 e12 e13 e14 e15 e17 : Option D) (a : Int) :
    ∃ y17, b_law_k12_3 [e0, some pn.d, some (.int pn.lo), some (.int pn.hi), e4, some r.d, e6, e7, e8, e9, e10, e11, e12, e13, e14, e15, some (.int a), e17, none, none] [] = .nx [e0, some pn.d, some (.int pn.lo), some (.int pn.hi), e4, some r.d, e6, e7, e8, e9, e10, e11, e12, e13, e14, e15, some (.int a), y17, none, none] [] := by
  have c1 : leD (.int 0) (.int a) = some (.bool (decide (0 ≤ a))) := rfl
  have c2 : ltD (.int a) (.int 1000) = some (.bool (decide (a < 1000))) := rfl
  by_cases h1 : 0 ≤ a
  · rw [decide_eq_true h1] at c1
    by_cases h2 : a < 1000
    · rw [decide_eq_true h2] at c2
      have i0 := r.key_get
      have i3 : idxD r.d (.int 3) = some (.str r.tag) := rfl
      have sa := str_amt h1 (show a ≤ 999 by omega)
      have na := amt_num h1 (show a ≤ 999 by omega)
      have nl := numC_small a.toNat (by omega)
      have n32 := num_no32 a.toNat (by omega)
      have nne : numC a.toNat ≠ [] := fun z => by rw [z] at na; revert na; simp [amtOf]
      generalize numC a.toNat = nc at *
      have j4 := join4 r.key [45] nc r.tag (name_len ro.key) (by simp) nl (name_len ro.tag)
      have sp : splitC 32 (r.key ++ [32] ++ [45] ++ [32] ++ nc ++ [32] ++ r.tag) = [r.key, [45], nc, r.tag] := split4 (name_no32 ro.key) (by decide) n32 (name_no32 ro.tag)
      have nn : [] ∉ [r.key, [45], nc, r.tag] := fun z => by
        simp only [List.mem_cons, List.not_mem_nil, or_false] at z
        rcases z with z | z | z | z
        · exact isName_ne ro.key z.symm
        · cases z
        · exact nne z.symm
        · exact isName_ne ro.tag z.symm
      have tl : (r.key ++ [32] ++ [45] ++ [32] ++ nc ++ [32] ++ r.tag).length ≤ 40 := by
        have := name_len ro.key; have := name_len ro.tag
        simp only [List.length_append, List.length_cons, List.length_nil]; omega
      generalize (r.key ++ [32] ++ [45] ++ [32] ++ nc ++ [32] ++ r.tag) = tx at *
      have fe := faults_eq pn tx (by omega) []
      have ef : faus pn tx = if (decide (pn.lo ≤ a) && decide (a ≤ pn.hi)) then [] else [wAmt] := by
        rw [faus_four sp nn]
        unfold fau4 amtOk
        rw [na]
        simp [ro.key, b3]
      rw [ef] at fe
      have ch : ∀ env : Env, env[2]? = some (some (.int pn.lo)) → env[16]? = some (some (.int a)) → env[3]? = some (some (.int pn.hi)) → eChain leD leD (eVar 2) (eVar 16) (eVar 3) env [] = .ok (.bool (decide (pn.lo ≤ a) && decide (a ≤ pn.hi))) [] := fun env z1 z2 z3 => by
        by_cases h : pn.lo ≤ a
        · simp [z1, z2, z3, leD, h]
        · simp [z1, z2, leD, h]
      have ch := ch [e0, some pn.d, some (.int pn.lo), some (.int pn.hi), e4, some r.d, e6, e7, e8, e9, e10, e11, e12, e13, e14, e15, some (.int a), some (tD (if (decide (pn.lo ≤ a) && decide (a ≤ pn.hi)) then [] else [wAmt])), none, none] rfl rfl rfl
      generalize (decide (pn.lo ≤ a) && decide (a ≤ pn.hi)) = cb at *
      have dw : dispT [.str [97, 109, 111, 117, 110, 116]] = some (.tup [.str [97, 109, 111, 117, 110, 116]]) := rfl
      have rp : ∀ c : Bool, repD (.tup [.str [97, 109, 111, 117, 110, 116]]) (.int (if (!c) then 1 else 0)) = some (tD (if c then [] else [wAmt])) := fun c => by cases c <;> rfl
      have ib : ∀ b : Bool, intD [.bool b] = some (.int (if b then 1 else 0)) := fun _ => rfl
      have rp := rp cb
      have ib := ib (!cb)
      have qq := ne_self (tD_pl (if cb then [] else [wAmt])) (by omega)
      have dl : ∀ w x y z : D, dispL [w, x, y, z] = some (.list [w, x, y, z]) := fun _ _ _ _ => rfl
      have sX : isStrD (.str [32]) = true := rfl
      refine ⟨some (tD (if cb then [] else [wAmt])), ?_⟩
      generalize tD (if cb then [] else [wAmt]) = FT at *
      generalize (if (!cb) = true then (1 : Int) else 0) = ci at *
      generalize pn.d = PD at *
      generalize r.d = RD at *
      generalize D.tup [.str [97, 109, 111, 117, 110, 116]] = WT at *
      unfold b_law_k12_3
      generalize eChain leD leD (eVar 2) (eVar 16) (eVar 3) = CC at *
      simp [c1, c2, sX, i0, sa, i3, dl, j4, fe, dw, ch, ib, rp, qq]
    · rw [decide_eq_false h2] at c2
      refine ⟨e17, ?_⟩
      generalize pn.d = PD at *
      generalize r.d = RD at *
      unfold b_law_k12_3
      simp [c1, c2]
  · rw [decide_eq_false h1] at c1
    refine ⟨e17, ?_⟩
    generalize pn.d = PD at *
    generalize r.d = RD at *
    unfold b_law_k12_3
    simp [c1]
theorem k12_odd {pn : Pn} (u : Tx) (hu : u.length ≤ 1000) (hc : (splitC 32 u).length ≠ 4) (e0 e2' e3 e4 e5 e6 e7 e8 e9 e10 e11 e12 e13 e14 e15 e16 e17 : Option D) :
    b_law_k12_4 [e0, some pn.d, e2', e3, e4, e5, e6, e7, e8, e9, e10, e11, e12, e13, e14, e15, e16, e17, some (.str u), none] [] = .nx [e0, some pn.d, e2', e3, e4, e5, e6, e7, e8, e9, e10, e11, e12, e13, e14, e15, e16, e17, some (.str u), none] [] := by
  have fe := faults_eq pn u (by omega) []
  rw [faus_count hc] at fe
  have dw : dispT [.str [99, 111, 117, 110, 116]] = some (tD [wCount]) := rfl
  have q := ne_self (tD_pl [wCount]) (by omega)
  generalize tD [wCount] = CT at *
  generalize pn.d = PD at *
  unfold b_law_k12_4
  simp [fe, dw, q]
theorem nm4_sub (b0 b1 b2 b3 b4 : Bool) : ∀ w ∈ nm4 b0 b1 b2 b4, w ∈ nm4 b0 b1 b2 b3 ++ [wTag] := by
  cases b0 <;> cases b1 <;> cases b2 <;> cases b3 <;> cases b4 <;> decide
theorem readD_ok {pn : Pn} {t : Tx} (ht : TxOk t) (h : faus pn t = []) (st : Sto) : d_law_read [pn.d, .str t] st = .ok (rowT t).d st := by
  show readD d_row_of _ _ = _
  unfold readD
  rw [if_pos (show [pn.d, D.str t].length = 2 from rfl), row_of_ok ht h]
theorem readD_bad {pn : Pn} {t : Tx} (ht : TxOk t) (h : faus pn t ≠ []) (st : Sto) : d_law_read [pn.d, .str t] st = .ok .non st := by
  show readD d_row_of _ _ = _
  unfold readD
  rw [if_pos (show [pn.d, D.str t].length = 2 from rfl), row_of_bad ht h]
  rfl
theorem txt_join {r : Rw} : r.txt = joinC [32] [r.key, r.par.getD [45], numC r.amt.toNat, r.tag] := by
  unfold Rw.txt txtR
  simp [joinC]
theorem k12_w4 {pn : Pn} (P : PlanOk pn.lo pn.hi pn.tags) {r : Rw} (ro : RwOk r) (h1 : pn.lo ≤ r.amt) (h2 : r.amt ≤ pn.hi) (h3 : r.tag ∈ pn.tags) {o0 o1 o2 o3 : Tx} (i0 : o0 ∈ odd0) (i1 : o1 ∈ odd1) (i2 : o2 ∈ odd2) (i3 : o3 ∈ odd3) (b0 b1 b2 b3 : Bool) :
    W4 pn [if b0 then o0 else r.key, if b1 then o1 else r.par.getD [45], if b2 then o2 else numC r.amt.toNat, if b3 then o3 else r.tag] b0 b1 b2 b3 := by
  obtain ⟨O0, O1, O2, O3⟩ := odds_ok
  have O0 := O0 o0 i0
  have O1 := O1 o1 i1
  have O2 := O2 o2 i2
  have O3 := O3 o3 i3
  have na := amt_num ro.a0 ro.a1
  have n32 := num_no32 r.amt.toNat (by have := ro.a1; omega)
  have nl := numC_small r.amt.toNat (by have := ro.a1; omega)
  have nne : numC r.amt.toNat ≠ [] := fun z => by rw [z] at na; revert na; simp [amtOf]
  generalize numC r.amt.toNat = nc at *
  have pp : r.par.getD [45] = [45] ∨ isNameB (r.par.getD [45]) = true := by
    cases e : r.par with
    | none => exact .inl rfl
    | some p => exact .inr (ro.par p e)
  have p32 : 32 ∉ r.par.getD [45] := by
    rcases pp with z | z
    · rw [z]; decide
    · exact name_no32 z
  have pne : r.par.getD [45] ≠ [] := by
    rcases pp with z | z
    · rw [z]; decide
    · exact isName_ne z
  have pl : (r.par.getD [45]).length ≤ 6 := by
    rcases pp with z | z
    · rw [z]; decide
    · have := name_len z; omega
  generalize r.par.getD [45] = pw at *
  refine ⟨⟨_, _, _, _, rfl, ?_, ?_, fun lo hi z0 z1 z2 tg => ?_, ?_⟩, fun w hw => ?_, fun z => ?_, fun w hw => ?_⟩
  · cases b0
    · exact ro.key
    · exact O0.1
  · cases b1
    · simp only [Bool.false_eq_true, if_false]
      rcases pp with z | z
      · simp [z]
      · simp [z]
    · simp only [if_true]
      simp [O1.1, O1.2.1]
  · unfold amtOk
    cases b2
    · simp only [Bool.false_eq_true, if_false]
      rw [na]
      have : lo ≤ r.amt := by omega
      have : r.amt ≤ hi := by omega
      simp [*]
    · simp only [if_true]
      rw [O2.1]; rfl
  · cases b3
    · simp [h3]
    · simp only [if_true]
      refine decide_eq_true fun z => ?_
      have := nameB_of (P.name _ z)
      rw [O3.1] at this; cases this
  · simp only [List.mem_cons, List.not_mem_nil, or_false] at hw
    rcases hw with rfl | rfl | rfl | rfl
    · cases b0
      · exact name_no32 ro.key
      · exact O0.2.1
    · cases b1
      · exact p32
      · exact O1.2.2.1
    · cases b2
      · exact n32
      · exact O2.2.1
    · cases b3
      · exact name_no32 ro.tag
      · exact O3.2.1
  · simp only [List.mem_cons, List.not_mem_nil, or_false] at z
    rcases z with z | z | z | z
    · cases b0
      · exact isName_ne ro.key z.symm
      · exact O0.2.2.1 z.symm
    · cases b1
      · exact pne z.symm
      · exact O1.2.2.2.1 z.symm
    · cases b2
      · exact nne z.symm
      · exact O2.2.2.1 z.symm
    · cases b3
      · exact isName_ne ro.tag z.symm
      · exact O3.2.2.1 z.symm
  · simp only [List.mem_cons, List.not_mem_nil, or_false] at hw
    rcases hw with rfl | rfl | rfl | rfl
    · cases b0
      · have := name_len ro.key; show r.key.length ≤ 6; omega
      · exact O0.2.2.2
    · cases b1
      · exact pl
      · exact O1.2.2.2.2
    · cases b2
      · show nc.length ≤ 6; omega
      · exact O2.2.2.2
    · cases b3
      · have := name_len ro.tag; show r.tag.length ≤ 6; omega
      · exact O3.2.2.2
theorem pure_k12 : ∀ ns : List Int, ns.length ≤ 63 → ∃ st, d_law_k12 [.ro (ns.map D.int)] [] = .ok (.bool true) st := by
  intro ns _
  obtain ⟨n0, m0, a0, _⟩ := mixedZ ns 0 (by omega) []
  obtain ⟨n1, m1, a1, _⟩ := mixedZ ns 1 (by omega) []
  obtain ⟨n2, m2, a2, _⟩ := mixedZ ns 2 (by omega) []
  obtain ⟨lo, hi, tags, pl, P⟩ := plan_ok n0 a0 []
  have P : PlanOk (Pn.mk lo hi tags).lo (Pn.mk lo hi tags).hi (Pn.mk lo hi tags).tags := P
  have pl : d_law_plan [.int n0] [] = .ok (Pn.mk lo hi tags).d [] := pl
  generalize Pn.mk lo hi tags = pn at P pl
  have p0 := P.lo0
  have p1 := P.hi0
  have p2 := P.hi1
  obtain ⟨r, rw_, ro, g1, g2, g3⟩ := rw_ok P n1 a1 []
  have wr := written_ok ro []
  have tl := (lawtext_rw ro []).2
  have gd := txt_good ro g1 g2 g3
  have tk : TxOk r.txt := by unfold TxOk; omega
  have fe := faults_eq pn r.txt tk []
  rw [gd] at fe
  have re := readD_ok tk gd []
  rw [txt_row ro] at re
  have q1 : neD (tD []) (.tup []) = some (.bool false) := rfl
  have q2 := ne_self r.rowOk.pl (by omega)
  have sp : splitD (.str r.txt) [.str [32]] = some (.list ([r.key, r.par.getD [45], numC r.amt.toNat, r.tag].map D.str)) := by
    have := split_ok tk
    rwa [txt_split ro] at this
  have e00 : dispT [] = some (.tup []) := rfl
  -- the four words
  obtain ⟨b0, o0, z0, i0, s0⟩ := k12_step (n := n2) (k := 0) (od := odd0) rfl (by decide) (ws := [r.key, r.par.getD [45], numC r.amt.toNat, r.tag]) (by simp) [] (by simp) wKey (some (scr ns)) (some pn.d) (some (.int pn.lo)) (some (.int pn.hi)) (some (.tup (pn.tags.map D.str))) (some r.d) (some (.str r.txt)) none
  have w0 : (if b0 = true then [r.key, r.par.getD [45], numC r.amt.toNat, r.tag].set 0 o0 else [r.key, r.par.getD [45], numC r.amt.toNat, r.tag]) = [if b0 then o0 else r.key, r.par.getD [45], numC r.amt.toNat, r.tag] := by cases b0 <;> rfl
  rw [w0] at s0
  obtain ⟨b1, o1, z1, i1, s1⟩ := k12_step (n := n2) (k := 1) (od := odd1) rfl (by decide) (ws := [if b0 then o0 else r.key, r.par.getD [45], numC r.amt.toNat, r.tag]) (by simp) ([] ++ if b0 then [wKey] else []) (by simp; split <;> simp) wPar (some (scr ns)) (some pn.d) (some (.int pn.lo)) (some (.int pn.hi)) (some (.tup (pn.tags.map D.str))) (some r.d) (some (.str r.txt)) z0
  have w1 : (if b1 = true then [if b0 then o0 else r.key, r.par.getD [45], numC r.amt.toNat, r.tag].set 1 o1 else [if b0 then o0 else r.key, r.par.getD [45], numC r.amt.toNat, r.tag]) = [if b0 then o0 else r.key, if b1 then o1 else r.par.getD [45], numC r.amt.toNat, r.tag] := by cases b1 <;> rfl
  rw [w1] at s1
  obtain ⟨b2, o2, z2, i2, s2⟩ := k12_step (n := n2) (k := 2) (od := odd2) rfl (by decide) (ws := [if b0 then o0 else r.key, if b1 then o1 else r.par.getD [45], numC r.amt.toNat, r.tag]) (by simp) (([] ++ if b0 then [wKey] else []) ++ if b1 then [wPar] else []) (by simp; split <;> split <;> simp) wAmt (some (scr ns)) (some pn.d) (some (.int pn.lo)) (some (.int pn.hi)) (some (.tup (pn.tags.map D.str))) (some r.d) (some (.str r.txt)) z1
  have w2 : (if b2 = true then [if b0 then o0 else r.key, if b1 then o1 else r.par.getD [45], numC r.amt.toNat, r.tag].set 2 o2 else [if b0 then o0 else r.key, if b1 then o1 else r.par.getD [45], numC r.amt.toNat, r.tag]) = [if b0 then o0 else r.key, if b1 then o1 else r.par.getD [45], if b2 then o2 else numC r.amt.toNat, r.tag] := by cases b2 <;> rfl
  rw [w2] at s2
  obtain ⟨b3, o3, z3, i3, s3⟩ := k12_step (n := n2) (k := 3) (od := odd3) rfl (by decide) (ws := [if b0 then o0 else r.key, if b1 then o1 else r.par.getD [45], if b2 then o2 else numC r.amt.toNat, r.tag]) (by simp) ((([] ++ if b0 then [wKey] else []) ++ if b1 then [wPar] else []) ++ if b2 then [wAmt] else []) (by simp; split <;> split <;> split <;> simp) wTag (some (scr ns)) (some pn.d) (some (.int pn.lo)) (some (.int pn.hi)) (some (.tup (pn.tags.map D.str))) (some r.d) (some (.str r.txt)) z2
  have w3 : (if b3 = true then [if b0 then o0 else r.key, if b1 then o1 else r.par.getD [45], if b2 then o2 else numC r.amt.toNat, r.tag].set 3 o3 else [if b0 then o0 else r.key, if b1 then o1 else r.par.getD [45], if b2 then o2 else numC r.amt.toNat, r.tag]) = [if b0 then o0 else r.key, if b1 then o1 else r.par.getD [45], if b2 then o2 else numC r.amt.toNat, if b3 then o3 else r.tag] := by cases b3 <;> rfl
  rw [w3] at s3
  have ef : ((([] ++ if b0 then [wKey] else []) ++ if b1 then [wPar] else []) ++ if b2 then [wAmt] else []) ++ (if b3 then [wTag] else []) = nm4 b0 b1 b2 b3 := by rw [List.nil_append]; rfl
  rw [ef] at s3
  have W := k12_w4 P ro g1 g2 g3 i0 i1 i2 i3 b0 b1 b2 b3
  have tj := txt_join (r := r)
  have t32 : ∀ w ∈ [r.key, r.par.getD [45], numC r.amt.toNat, r.tag], 32 ∉ w := (k12_w4 P ro g1 g2 g3 i0 i1 i2 i3 false false false false).no32
  generalize [if b0 then o0 else r.key, if b1 then o1 else r.par.getD [45], if b2 then o2 else numC r.amt.toNat, if b3 then o3 else r.tag] = WS at *
  generalize [if b0 then o0 else r.key, if b1 then o1 else r.par.getD [45], if b2 then o2 else numC r.amt.toNat, r.tag] = WS3 at *
  generalize [if b0 then o0 else r.key, if b1 then o1 else r.par.getD [45], numC r.amt.toNat, r.tag] = WS2 at *
  generalize [if b0 then o0 else r.key, r.par.getD [45], numC r.amt.toNat, r.tag] = WS1 at *
  generalize [r.key, r.par.getD [45], numC r.amt.toNat, r.tag] = WS0 at *
  generalize (([] ++ if b0 then [wKey] else []) ++ if b1 then [wPar] else []) ++ (if b2 then [wAmt] else []) = X3 at *
  generalize ([] ++ if b0 then [wKey] else []) ++ (if b1 then [wPar] else []) = X2 at *
  generalize ([] ++ if b0 then [wKey] else []) = X1 at *
  clear w0 w1 w2 w3 ef
  have lp : forL (gT [11, 12]) b_law_k12_1 [.tup [.int ((0 : Nat) : Int), .str wKey], .tup [.int ((1 : Nat) : Int), .str wPar], .tup [.int ((2 : Nat) : Int), .str wAmt], .tup [.int ((3 : Nat) : Int), .str wTag]] [some (scr ns), some pn.d, some (.int pn.lo), some (.int pn.hi), some (.tup (pn.tags.map D.str)), some r.d, some (.str r.txt), some (.int n2), some (.list (WS0.map D.str)), some oddD, some (.tup []), none, none, none, none, none, none, none, none, none] []
      = .nx [some (scr ns), some pn.d, some (.int pn.lo), some (.int pn.hi), some (.tup (pn.tags.map D.str)), some r.d, some (.str r.txt), some (.int n2), some (.list (WS.map D.str)), some oddD, some (tD (nm4 b0 b1 b2 b3)), some (.int ((3 : Nat) : Int)), some (.str wTag), z3, none, none, none, none, none, none] [] := by
    rw [forL_nx (env1 := [some (scr ns), some pn.d, some (.int pn.lo), some (.int pn.hi), some (.tup (pn.tags.map D.str)), some r.d, some (.str r.txt), some (.int n2), some (.list (WS0.map D.str)), some oddD, some (tD []), some (.int ((0 : Nat) : Int)), some (.str wKey), none, none, none, none, none, none, none]) rfl s0,
      forL_nx (env1 := [some (scr ns), some pn.d, some (.int pn.lo), some (.int pn.hi), some (.tup (pn.tags.map D.str)), some r.d, some (.str r.txt), some (.int n2), some (.list (WS1.map D.str)), some oddD, some (tD X1), some (.int ((1 : Nat) : Int)), some (.str wPar), z0, none, none, none, none, none, none]) rfl s1,
      forL_nx (env1 := [some (scr ns), some pn.d, some (.int pn.lo), some (.int pn.hi), some (.tup (pn.tags.map D.str)), some r.d, some (.str r.txt), some (.int n2), some (.list (WS2.map D.str)), some oddD, some (tD X2), some (.int ((2 : Nat) : Int)), some (.str wAmt), z1, none, none, none, none, none, none]) rfl s2,
      forL_nx (env1 := [some (scr ns), some pn.d, some (.int pn.lo), some (.int pn.hi), some (.tup (pn.tags.map D.str)), some r.d, some (.str r.txt), some (.int n2), some (.list (WS3.map D.str)), some oddD, some (tD X3), some (.int ((3 : Nat) : Int)), some (.str wTag), z2, none, none, none, none, none, none]) rfl s3]
    rfl
  have en : enumA [.tup [.str wKey, .str wPar, .str wAmt, .str wTag]] = some [.tup [.int ((0 : Nat) : Int), .str wKey], .tup [.int ((1 : Nat) : Int), .str wPar], .tup [.int ((2 : Nat) : Int), .str wAmt], .tup [.int ((3 : Nat) : Int), .str wTag]] := rfl
  have dk : dispT [.str [107, 101, 121], .str [112, 97, 114, 101, 110, 116], .str [97, 109, 111, 117, 110, 116], .str [116, 97, 103]] = some (.tup [.str wKey, .str wPar, .str wAmt, .str wTag]) := rfl
  have ei : ∀ (m : MA) env, iA enumA m env [] = (m env []).bind fun xs st => ofOpt (enumA xs) st := fun m env => rfl
  have do0 : dispT [.str [65], .str [115, 105, 120, 115, 105, 120], .str [45]] = some (tD odd0) := rfl
  have do1 : dispT [.str [57], .str [115, 105, 120, 115, 105, 120]] = some (tD odd1) := rfl
  have do2 : dispT [.str [48, 49], .str [45, 49], .str [49, 48, 48, 48], .str [120]] = some (tD odd2) := rfl
  have do3 : dispT [.str [66], .str [116, 97, 103, 116, 97, 103]] = some (tD odd3) := rfl
  have doo : dispT [tD odd0, tD odd1, tD odd2, tD odd3] = some oddD := rfl
  -- the new text
  have wl : wsum WS ≤ 28 := by
    obtain ⟨x0, x1, x2, x3, e, _⟩ := W.four
    have h := W.len
    rw [e] at h ⊢
    have h0 := h x0 (by simp); have h1 := h x1 (by simp); have h2 := h x2 (by simp); have h3 := h x3 (by simp)
    simp [wsum]; omega
  have nj : joinD (.str [32]) [.list (WS.map D.str)] = some (.str (joinC [32] WS)) := by
    simp only [joinD, strs_map, Option.bind_some]
    unfold wsum at wl
    rw [if_pos (by rw [sz_eq]; simp; omega)]
  have nlen : (joinC [32] WS).length ≤ 28 := Nat.le_trans (join_len [32] (by simp) WS) wl
  have wne : WS ≠ [] := by obtain ⟨x0, x1, x2, x3, e, _⟩ := W.four; rw [e]; simp
  have w4l : WS.length = 4 := by obtain ⟨x0, x1, x2, x3, e, _⟩ := W.four; rw [e]; rfl
  have nk : TxOk (joinC [32] WS) := by unfold TxOk; omega
  obtain ⟨bb, f1, fb⟩ := W.faus (lo := pn.lo) (hi := pn.hi) (by omega) (by omega) (by omega) pn.tags
  rw [fb rfl] at f1
  have f1 : faus pn (joinC [32] WS) = nm4 b0 b1 b2 b3 := f1
  have fe1 := faults_eq pn (joinC [32] WS) nk []
  rw [f1] at fe1
  obtain ⟨bb2, f2, fb2⟩ := W.faus (lo := 0) (hi := 999) (by omega) (by omega) (by omega) pn.tags
  rw [fb2 rfl] at f2
  have fe2 := faults_eq ⟨0, 999, pn.tags⟩ (joinC [32] WS) nk []
  rw [f2] at fe2
  have qn := ne_self (tD_pl (nm4 b0 b1 b2 b3)) (by omega)
  have q0 : neD (tD (nm4 b0 b1 b2 b3)) (.tup []) = some (.bool (decide (nm4 b0 b1 b2 b3 ≠ []))) := by
    classical
    show neD (tD (nm4 b0 b1 b2 b3)) (tD []) = _
    rw [ne_ok (tD_pl _) (tD_pl _) (by omega)]
    congr 2
    refine decide_eq_decide.mpr (not_congr ⟨fun h => ?_, fun h => by rw [h]⟩)
    unfold tD at h
    have h : (nm4 b0 b1 b2 b3).map D.str = [] := by injection h
    exact List.map_eq_nil_iff.mp h
  obtain ⟨rd, re1, rn⟩ : ∃ rd, d_law_read [pn.d, .str (joinC [32] WS)] [] = .ok rd [] ∧ isN2 rd .non = some (.bool (decide (nm4 b0 b1 b2 b3 ≠ []))) := by
    by_cases h : nm4 b0 b1 b2 b3 = []
    · refine ⟨_, readD_ok nk (by rw [f1]; exact h) [], ?_⟩
      rw [decide_eq_false (by simpa using h)]; rfl
    · refine ⟨_, readD_bad nk (by rw [f1]; exact h) [], ?_⟩
      rw [decide_eq_true h]; rfl
  have qb : ∀ b : Bool, neD (.bool b) (.bool b) = some (.bool false) := fun b => by cases b <;> rfl
  have qb := qb (decide (nm4 b0 b1 b2 b3 ≠ []))
  -- wide
  have dz : dispT [.str [122, 122]] = some (.tup [.str [122, 122]]) := rfl
  have tl3 := P.few
  have az : addD (.tup (pn.tags.map D.str)) (.tup [.str [122, 122]]) = some (.tup ((pn.tags ++ [[122, 122]]).map D.str)) := by
    rw [addT (by rw [List.length_map]; simp; omega), List.map_append]; rfl
  have ss : sortSetTD [.tup ((pn.tags ++ [[122, 122]]).map D.str)] = some (.list ((nubS (pn.tags ++ [[122, 122]])).map D.str)) := by
    simp only [sortSetTD, strs_map, Option.bind_some]; rw [if_pos (by simp; omega)]
  have sl : sliceD (.list ((nubS (pn.tags ++ [[122, 122]])).map D.str)) none (some 3) = some (.list ((cutD (nubS (pn.tags ++ [[122, 122]])) none (some 3)).map D.str)) := by
    simp only [sliceD, cut_map]
  generalize cutD (nubS (pn.tags ++ [[122, 122]])) none (some 3) = TG at *
  have tp : tupleD [.list (TG.map D.str)] = some (.tup (TG.map D.str)) := rfl
  have d3 : dispT [.int 0, .int 999, .tup (TG.map D.str)] = some (Pn.mk 0 999 TG).d := rfl
  have d3' : dispT [.int 0, .int 999, .tup (pn.tags.map D.str)] = some (Pn.mk 0 999 pn.tags).d := rfl
  obtain ⟨b4, f3, _⟩ := W.faus (lo := 0) (hi := 999) (by omega) (by omega) (by omega) TG
  have fe3 := faults_eq ⟨0, 999, TG⟩ (joinC [32] WS) nk []
  rw [f3] at fe3
  have dt : dispT [.str [116, 97, 103]] = some (.tup [.str wTag]) := rfl
  have at_ : addD (tD (nm4 b0 b1 b2 b3)) (.tup [.str wTag]) = some (tD (nm4 b0 b1 b2 b3 ++ [wTag])) := by
    unfold tD
    rw [addT (by rw [List.length_map]; cases b0 <;> cases b1 <;> cases b2 <;> cases b3 <;> decide), List.map_append]; rfl
  have cq : q_law_k12_2 [some (scr ns), some pn.d, some (.int pn.lo), some (.int pn.hi), some (.tup (pn.tags.map D.str)), some r.d, some (.str r.txt), some (.int n2), some (.list (WS.map D.str)), some oddD, some (tD (nm4 b0 b1 b2 b3)), some (.int ((3 : Nat) : Int)), some (.str wTag), z3, some (.str (joinC [32] WS)), some (Pn.mk 0 999 TG).d, none, none, none, none] [] = .ok (.list []) [] := by
    have sub := nm4_sub b0 b1 b2 b3 b4
    have it : itemsOf (tD (nm4 b0 b1 b2 b4)) = some ((nm4 b0 b1 b2 b4).map D.str) := rfl
    unfold q_law_k12_2
    refine comp_empty (ds := (nm4 b0 b1 b2 b4).map D.str) ?_ (by simp) fun d hd => ?_
    · generalize (Pn.mk 0 999 TG).d = WD at *
      generalize tD (nm4 b0 b1 b2 b4) = F4 at *
      simp [fe3, it]
    · obtain ⟨w, hw, rfl⟩ := List.mem_map.mp hd
      have nn : ninD (.str w) (tD (nm4 b0 b1 b2 b3 ++ [wTag])) = some (.bool (decide (w ∉ nm4 b0 b1 b2 b3 ++ [wTag]))) := nin_strsT w _
      rw [decide_eq_false (fun z => z (sub w hw))] at nn
      generalize tD (nm4 b0 b1 b2 b3 ++ [wTag]) = F5 at *
      generalize tD (nm4 b0 b1 b2 b3) = F3 at *
      simp [dt, at_, nn]
  have dl0 : dispL [] = some (.list []) := rfl
  have ql : neD (.list []) (.list []) = some (.bool false) := rfl
  -- amounts
  have A := fun a e17 => k12_amt P ro g3 (some (scr ns)) (some (.tup (pn.tags.map D.str))) (some (.str r.txt)) (some (.int n2)) (some (.list (WS.map D.str))) (some oddD) (some (tD (nm4 b0 b1 b2 b3))) (some (.int ((3 : Nat) : Int))) (some (.str wTag)) z3 (some (.str (joinC [32] WS))) (some (Pn.mk 0 999 TG).d) e17 a
  obtain ⟨u0, A0⟩ := A (pn.lo - 1) none
  obtain ⟨u1, A1⟩ := A pn.lo u0
  obtain ⟨u2, A2⟩ := A pn.hi u1
  obtain ⟨u3, A3⟩ := A (pn.hi + 1) u2
  have la : ∀ e16, forL (gN 16) b_law_k12_3 [.int (pn.lo - 1), .int pn.lo, .int pn.hi, .int (pn.hi + 1)] [some (scr ns), some pn.d, some (.int pn.lo), some (.int pn.hi), some (.tup (pn.tags.map D.str)), some r.d, some (.str r.txt), some (.int n2), some (.list (WS.map D.str)), some oddD, some (tD (nm4 b0 b1 b2 b3)), some (.int ((3 : Nat) : Int)), some (.str wTag), z3, some (.str (joinC [32] WS)), some (Pn.mk 0 999 TG).d, e16, none, none, none] []
      = .nx [some (scr ns), some pn.d, some (.int pn.lo), some (.int pn.hi), some (.tup (pn.tags.map D.str)), some r.d, some (.str r.txt), some (.int n2), some (.list (WS.map D.str)), some oddD, some (tD (nm4 b0 b1 b2 b3)), some (.int ((3 : Nat) : Int)), some (.str wTag), z3, some (.str (joinC [32] WS)), some (Pn.mk 0 999 TG).d, some (.int (pn.hi + 1)), u3, none, none] [] := fun e16 => by
    rw [forL_nx rfl A0, forL_nx rfl A1, forL_nx rfl A2, forL_nx rfl A3]; rfl
  have la := la none
  have sb : subD (.int pn.lo) (.int 1) = some (.int (pn.lo - 1)) := rfl
  have ad : addD (.int pn.hi) (.int 1) = some (.int (pn.hi + 1)) := rfl
  have d4 : ∀ w x y z : D, dispT [w, x, y, z] = some (.tup [w, x, y, z]) := fun _ _ _ _ => rfl
  have it4 : ∀ w x y z : D, itemsOf (.tup [w, x, y, z]) = some [w, x, y, z] := fun _ _ _ _ => rfl
  -- odd texts
  have x1 : addD (.str r.txt) (.str [32]) = some (.str (r.txt ++ [32])) := add_str (by simp; omega)
  have x2 : addD (.str [32]) (.str (joinC [32] WS)) = some (.str ([32] ++ joinC [32] WS)) := add_str (by simp; omega)
  have x3 : addD (.str (joinC [32] WS)) (.str [32, 120]) = some (.str (joinC [32] WS ++ [32, 120])) := add_str (by simp; omega)
  have c1 : (splitC 32 (r.txt ++ [32])).length ≠ 4 := by
    have l0 : WS0.length = 4 := by
      have := split_ok tk
      rw [sp] at this
      have h := congrArg (fun o => match o with | some (D.list l) => l.length | _ => 0) this
      simp only [List.length_map] at h
      rw [h, txt_split ro]; rfl
    rw [tj, split_joinA (b := []) (by intro z; rw [z] at l0; cases l0) t32, List.length_append, l0]
    simp [splitC]
  have c2 : (splitC 32 ([32] ++ joinC [32] WS)).length ≠ 4 := by
    rw [List.singleton_append, splitC_eq, if_pos rfl, split_join wne W.no32, List.length_cons, w4l]; decide
  have c3 : (splitC 32 ([] : Tx)).length ≠ 4 := by decide
  have c4 : (splitC 32 (joinC [32] WS ++ [32, 120])).length ≠ 4 := by
    rw [split_joinA (b := [120]) wne W.no32, List.length_append, w4l]; decide
  have B := fun u hu hc => k12_odd (pn := pn) u hu hc (some (scr ns)) (some (.int pn.lo)) (some (.int pn.hi)) (some (.tup (pn.tags.map D.str))) (some r.d) (some (.str r.txt)) (some (.int n2)) (some (.list (WS.map D.str))) (some oddD) (some (tD (nm4 b0 b1 b2 b3))) (some (.int ((3 : Nat) : Int))) (some (.str wTag)) z3 (some (.str (joinC [32] WS))) (some (Pn.mk 0 999 TG).d) (some (.int (pn.hi + 1))) u3
  have B1 := B (r.txt ++ [32]) (by simp; omega) c1
  have B2 := B ([32] ++ joinC [32] WS) (by simp; omega) c2
  have B3 := B [] (by simp) c3
  have B4 := B (joinC [32] WS ++ [32, 120]) (by simp; omega) c4
  have lb : forL (gN 18) b_law_k12_4 [.str (r.txt ++ [32]), .str ([32] ++ joinC [32] WS), .str [], .str (joinC [32] WS ++ [32, 120])] [some (scr ns), some pn.d, some (.int pn.lo), some (.int pn.hi), some (.tup (pn.tags.map D.str)), some r.d, some (.str r.txt), some (.int n2), some (.list (WS.map D.str)), some oddD, some (tD (nm4 b0 b1 b2 b3)), some (.int ((3 : Nat) : Int)), some (.str wTag), z3, some (.str (joinC [32] WS)), some (Pn.mk 0 999 TG).d, some (.int (pn.hi + 1)), u3, none, none] []
      = .nx [some (scr ns), some pn.d, some (.int pn.lo), some (.int pn.hi), some (.tup (pn.tags.map D.str)), some r.d, some (.str r.txt), some (.int n2), some (.list (WS.map D.str)), some oddD, some (tD (nm4 b0 b1 b2 b3)), some (.int ((3 : Nat) : Int)), some (.str wTag), z3, some (.str (joinC [32] WS)), some (Pn.mk 0 999 TG).d, some (.int (pn.hi + 1)), u3, some (.str (joinC [32] WS ++ [32, 120])), none] [] := by
    rw [forL_nx rfl B1, forL_nx rfl B2, forL_nx rfl B3, forL_nx rfl B4]; rfl
  have sX : isStrD (.str r.txt) = true := rfl
  have sX2 : isStrD (.str [32]) = true := rfl
  have pd : pn.d = .tup [.int pn.lo, .int pn.hi, .tup (pn.tags.map D.str)] := rfl
  have gp : ∀ e, gT [2, 3, 4] pn.d [some (scr ns), some pn.d, none, none, none, none, none, none, none, none, none, none, none, none, none, none, none, none, none, e] = some [some (scr ns), some pn.d, some (.int pn.lo), some (.int pn.hi), some (.tup (pn.tags.map D.str)), none, none, none, none, none, none, none, none, none, none, none, none, none, none, e] := fun e => rfl
  have gp := gp none
  refine ⟨[], run_rt ?_ rfl⟩
  show m_law_k12 [some (scr ns), none, none, none, none, none, none, none, none, none, none, none, none, none, none, none, none, none, none, none] [] = _
  clear A A0 A1 A2 A3 B B1 B2 B3 B4 s0 s1 s2 s3 W tj f1 f2 f3 pd
  generalize (Pn.mk 0 999 TG).d = WD at *
  generalize (Pn.mk 0 999 pn.tags).d = WD2 at *
  generalize D.str (r.txt ++ [32]) = T1 at *
  generalize D.str ([32] ++ joinC [32] WS) = T2 at *
  generalize D.str (joinC [32] WS ++ [32, 120]) = T3 at *
  generalize D.str (joinC [32] WS) = NT at *
  generalize D.str r.txt = TT at *
  generalize decide (nm4 b0 b1 b2 b3 ≠ []) = db at *
  generalize tD (nm4 b0 b1 b2 b3) = F3 at *
  generalize tD [] = F0 at *
  generalize tD odd0 = O0 at *
  generalize tD odd1 = O1 at *
  generalize tD odd2 = O2 at *
  generalize tD odd3 = O3 at *
  generalize oddD = OO at *
  generalize D.list (WS.map D.str) = WL at *
  generalize D.list (WS0.map D.str) = WL0 at *
  generalize D.list ((nubS (pn.tags ++ [[122, 122]])).map D.str) = NU at *
  generalize D.tup ((pn.tags ++ [[122, 122]]).map D.str) = TZ at *
  generalize D.list (TG.map D.str) = TGL at *
  generalize D.tup (TG.map D.str) = TGT at *
  generalize D.tup (pn.tags.map D.str) = GT at *
  generalize D.tup [.str wKey, .str wPar, .str wAmt, .str wTag] = KT at *
  generalize [D.tup [.int ((0 : Nat) : Int), .str wKey], .tup [.int ((1 : Nat) : Int), .str wPar], .tup [.int ((2 : Nat) : Int), .str wAmt], .tup [.int ((3 : Nat) : Int), .str wTag]] = EL at *
  generalize D.int ((3 : Nat) : Int) = I3 at *
  generalize r.d = RD at *
  generalize pn.d = PD at *
  generalize pn.lo - 1 = lo1 at *
  generalize pn.hi + 1 = hi1 at *
  generalize pn.lo = lo at *
  generalize pn.hi = hi at *
  generalize D.str wTag = WT at *
  unfold m_law_k12
  simp [m0, pl, gp, m1, rw_, wr, fe, e00, q1, re, q2, m2, sX, sp, do0, do1, do2, do3, doo, ei, dk, en, lp, sX2, nj, fe1, qn, re1, rn, q0, qb, dz, az, ss, sl, tp, d3, d3', cq, dl0, ql, fe2, sb, ad, d4, it4, la, x1, x2, x3, lb]
end Dn

namespace Lk12
open PySem PySem.Spec PyProof.Rows L2 Dn
def fa : List He.Fa := [.glo "_law_drawn", .glo "_law_name", .glo "_law_plan", .glo "_law_row", .glo "written", .glo "_law_cell_at", .glo "_law_mixed", .glo "amount_in", .glo "is_name", .glo "faults", .glo "row_of", .glo "_law_read", .glo "law", .free "all", .free "enumerate", .free "int", .free "isinstance", .free "len", .free "range", .free "set", .free "sorted", .free "str", .free "tuple", .glo "NoRow", .exc "NoRow", .str "FIGURES" "0123456789", .str "LETTERS" "abcdefghijklmnopqrstuvwxyz", .int "LONGEST" 5, .str "NONE" "-"]
def dd (x : Str) (i : Nat) : He.DefD := ⟨(x, none), x, x, defArgs (top i), defBody (top i), defScope (top i), [], []⟩
def fn : List He.DefD := [dd "_law_drawn" 17, dd "_law_name" 18, dd "_law_plan" 19, dd "_law_row" 20, dd "written" 9, dd "_law_cell_at" 15, dd "_law_mixed" 16, dd "amount_in" 10, dd "is_name" 8, dd "faults" 12, dd "row_of" 13, dd "_law_read" 21, dd "law" 22]
def tf : List He.Defn := []
abbrev RR : PySem.W.OpenRow := PySem.W.OpenLaw.row PySem.Challenge.rw_heapintake_k12_whole_fields_by_themselve
def exB (K : PySem.W.Frag) : Bool := ([decide (PySem.W.exmOne K (.ref (He.ga K "NoRow")) (.ref (He.ga K "NoRow")) = some true)] : List Bool).all id
theorem ex_at {K : PySem.W.Frag} (h : exB K = true) : ∀ b ∈ ([decide (PySem.W.exmOne K (.ref (He.ga K "NoRow")) (.ref (He.ga K "NoRow")) = some true)] : List Bool), b = true := fun b hb => List.all_eq_true.mp h b hb
abbrev hk : PySem.W.Hook := He.hookX 6 fa fn [] tf exB
def ob (s : PySem.W.SharedT) : He.AlX := He.obsX 6 fa fn [] tf exB (HandSHeadRun.getT s)
theorem ob_eq (s : PySem.W.SharedT) : ob s = hk.obs s.abs := He.obsX_eq (HandSHeadRun.getT_eq s)
def loose : List Str := (["HeapError", "NoRow", "FIGURES", "LETTERS", "LONGEST", "NONE", "is_name", "written", "amount_in", "faults", "row_of", "_law_cell_at", "_law_mixed", "_law_drawn", "_law_name", "_law_plan", "_law_row", "_law_read"] : List Str)
theorem run (w : World) : HandSHeadRun.RunEq RR (PySem.W.view RR.prog [22]) hk ob 3000 loose w := by
  intro os
  kernel_rfl
def Gk (K : PySem.W.Frag) : Gc := ⟨K, tf.map fun p => ((He.cT K p).2, (p.1 ++ ".<locals>.<lambda>" : Str)), fun n => match n with | 0 => .ref (He.ga K "NoText") | 1 => .ref (He.ga K "NoRow") | 2 => .ref (He.ga K "Unlike") | _ => .none, He.ga K "Intake"⟩
theorem wd {K : PySem.W.Frag} {w : World} {h : Heap} {mg : Str → Option Value} (X : K.In h) (N : h.Ns mainGlobals mg) (c : He.SaysX fa fn [] tf exB w h K) : Wd (Gk K) mg where
  f__law_drawn := c.t.d.def_ 0 (d := dd "_law_drawn" 17) rfl
  g__law_drawn := He.glo_ok X N (c.t.d.fact 0 (f := .glo "_law_drawn") rfl)
  f__law_name := c.t.d.def_ 1 (d := dd "_law_name" 18) rfl
  g__law_name := He.glo_ok X N (c.t.d.fact 1 (f := .glo "_law_name") rfl)
  f__law_plan := c.t.d.def_ 2 (d := dd "_law_plan" 19) rfl
  g__law_plan := He.glo_ok X N (c.t.d.fact 2 (f := .glo "_law_plan") rfl)
  f__law_row := c.t.d.def_ 3 (d := dd "_law_row" 20) rfl
  g__law_row := He.glo_ok X N (c.t.d.fact 3 (f := .glo "_law_row") rfl)
  f_written := c.t.d.def_ 4 (d := dd "written" 9) rfl
  g_written := He.glo_ok X N (c.t.d.fact 4 (f := .glo "written") rfl)
  f__law_cell_at := c.t.d.def_ 5 (d := dd "_law_cell_at" 15) rfl
  g__law_cell_at := He.glo_ok X N (c.t.d.fact 5 (f := .glo "_law_cell_at") rfl)
  f__law_mixed := c.t.d.def_ 6 (d := dd "_law_mixed" 16) rfl
  g__law_mixed := He.glo_ok X N (c.t.d.fact 6 (f := .glo "_law_mixed") rfl)
  f_amount_in := c.t.d.def_ 7 (d := dd "amount_in" 10) rfl
  g_amount_in := He.glo_ok X N (c.t.d.fact 7 (f := .glo "amount_in") rfl)
  f_is_name := c.t.d.def_ 8 (d := dd "is_name" 8) rfl
  g_is_name := He.glo_ok X N (c.t.d.fact 8 (f := .glo "is_name") rfl)
  f_faults := c.t.d.def_ 9 (d := dd "faults" 12) rfl
  g_faults := He.glo_ok X N (c.t.d.fact 9 (f := .glo "faults") rfl)
  f_row_of := c.t.d.def_ 10 (d := dd "row_of" 13) rfl
  g_row_of := He.glo_ok X N (c.t.d.fact 10 (f := .glo "row_of") rfl)
  f__law_read := c.t.d.def_ 11 (d := dd "_law_read" 21) rfl
  g__law_read := He.glo_ok X N (c.t.d.fact 11 (f := .glo "_law_read") rfl)
  f_law := c.t.d.def_ 12 (d := dd "law" 22) rfl
  g_law := He.glo_ok X N (c.t.d.fact 12 (f := .glo "law") rfl)
  b_all := He.free_ok X N (c.t.d.fact 13 (f := .free "all") rfl)
  b_enumerate := He.free_ok X N (c.t.d.fact 14 (f := .free "enumerate") rfl)
  b_int := He.free_ok X N (c.t.d.fact 15 (f := .free "int") rfl)
  b_isinstance := He.free_ok X N (c.t.d.fact 16 (f := .free "isinstance") rfl)
  b_len := He.free_ok X N (c.t.d.fact 17 (f := .free "len") rfl)
  b_range := He.free_ok X N (c.t.d.fact 18 (f := .free "range") rfl)
  b_set := He.free_ok X N (c.t.d.fact 19 (f := .free "set") rfl)
  b_sorted := He.free_ok X N (c.t.d.fact 20 (f := .free "sorted") rfl)
  b_str := He.free_ok X N (c.t.d.fact 21 (f := .free "str") rfl)
  b_tuple := He.free_ok X N (c.t.d.fact 22 (f := .free "tuple") rfl)
  x_NoRow := by
    obtain ⟨e1, e2, e3, e4⟩ := He.exc_ok (c.t.d.fact 24 (f := .exc "NoRow") rfl)
    exact ⟨e1, e2, e3, e4, He.glo_ok X N (c.t.d.fact 23 (f := .glo "NoRow") rfl), rfl⟩
  xr := of_decide_eq_true (ex_at c.more (decide (PySem.W.exmOne K (.ref (He.ga K "NoRow")) (.ref (He.ga K "NoRow")) = some true)) (.head _))
  k_FIGURES := He.str_ok X N (c.t.d.fact 25 (f := .str "FIGURES" "0123456789") rfl)
  k_LETTERS := He.str_ok X N (c.t.d.fact 26 (f := .str "LETTERS" "abcdefghijklmnopqrstuvwxyz") rfl)
  k_LONGEST := He.int_ok X N (c.t.d.fact 27 (f := .int "LONGEST" 5) rfl)
  k_NONE := He.str_ok X N (c.t.d.fact 28 (f := .str "NONE" "-") rfl)
end Lk12
open PySem PySem.W PySem.Calls PyProof.Rows
theorem PySem.Challenge.cw_heapintake_k12_whole_fields_by_themselve_holds : PySem.Challenge.rw_heapintake_k12_whole_fields_by_themselve.Holds := by
  w_on; o_law
  refine HandSHeadRun.head_any (r := OpenLaw.row PySem.Challenge.rw_heapintake_k12_whole_fields_by_themselve) (q := view (OpenLaw.row PySem.Challenge.rw_heapintake_k12_whole_fields_by_themselve).prog [22]) (H := Lk12.hk) (ob := Lk12.ob) (M := 3000) (loose := Lk12.loose) (d := HandSHeadRun.topDef (OpenLaw.row PySem.Challenge.rw_heapintake_k12_whole_fields_by_themselve).prog 22) (kwd := []) Lk12.ob_eq
    (by kernel_rfl) (fun s => by kernel_rfl) Lk12.run (by kernel_rfl) (by kernel_rfl) (by kernel_rfl) (by rfl) (by first | assumption | decide +kernel) (by decide +kernel) ⟨rfl, rfl, rfl, rfl, rfl, by decide +kernel⟩ ?hw ?hc
  case hw => w_witness2
  case hc =>
    refine LamX.walk_ofTsE (l := PySem.Challenge.rw_heapintake_k12_whole_fields_by_themselve) (n := 63) (k := 5) (x := "script") (CX := fun w => L2N.CX PySem.Challenge.rw_heapintake_k12_whole_fields_by_themselve.prog w) rfl (by decide) (by kernel_rfl) ⟨rfl, by decide, by decide⟩ ?F (fun _ _ _ _ _ z => Dn.nocx z)
    intro w mg fa h Y N hmg0
    obtain ⟨K, KX, c⟩ := Y
    have W := Lk12.wd KX N c
    have hmg : mg ("law" : PySem.Str) = some (.ref fa) := by
      have e : (HandSHeadRun.topDef (OpenLaw.row PySem.Challenge.rw_heapintake_k12_whole_fields_by_themselve).prog 22).name = ("law" : PySem.Str) := by kernel_rfl
      rw [← e]
      exact hmg0
    have e := hmg.symm.trans W.g_law
    cases e
    exact ⟨K, KX, Dn.lawAt (Lk12.Gk K) [] (fun _ z => nomatch z) (fun _ z => nomatch z) (fun _ z => nomatch z) (fun _ z => nomatch z) W.f_law (fun _ _ _ _ _ _ us hl => match us, hl with | [_], _ => rfl) (fun base b1 b2 b3 => Lk12.ok_law W) (by decide) Dn.pure_k12⟩
