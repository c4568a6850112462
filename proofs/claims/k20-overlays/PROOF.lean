import PyProof.Rows.All
import Wide.All
import OpenK.AllK
import Wide.FinOn
import HandS.ForMost
import HandS.Exc
import HandS.ExcOwn
import HandS.TryOnly
import HandS.TryMany
import HandS.WordsExc
import HandS.Walk
import HandS.IsInst
import HandS.Style
import HandS.Zip
import HandS.StrMore
import HandS.TupAny
import HandS.TupMul
import HandS.Flow
import HandS.Conv
import PyProof.StrBlock2
import HandS.SortInts
import HandS.Dict
import HandS.Deep
import HandS.More
import HandS.ExcIs
import HandS.SortOrd
import HandS.NamedTupSort
import HandS.TupSets
import KE.GoesEnum
import KE.GoesMore
import KE.GoesZip
import HandS.HeadHook2
import HandS.Ends
import HandS.Head0
import HandS.Head1
import HandS.Head2
import HandS.HeadEnd
import HandS.Text
import KE.KStateDown
import Lean
import PySem.Challenge.RW_threadmap_k20_overlays
set_option Elab.async false
set_option linter.all false
set_option maxRecDepth 100000
set_option maxHeartbeats 4000000
/-! A small language with a pure evaluator over PyData. -/
namespace M
open PySem

abbrev D := PyData
/-- a result: a value, an exception of a class of the program, or nothing known -/
inductive R (α : Type) where
  | ok (a : α) | exc (c : Nat) | bad
def R.bind {α β : Type} (x : R α) (f : α → R β) : R β := match x with
  | .ok a => f a
  | .exc c => .exc c
  | .bad => .bad
instance : Monad R := { pure := fun a => .ok a, bind := R.bind }
@[simp] theorem ok_bind {α β : Type} (a : α) (f : α → R β) : (R.ok a >>= f) = f a := rfl
@[simp] theorem exc_bind {α β : Type} (c : Nat) (f : α → R β) : ((R.exc c : R α) >>= f) = R.exc c := rfl
@[simp] theorem bad_bind {α β : Type} (f : α → R β) : ((R.bad : R α) >>= f) = R.bad := rfl
@[simp] theorem pure_ok {α : Type} (a : α) : (pure a : R α) = R.ok a := rfl

/-- the most items of what is made -/
def lim : Nat := 100000

/-- the script, as data -/
abbrev scr (ns : List Int) : D := .dict (ns.map fun n => (.int n, .none))

inductive Ty where | int | bool | str | tuple | list
inductive Bi where | len | toInt | tuple | list | sum | sorted | min | max
inductive Mt where | find | count | rfind | split | join | lcount | lindex
/-- targets -/
inductive Tg where
  | name (i : Nat) | t2 (a b : Tg) | t3 (a b c : Tg) | t4 (a b c d : Tg)

mutual
inductive E where
  | var (i : Nat) | ow (i : Nat) | non | bl (b : Bool) | int (i : Int) | str (x : Str) | cst (x : Str) (d : D)
  | bin (o : Operator) (a b : E) | neg (a : E)
  | not (a : E) | and (a r : E) | or (a r : E) | one (a : E)
  | cmp (o : CmpOp) (a b : E) | chain (o o' : CmpOp) (a b c : E) | isn (a : E) (neg : Bool) | isb (a : E) (b : Bool) (neg : Bool)
  | ife (c a b : E)
  | tup (es : Es) | lst (es : Es)
  | idx (a i : E) | sl (a : E) (lo hi : O) | rev (a : E)
  | call (f : Nat) (es : Es)
  | bi (b : Bi) (es : Es)
  | isi (a : E) (t : Ty)
  | mt (m : Mt) (a : E) (es : Es)
  | comp (x : E) (t : Tg) (it : I) (c : O)
  | trng (a : E)
  | sset (a : E)
  | dlit (k1 v1 k2 v2 : Str) (a : E)
  | lockd (i : Nat) (a : E) | dctget (a k d : E)
  | dhas (i : Nat) (k : E) (neg : Bool) | dget (i : Nat) (k d : E) | didx (i : Nat) (k : E) | dsorted (i : Nat)
  | bad
inductive Es where
  | nil | cons (a : E) (r : Es)
inductive O where
  | none | some (a : E)
inductive I where
  | rng1 (a : E) | rng2 (a b : E) | enum (a : E) | zip (a b : E) | seq (a : E) | dks (i : Nat)
end

mutual
inductive S where
  | nil
  | asg (t : Tg) (e : E) (r : S)
  | par (i j : Nat) (a b : E) (r : S)
  | new (i : Nat) (e : E) (r : S)
  | app (i : Nat) (e : E) (r : S)
  | ext (i : Nat) (e : E) (r : S)
  | seti (i : Nat) (k e : E) (r : S)
  | dnew (i : Nat) (tup : Bool) (r : S)
  | dset (i : Nat) (k e : E) (r : S)
  | frz (i : Nat) (r : S)
  | aug (i : Nat) (o : Operator) (e : E) (r : S)
  | exp (e : E) (r : S)
  | ret (e : E) (r : S)
  | ite (c : E) (a b r : S)
  | whl (c : E) (b r : S)
  | frl (t : Tg) (it : I) (b r : S)
  | try (ps : List Nat) (b : S) (h : Hs) (r : S)
  | tryk (i j : Nat) (b : S) (r : S)
  | spoil (i y : Nat) (es : Es) (x : Str) (r : S)
  | rse (c : Nat) (r : S)
  | pass (r : S)
  | bad
inductive Hs where
  | nil | cons (c : Nat) (s : S) (h : Hs)
end

/-! ### operations on data -/
def isNone : D → Bool
  | .none => true
  | _ => false
def addD : D → D → R D
  | .int i, .int j => .ok (.int (i + j))
  | .str x, .str y => if x.length + y.length ≤ lim then .ok (.str (x ++ y)) else .bad
  | .list xs, .list ys => if xs.length + ys.length ≤ lim then .ok (.list (xs ++ ys)) else .bad
  | .tuple xs, .tuple ys => if xs.length + ys.length ≤ lim then .ok (.tuple (xs ++ ys)) else .bad
  | _, _ => .bad
def subD : D → D → R D
  | .int i, .int j => .ok (.int (i - j))
  | _, _ => .bad
def smallI (i : Int) : Bool := decide (-(2 ^ 64) < i) && decide (i < 2 ^ 64)
def mulD : D → D → R D
  | .int i, .int j => if smallI i || smallI j then .ok (.int (i * j)) else .bad
  | .list xs, .int k => if decide (k < 2 ^ 63) && decide (-(2 ^ 63) ≤ k) && decide (xs.length * k.toNat ≤ lim) then .ok (.list (List.replicate k.toNat xs).flatten) else .bad
  | .str x, .int k => if decide (0 ≤ k) && decide (k ≤ 10000) && decide (x.length * k.toNat ≤ lim) then .ok (.str (Txt.mul x k)) else .bad
  | .tuple xs, .int k => if !xs.isEmpty && (decide (2 ≤ k) && (decide (k ≤ 1000) && decide (xs.length ≤ 1000))) then .ok (.tuple (List.replicate k.toNat xs).flatten) else .bad
  | _, _ => .bad
def modD : D → D → R D
  | .int i, .int j => if 0 < j then .ok (.int (i % j)) else .bad
  | _, _ => .bad
def divD : D → D → R D
  | .int i, .int j => if decide (0 < j) && decide (j < 1073741824) then .ok (.int (i / j)) else .bad
  | _, _ => .bad
def powD : D → D → R D
  | .int i, .int j => if decide (0 ≤ j) && decide (j ≤ 1000000) && decide (i.natAbs < 2 ^ 64) then .ok (.int (i ^ j.toNat)) else .bad
  | _, _ => .bad
def binD : Operator → D → D → R D
  | .Add => addD
  | .Sub => subD
  | .Mult => mulD
  | .Mod => modD
  | .FloorDiv => divD
  | .Pow => powD
  | _ => fun _ _ => .bad
def negD : D → R D
  | .int i => .ok (.int (-i))
  | _ => .bad
def eqD (a b : D) : R Bool := if SeqAt.shaped a && SeqAt.shaped b then .ok (PyData.eqv a b) else .bad
def cmpI (f : Int → Int → Bool) : D → D → R D
  | .int i, .int j => .ok (.bool (f i j))
  | _, _ => .bad
def inD : D → D → R Bool
  | .str x, .tuple ys => if ys.all (fun y => match y with | .str _ => true | _ => false) then .ok (ys.any fun y => match y with | .str z => decide (z = x) | _ => false) else .bad
  | d, .list ds => if SeqAt.shaped d && SeqAt.shaped (.list ds) then .ok (ds.any fun z => PyData.eqv z d) else .bad
  | _, _ => .bad
def cmpD : CmpOp → D → D → R D
  | .Eq => fun a b => do let c ← eqD a b; pure (.bool c)
  | .NotEq => fun a b => do let c ← eqD a b; pure (.bool (!c))
  | .Lt => cmpI fun i j => decide (i < j)
  | .LtE => cmpI fun i j => decide (i ≤ j)
  | .Gt => cmpI fun i j => decide (j < i)
  | .GtE => cmpI fun i j => decide (j ≤ i)
  | .In => fun a b => do let c ← inD a b; pure (.bool c)
  | .NotIn => fun a b => do let c ← inD a b; pure (.bool (!c))
  | _ => fun _ _ => .bad
def truth : D → R Bool
  | .none => .ok false
  | .bool b => .ok b
  | .int i => .ok (i != 0)
  | .str x => if x.length ≤ lim then .ok (x.length != 0) else .bad
  | .list xs => .ok (!xs.isEmpty)
  | .tuple xs => .ok (!xs.isEmpty)
  | _ => .bad
def idxD : D → D → R D
  | .list xs, .int i => match L2.atI xs i with
    | some d => .ok d
    | none => .bad
  | .tuple xs, .int i => match L2.atI xs i with
    | some d => .ok d
    | none => .bad
  | .str z, .int i => if z.length ≤ lim then (match L2.atI z.cps.toList i with
    | some c => .ok (.str ⟨#[c]⟩)
    | none => .bad) else .bad
  | .dict kvs, .int i => match L2.atI kvs i with
    | some (.int n, _) => .ok (.int n)
    | _ => .bad
  | _, _ => .bad
/-- a cut of a list -/
def cutL {α : Type} (xs : List α) (lo hi : Option Int) : List α := (xs.drop (HT.sIx xs.length 0 lo)).take (HT.sIx xs.length xs.length hi - HT.sIx xs.length 0 lo)
def slD (d : D) (lo hi : Option Int) : R D := match d with
  | .list xs => .ok (.list (cutL xs lo hi))
  | .tuple xs => .ok (.tuple (cutL xs lo hi))
  | .str z => if z.length ≤ lim then .ok (.str ⟨(cutL z.cps.toList lo hi).toArray⟩) else .bad
  | _ => .bad
def trngD : D → R D
  | .int j => if decide (-(2 ^ 62) ≤ j) && decide (j ≤ lim) then .ok (.tuple ((List.range j.toNat).map fun (k : Nat) => .int (k : Int))) else .bad
  | _ => .bad
def revLD : D → R D
  | .list xs => .ok (.list xs.reverse)
  | .tuple xs => .ok (.tuple xs.reverse)
  | _ => .bad
def revD : D → R D
  | .list xs => .ok (.list xs.reverse)
  | .tuple xs => .ok (.tuple xs.reverse)
  | _ => .bad
def isT : Ty → D → R Bool
  | .int, .int _ => .ok true
  | .int, .bool _ => .ok true
  | .bool, .bool _ => .ok true
  | .str, .str _ => .ok true
  | .tuple, .tuple _ => .ok true
  | .list, .list _ => .ok true
  | _, .dict _ => .bad
  | _, _ => .ok false
def intsOf : List D → Option (List Int)
  | [] => some []
  | .int i :: r => (intsOf r).map (i :: ·)
  | _ :: _ => none
def strsOf : List D → Option (List Str)
  | [] => some []
  | .str i :: r => (strsOf r).map (i :: ·)
  | _ :: _ => none
def leastI : List Int → Option Int
  | [] => none
  | x :: xs => some (xs.foldl (fun a b => if b < a then b else a) x)
def insI (x : Int) : List Int → List Int
  | [] => [x]
  | y :: ys => if x ≤ y then x :: y :: ys else y :: insI x ys
def sortI : List Int → List Int
  | [] => []
  | x :: xs => insI x (sortI xs)
/-- lists of ints by their order -/
def lexLe : List Int → List Int → Bool
  | [], _ => true
  | _ :: _, [] => false
  | x :: xs, y :: ys => if x = y then lexLe xs ys else decide (x < y)
def insT (x : List Int) : List (List Int) → List (List Int)
  | [] => [x]
  | y :: ys => if lexLe x y then x :: y :: ys else y :: insT x ys
def sortT : List (List Int) → List (List Int)
  | [] => []
  | x :: xs => insT x (sortT xs)
def tupsOf : List D → Option (List (List Int))
  | [] => some []
  | .tuple ds :: r => match intsOf ds, tupsOf r with
    | some ns, some rs => some (ns :: rs)
    | _, _ => none
  | _ :: _ => none
/-- the ints that a row begins with -/
def intPre : List D → List Int
  | .int i :: r => i :: intPre r
  | _ => []
def tkey : D → List Int
  | .tuple ds => intPre ds
  | _ => []
def tlen : D → Option Nat
  | .tuple ds => some ds.length
  | _ => none
def insK (x : D) : List D → List D
  | [] => [x]
  | y :: ys => if lexLe (tkey x) (tkey y) then x :: y :: ys else y :: insK x ys
def sortK : List D → List D
  | [] => []
  | x :: xs => insK x (sortK xs)
/-- tuples of n items that begin with m ints each; unlike ones, where there is more -/
def tupsOk (n m : Nat) (xs : List D) : Bool := xs.all (fun x => decide (tlen x = some n) && decide ((tkey x).length = m)) && (decide (1 ≤ m) && (decide (n = m) || decide (xs.map tkey).Nodup))
def sortD : List D → R D
  | [] => .ok (.list [])
  | x :: xs => if tupsOk ((tlen x).getD 0) (tkey x).length (x :: xs) then .ok (.list (sortK (x :: xs))) else .bad
def biD : Bi → List D → R D
  | .len, [.list xs] => .ok (.int xs.length)
  | .len, [.tuple xs] => .ok (.int xs.length)
  | .len, [.str x] => if x.length ≤ lim then .ok (.int x.length) else .bad
  | .len, [.dict kvs] => .ok (.int kvs.length)
  | .toInt, [.bool b] => .ok (.int (if b then 1 else 0))
  | .toInt, [.int b] => .ok (.int b)
  | .tuple, [.list xs] => .ok (.tuple xs)
  | .tuple, [.tuple xs] => .ok (.tuple xs)
  | .list, [.list xs] => .ok (.list xs)
  | .list, [.tuple xs] => .ok (.list xs)
  | .sum, [.list xs] => match intsOf xs with
    | some ns => .ok (.int ns.sum)
    | none => .bad
  | .sorted, [.list xs] => match intsOf xs with
    | some ns => .ok (.list ((sortI ns).map .int))
    | none => sortD xs
  | .min, [.list xs] => match intsOf xs with
    | some ns => (match leastI ns with
      | some m => .ok (.int m)
      | none => .bad)
    | none => .bad
  | .min, [.int i, .int j] => .ok (.int (if j < i then j else i))
  | .max, [.int i, .int j] => .ok (.int (if j > i then j else i))
  | _, _ => .bad
def mtTy : Mt → D → Bool
  | .lcount, .list _ => true
  | .lcount, _ => false
  | .lindex, .list _ => true
  | .lindex, _ => false
  | _, .str _ => true
  | _, _ => false
def mtD : Mt → D → List D → R D
  | .find, .str a, [.str b] => if a.length ≤ lim then .ok (.int (Txt.find a b)) else .bad
  | .count, .str a, [.str b] => if a.length ≤ lim then .ok (.int (Txt.count a b)) else .bad
  | .rfind, .str a, [.str b] => if a.length ≤ lim then .ok (.int (Txt.rfind a b)) else .bad
  | .join, .str a, [.list xs] => match strsOf xs with
    | some ys => if (ys.map (·.length)).sum + ys.length * a.length ≤ lim then .ok (.str (Txt.join a ys)) else .bad
    | none => .bad
  | .split, .str a, [.str b] => if decide (a.length ≤ lim) && !(b.length == 0) then .ok (.list ((Txt.split a b).map .str)) else .bad
  | .lcount, .list ds, [d] => if SeqAt.shaped (.list ds) && SeqAt.shaped d then .ok (.int (ds.countP fun z => PyData.eqv z d : Nat)) else .bad
  | .lindex, .list ds, [d] => if SeqAt.shaped (.list ds) && SeqAt.shaped d then (match ds.findIdx? (fun z => PyData.eqv z d) with
    | some j => .ok (.int (j : Nat))
    | none => .bad) else .bad
  | _, _, _ => .bad
def dlitD (k1 v1 k2 v2 : Str) : D → R D
  | .str x => if x = k1 then .ok (.str v1) else if x = k2 then .ok (.str v2) else .bad
  | _ => .bad
end M

set_option Elab.async false
set_option linter.all false
set_option maxRecDepth 100000
set_option maxHeartbeats 4000000
namespace M
open PySem

/-! ### the evaluator -/
/-- what a slot holds: data; a list, a dict of its own -/
inductive W where
  | val (d : D) | own (ds : List D) | dk (kvs : List (Int × D)) | dt (kvs : List (List Int × D)) | dtf (kvs : List (List Int × D))
abbrev Env := List (Option W)
def getV (env : Env) (i : Nat) : R D := match env[i]? with
  | some (some (.val d)) => .ok d
  | _ => .bad
def getO (env : Env) (i : Nat) : R D := match env[i]? with
  | some (some (.own ds)) => .ok (.list ds)
  | _ => .bad
def Tg.slots : Tg → List Nat
  | .name i => [i]
  | .t2 a b => a.slots ++ b.slots
  | .t3 a b c => a.slots ++ (b.slots ++ c.slots)
  | .t4 a b c d => a.slots ++ (b.slots ++ (c.slots ++ d.slots))
def asgn : Tg → D → Env → Option Env
  | .name i, d, env => if i < env.length then some (env.set i (some (.val d))) else none
  | .t2 a b, .tuple [x, y], env => (asgn a x env).bind fun e => asgn b y e
  | .t3 a b c, .tuple [x, y, z], env => (asgn a x env).bind fun e => (asgn b y e).bind fun e => asgn c z e
  | .t3 a b c, .list [x, y, z], env => (asgn a x env).bind fun e => (asgn b y e).bind fun e => asgn c z e
  | .t4 a b c d, .tuple [x, y, z, w], env => (asgn a x env).bind fun e => (asgn b y e).bind fun e => (asgn c z e).bind fun e => asgn d w e
  | _, _, _ => none
def wipeE (env : Env) : List Nat → Env
  | [] => env
  | v :: vs => (wipeE env vs).set v none
def seqD : D → R (List D)
  | .list xs => .ok xs
  | .tuple xs => .ok xs
  | .str x => .ok (x.cps.toList.map fun c => .str ⟨#[c]⟩)
  | .dict kvs => .ok (kvs.map (·.1))
  | _ => .bad
/-- what enumerate and zip go over -/
def seqN : D → R (List D)
  | .list xs => .ok xs
  | .tuple xs => .ok xs
  | .str x => .ok (x.cps.toList.map fun c => .str ⟨#[c]⟩)
  | _ => .bad
def enumD : List D → List D := fun xs => xs.zipIdx.map fun p => .tuple [.int p.2, p.1]
def compF (f : D → R (Option D)) : List D → R (List D)
  | [] => .ok []
  | x :: xs => match f x with
    | .ok o => (match compF f xs with
      | .ok ys => .ok (match o with
        | some y => y :: ys
        | none => ys)
      | _ => .bad)
    | _ => .bad
def R.nox {α : Type} : R α → R α
  | .ok a => .ok a
  | _ => .bad
def lookI (k : Int) : List (Int × D) → Option D
  | [] => none
  | (j, d) :: r => if j = k then some d else lookI k r
def lookT (k : List Int) : List (List Int × D) → Option D
  | [] => none
  | (j, d) :: r => if j = k then some d else lookT k r
def putI (k : Int) (v : D) (kvs : List (Int × D)) : List (Int × D) := if (kvs.any fun kv => decide (kv.1 = k)) = true then kvs.map (fun kv => if kv.1 = k then (kv.1, v) else kv) else kvs ++ [(k, v)]
def putT (k : List Int) (v : D) (kvs : List (List Int × D)) : List (List Int × D) := if (kvs.any fun kv => decide (kv.1 = k)) = true then kvs.map (fun kv => if kv.1 = k then (kv.1, v) else kv) else kvs ++ [(k, v)]
/-- a slot that holds a dict -/
def isDct (env : Env) (i : Nat) : Bool := match env[i]? with
  | some (some (.dk _)) => true
  | some (some (.dt _)) => true
  | some (some (.dtf _)) => true
  | _ => false
/-- a dict's value at a key: of ints, of tuples of ints -/
def dlook (env : Env) (i : Nat) (k : D) : R (Option D) := match env[i]?, k with
  | some (some (.dk kvs)), .int n => .ok (lookI n kvs)
  | some (some (.dt kvs)), .tuple ds => match intsOf ds with
    | some ns => .ok (lookT ns kvs)
    | none => .bad
  | some (some (.dtf kvs)), .tuple ds => match intsOf ds with
    | some ns => .ok (lookT ns kvs)
    | none => .bad
  | _, _ => .bad
def dkeys (env : Env) (i : Nat) : R D := match env[i]? with
  | some (some (.dk kvs)) => if kvs.length < 64 then .ok (.list ((sortI (kvs.map (·.1))).map .int)) else .bad
  | _ => .bad
def ssetD : D → R D
  | .list xs => match tupsOf xs with
    | some ts => if decide (ts.length < 299) && (ts.all fun t => decide (t.length = (ts.headD [0]).length) && decide (1 ≤ t.length)) then .ok (.list ((sortT ts.eraseDups).map fun t => .tuple (t.map .int))) else .bad
    | none => .bad
  | _ => .bad
/-- pairs, each begins with an int -/
def pairsOf : List D → Option (List (Int × D))
  | [] => some []
  | .tuple [.int k, v] :: r => (pairsOf r).map ((k, v) :: ·)
  | _ :: _ => none
def dctP : D → Option (List (Int × D))
  | .list xs => pairsOf xs
  | _ => none
def dctD (ps : List (Int × D)) : D → D → R D
  | .int n, d => .ok ((lookI n (ps.foldl (fun acc kv => putI kv.1 kv.2 acc) [])).getD d)
  | _, _ => .bad
def keysT (env : Env) (i : Nat) : R (List D) := match env[i]? with
  | some (some (.dtf kvs)) => .ok (kvs.map fun kv => .tuple (kv.1.map .int))
  | _ => .bad

mutual
def evE (Φ : Nat → List D → R D) : E → Env → R D
  | .var i, env => getV env i
  | .ow i, env => getO env i
  | .non, _ => .ok .none
  | .bl b, _ => .ok (.bool b)
  | .int i, _ => .ok (.int i)
  | .str x, _ => .ok (.str x)
  | .cst _ d, _ => .ok d
  | .bin o a b, env => do
    let x ← evE Φ a env
    let y ← evE Φ b env
    binD o x y
  | .neg a, env => do
    let x ← evE Φ a env
    negD x
  | .not a, env => do
    let x ← evE Φ a env
    let c ← truth x
    pure (.bool (!c))
  | .and a r, env => do
    let x ← evE Φ a env
    let c ← truth x
    if c then evE Φ r env else .ok x
  | .or a r, env => do
    let x ← evE Φ a env
    let c ← truth x
    if c then .ok x else evE Φ r env
  | .one a, env => evE Φ a env
  | .cmp o a b, env => do
    let x ← evE Φ a env
    let y ← evE Φ b env
    cmpD o x y
  | .chain o o' a b c, env => do
    let x ← evE Φ a env
    let y ← evE Φ b env
    match cmpD o x y with
    | .ok (.bool true) => do
      let z ← evE Φ c env
      cmpD o' y z
    | .ok (.bool false) => .ok (.bool false)
    | _ => .bad
  | .isn a neg, env => do
    let x ← evE Φ a env
    pure (.bool (if neg then !isNone x else isNone x))
  | .isb a b neg, env => do
    let x ← evE Φ a env
    match x with
    | .bool c => .ok (.bool (if neg then !decide (c = b) else decide (c = b)))
    | _ => .bad
  | .ife c a b, env => do
    let x ← evE Φ c env
    let k ← truth x
    if k then evE Φ a env else evE Φ b env
  | .tup es, env => do
    let xs ← evEs Φ es env
    if xs.length ≤ lim then .ok (.tuple xs) else .bad
  | .lst es, env => do
    let xs ← evEs Φ es env
    if xs.length ≤ lim then .ok (.list xs) else .bad
  | .idx a i, env => do
    let x ← evE Φ a env
    let k ← evE Φ i env
    idxD x k
  | .sl a lo hi, env => do
    let x ← evE Φ a env
    let l ← evO Φ lo env
    let h ← evO Φ hi env
    slD x l h
  | .rev a, env => do
    let x ← evE Φ a env
    revLD x
  | .call f es, env => do
    let xs ← evEs Φ es env
    Φ f xs
  | .bi b es, env => do
    let xs ← evEs Φ es env
    biD b xs
  | .isi a t, env => do
    let x ← evE Φ a env
    let c ← isT t x
    pure (.bool c)
  | .mt m a es, env => do
    let x ← evE Φ a env
    if mtTy m x then do
      let xs ← evEs Φ es env
      mtD m x xs
    else .bad
  | .comp x t it c, env => do
    let xs ← evI Φ it env
    if xs.length ≤ lim then do
      let ys ← (compF (fun d => match asgn t d (wipeE env t.slots) with
        | none => .bad
        | some env1 => do
          let k ← evC Φ c env1
          if k then do
            let y ← evE Φ x env1
            pure (some y)
          else pure none) xs)
      pure (.list ys)
    else .bad
  | .trng a, env => do
    let x ← evE Φ a env
    trngD x
  | .sset a, env => do
    let x ← evE Φ a env
    ssetD x
  | .lockd i a, env => match env[i]? with
    | some (some (.dt kvs)) => (evE Φ a (env.set i (some (.dtf kvs)))).nox
    | _ => .bad
  | .dctget a k d, env => do
    let x ← evE Φ a env
    match dctP x with
    | some ps => do
      let y ← evE Φ k env
      let z ← evE Φ d env
      dctD ps y z
    | none => .bad
  | .dhas i k neg, env => do
    let x ← evE Φ k env
    let o ← dlook env i x
    pure (.bool (if neg then !o.isSome else o.isSome))
  | .dget i k d, env => if isDct env i then do
    let x ← evE Φ k env
    let y ← evE Φ d env
    let o ← dlook env i x
    pure (o.getD y)
    else .bad
  | .didx i k, env => if isDct env i then do
    let x ← evE Φ k env
    let o ← dlook env i x
    match o with
    | some d => .ok d
    | none => .bad
    else .bad
  | .dlit k1 v1 k2 v2 a, env => do
    let x ← evE Φ a env
    dlitD k1 v1 k2 v2 x
  | .dsorted i, env => dkeys env i
  | .bad, _ => .bad
def evEs (Φ : Nat → List D → R D) : Es → Env → R (List D)
  | .nil, _ => .ok []
  | .cons a r, env => do
    let x ← evE Φ a env
    let xs ← evEs Φ r env
    pure (x :: xs)
/-- a slice's part -/
def evO (Φ : Nat → List D → R D) : O → Env → R (Option Int)
  | .none, _ => .ok none
  | .some a, env => do
    let x ← evE Φ a env
    match x with
    | .int i => .ok (some i)
    | _ => .bad
/-- a comprehension's test -/
def evC (Φ : Nat → List D → R D) : O → Env → R Bool
  | .none, _ => .ok true
  | .some a, env => do
    let x ← evE Φ a env
    truth x
def evI (Φ : Nat → List D → R D) : I → Env → R (List D)
  | .rng1 a, env => do
    let x ← evE Φ a env
    match x with
    | .int j => if decide (-(2 ^ 62) ≤ j) && decide (j ≤ lim) then .ok ((List.range j.toNat).map fun (k : Nat) => .int (k : Int)) else .bad
    | _ => .bad
  | .rng2 a b, env => do
    let x ← evE Φ a env
    let y ← evE Φ b env
    match x, y with
    | .int i, .int j => if decide (-(2 ^ 61) ≤ i) && decide (i < 2 ^ 61) && decide (-(2 ^ 61) ≤ j) && decide (j < 2 ^ 61) then .ok ((List.range (j - i).toNat).map fun (k : Nat) => .int (i + (k : Int))) else .bad
    | _, _ => .bad
  | .enum a, env => do
    let x ← evE Φ a env
    let xs ← seqN x
    pure (enumD xs)
  | .zip a b, env => do
    let x ← evE Φ a env
    let y ← evE Φ b env
    let xs ← seqN x
    let ys ← seqN y
    pure (List.zipWith (fun p q => .tuple [p, q]) xs ys)
  | .seq a, env => do
    let x ← evE Φ a env
    seqD x
  | .dks i, env => keysT env i
end

/-- a statement's end -/
inductive Rs where
  | nx (env : Env) | rt (d : D) | exc (c : Nat) (env : Env) | bad
def R.then_ {α : Type} (x : R α) (env : Env) (k : α → Rs) : Rs := match x with
  | .ok a => k a
  | .exc c => .exc c env
  | .bad => .bad
def Rs.seq (x : Rs) (k : Env → Rs) : Rs := match x with
  | .nx env => k env
  | .rt d => .rt d
  | .exc c env => .exc c env
  | .bad => .bad
@[simp] theorem ok_then {α : Type} (a : α) (env : Env) (k : α → Rs) : (R.ok a).then_ env k = k a := rfl
@[simp] theorem exc_then {α : Type} (c : Nat) (env : Env) (k : α → Rs) : (R.exc c : R α).then_ env k = .exc c env := rfl
@[simp] theorem bad_then {α : Type} (env : Env) (k : α → Rs) : (R.bad : R α).then_ env k = .bad := rfl
@[simp] theorem nx_seq (env : Env) (k : Env → Rs) : (Rs.nx env).seq k = k env := rfl
@[simp] theorem rt_seq (d : D) (k : Env → Rs) : (Rs.rt d).seq k = .rt d := rfl
@[simp] theorem exc_seq (c : Nat) (env : Env) (k : Env → Rs) : (Rs.exc c env).seq k = .exc c env := rfl
@[simp] theorem bad_seq (k : Env → Rs) : (Rs.bad).seq k = .bad := rfl
def forL (f : D → Env → Rs) : List D → Env → Rs
  | [], env => .nx env
  | x :: xs, env => (f x env).seq (forL f xs)
def whileL (c : Env → R Bool) (b : Env → Rs) : Nat → Env → Rs
  | 0, _ => .bad
  | n + 1, env => (c env).then_ env fun k => if k then (b env).seq (whileL c b n) else .nx env
/-- the most turns of a while -/
def WF : Nat := 100000
def putW (env : Env) (i : Nat) (w : W) : Rs := if i < env.length then .nx (env.set i (some w)) else .bad
def augW : Operator → Env → Nat → D → Rs
  | .Add, env, i, .int n => .nx (env.set i (some (.val (.int n))))
  | .Sub, env, i, .int n => .nx (env.set i (some (.val (.int n))))
  | _, _, _, _ => .bad
mutual
def noLst : D → Bool
  | .list _ => false
  | .dict _ => false
  | .tuple xs => noLstL xs
  | .none => true
  | .bool _ => true
  | .int _ => true
  | .str _ => true
def noLstL : List D → Bool
  | [] => true
  | x :: xs => noLst x && noLstL xs
end
/-- what holds tuples alone -/
def tupW : Option W → Option W
  | some (.val d) => if noLst d then some (.val d) else none
  | _ => none
def tupEnv (env : Env) : Env := env.map tupW
/-- three lists of these are changed, or it is not what is kept -/
def spoilK (ds : List D) (c : Bool) : Option Rs := if c then (match ds with
  | .list _ :: .list b :: .tuple [.list k, _] :: _ => if b.length < lim ∧ k.length < lim then none else some .bad
  | _ => some .bad) else some (.rt (.bool false))
def spoilS (i y : Nat) (env : Env) (a : R (List D)) (b : R D) (K : Env → Rs) : Rs := match a, b with
  | .ok ds, .ok k => if ds.length ≤ lim ∧ i < env.length ∧ i ≠ y then (match eqD k (.list ds) with
    | .ok c => (match spoilK ds c with
      | none => K (env.set i none)
      | some x => x)
    | _ => .bad) else .bad
  | _, _ => .bad
/-- of which classes one is; 100: what all are -/
def rbK (c q : Nat) : Bool := q == 100 || decide (c = q)
def kq1 : List Nat := [0, 1, 2, 3]
def kq2 : List Nat := [4, 5, 100]
def kindsL (c : Nat) : List D := (kq1 ++ kq2).map fun q => .bool (rbK c q)
mutual
def evS (Φ : Nat → List D → R D) : S → Env → Rs
  | .nil, env => .nx env
  | .asg t e r, env => (evE Φ e env).then_ env fun d => match asgn t d env with
    | some env' => evS Φ r env'
    | none => .bad
  | .par i j a b r, env => (evE Φ a env).then_ env fun x => (evE Φ b env).then_ env fun y => if i < env.length ∧ j < env.length then evS Φ r ((env.set i (some (.val x))).set j (some (.val y))) else .bad
  | .new i e r, env => (evE Φ e env).then_ env fun d => match d with
    | .list ds => (putW env i (.own ds)).seq (evS Φ r)
    | _ => .bad
  | .app i e r, env => match env[i]? with
    | some (some (.own ds)) => (evE Φ e env).then_ env fun d => if ds.length < lim then evS Φ r (env.set i (some (.own (ds ++ [d])))) else .bad
    | _ => .bad
  | .ext i e r, env => match env[i]? with
    | some (some (.own ds)) => (evE Φ e env).then_ env fun d => (match d with
      | .list es => if ds.length + es.length ≤ lim then evS Φ r (env.set i (some (.own (ds ++ es)))) else .bad
      | _ => .bad)
    | _ => .bad
  | .seti i k e r, env => match env[i]? with
    | some (some (.own ds)) => (evE Φ e env).then_ env fun d => (evE Φ k env).then_ env fun x => (match x with
      | .int n => (match L2.ixN ds.length n with
        | some j => evS Φ r (env.set i (some (.own (ds.set j d))))
        | none => .bad)
      | _ => .bad)
    | _ => .bad
  | .dnew i tup r, env => (putW env i (if tup then .dt [] else .dk [])).seq (evS Φ r)
  | .dset i k e r, env => match env[i]? with
    | some (some (.dk kvs)) => (evE Φ e env).then_ env fun d => (evE Φ k env).then_ env fun x => (match x with
      | .int n => if kvs.length < lim then evS Φ r (env.set i (some (.dk (putI n d kvs)))) else .bad
      | _ => .bad)
    | some (some (.dt kvs)) => (evE Φ e env).then_ env fun d => (evE Φ k env).then_ env fun x => (match x with
      | .tuple ds => (match intsOf ds with
        | some ns => if kvs.length < lim then evS Φ r (env.set i (some (.dt (putT ns d kvs)))) else .bad
        | none => .bad)
      | _ => .bad)
    | _ => .bad
  | .frz i r, env => match env[i]? with
    | some (some (.own ds)) => evS Φ r (env.set i (some (.val (.list ds))))
    | _ => .bad
  | .aug i o e r, env => (getV env i).then_ env fun x => (evE Φ e env).then_ env fun y => (binD o x y).then_ env fun z => (augW o env i z).seq (evS Φ r)
  | .exp e r, env => (evE Φ e env).then_ env fun _ => evS Φ r env
  | .ret e _, env => (evE Φ e env).then_ env fun d => .rt d
  | .ite c a b r, env => ((evE Φ c env).then_ env fun x => (truth x).then_ env fun k => if k then evS Φ a env else evS Φ b env).seq (evS Φ r)
  | .whl c b r, env => (whileL (fun env => do let x ← evE Φ c env; truth x) (evS Φ b) WF env).seq (evS Φ r)
  | .frl t it b r, env => ((evI Φ it env).then_ env fun xs => forL (fun d env => match asgn t d env with
    | some env' => evS Φ b env'
    | none => .bad) xs env).seq (evS Φ r)
  | .try ps b h r, env => (match evS Φ b env with
    | .exc c env' => if ps.contains c then evH Φ h c env' else .bad
    | x => x).seq (evS Φ r)
  | .tryk i j b r, env => (match evS Φ b env with
    | .exc c env' => if i < env'.length ∧ j < env'.length ∧ i ≠ j ∧ c < 6 then Rs.nx ((env'.set j none).set i (some (.val (.list (kindsL c))))) else Rs.bad
    | x => x).seq (evS Φ r)
  | .spoil i y es _ r, env => spoilS i y env (evEs Φ es (tupEnv env)) (getV env y) (evS Φ r)
  | .rse c _, env => .exc c env
  | .pass r, env => evS Φ r env
  | .bad, _ => .bad
def evH (Φ : Nat → List D → R D) : Hs → Nat → Env → Rs
  | .nil, c, env => .exc c env
  | .cons c' s h, c, env => if c = c' then (match evS Φ s env with
    | .exc _ _ => .bad
    | x => x) else evH Φ h c env
end
/-- a def: its name, how many parameters, its names by slot, its body -/
structure Df where
  name : Str
  ps : Nat
  N : List Str
  body : S
def env0 (n : Nat) (args : List D) : Env := args.map (fun d => some (.val d)) ++ List.replicate (n - args.length) none
def run (Φ : Nat → List D → R D) (d : Df) (args : List D) : R D := match evS Φ d.body (env0 d.N.length args) with
  | .nx _ => .ok .none
  | .rt d => .ok d
  | .exc c _ => .exc c
  | .bad => .bad
def call (T : List Df) : Nat → Nat → List D → R D
  | 0, _, _ => .bad
  | k + 1, f, args => match T[f]? with
    | some d => if args.length = d.ps then run (call T k) d args else .bad
    | none => .bad
end M

set_option Elab.async false
set_option linter.all false
set_option maxRecDepth 100000
set_option maxHeartbeats 4000000
namespace M
open PySem PySem.Spec L2
open PyProof.Rows hiding St

/-! ### data in the heap -/
mutual
inductive Rp (G : Hp) : V → D → Prop
  | non : Rp G .non .none
  | bl (b : Bool) : Rp G (.bl b) (.bool b)
  | int (i : Int) : Rp G (.int i) (.int i)
  | str (x : Str) : Rp G (.str x) (.str x)
  | lst {a : Addr} {xs : List V} {ds : List D} : G a = some (.lst xs) → RpL G xs ds → Rp G (.ref a) (.list ds)
  | tup {a : Addr} {xs : List V} {ds : List D} : G a = some (.tup xs) → RpL G xs ds → Rp G (.ref a) (.tuple ds)
  | scr {a : Addr} {o : Obj} {ns : List Int} : G a = some (.frz o (.lst (ns.map V.int))) → Rp G (.ref a) (scr ns)
inductive RpL (G : Hp) : List V → List D → Prop
  | nil : RpL G [] []
  | cons {v : V} {vs : List V} {d : D} {ds : List D} : Rp G v d → RpL G vs ds → RpL G (v :: vs) (d :: ds)
end
section
variable {G G' H : Hp}
mutual
theorem Rp.ext (e : Same G G') : ∀ {v : V} {d : D}, Rp G v d → Rp G' v d
  | _, _, .non => .non
  | _, _, .bl b => .bl b
  | _, _, .int i => .int i
  | _, _, .str x => .str x
  | _, _, .lst h r => .lst (e _ _ h) (RpL.ext e r)
  | _, _, .tup h r => .tup (e _ _ h) (RpL.ext e r)
  | _, _, .scr h => .scr (e _ _ h)
theorem RpL.ext (e : Same G G') : ∀ {vs : List V} {ds : List D}, RpL G vs ds → RpL G' vs ds
  | _, _, .nil => .nil
  | _, _, .cons r t => .cons (Rp.ext e r) (RpL.ext e t)
end
theorem RpL.len : ∀ {vs : List V} {ds : List D}, RpL G vs ds → vs.length = ds.length
  | _, _, .nil => rfl
  | _, _, .cons _ t => by simp [RpL.len t]
theorem RpL.get : ∀ {vs : List V} {ds : List D} {i : Nat} {d : D}, RpL G vs ds → ds[i]? = some d → ∃ v, vs[i]? = some v ∧ Rp G v d
  | _, _, _, _, .nil, h => by simp at h
  | _, _, 0, _, .cons r _, h => by simp at h; subst h; exact ⟨_, rfl, r⟩
  | _, _, i + 1, d, .cons _ t, h => by
    obtain ⟨v, h1, h2⟩ := RpL.get (i := i) t (by simpa using h)
    exact ⟨v, by simpa using h1, h2⟩
theorem RpL.app : ∀ {vs us : List V} {ds es : List D}, RpL G vs ds → RpL G us es → RpL G (vs ++ us) (ds ++ es)
  | _, _, _, _, .nil, t => t
  | _, _, _, _, .cons r s, t => .cons r (RpL.app s t)
theorem RpL.drop : ∀ {vs : List V} {ds : List D} (n : Nat), RpL G vs ds → RpL G (vs.drop n) (ds.drop n)
  | _, _, 0, t => t
  | _, _, _ + 1, .nil => .nil
  | _, _, n + 1, .cons _ t => RpL.drop n t
theorem RpL.take : ∀ {vs : List V} {ds : List D} (n : Nat), RpL G vs ds → RpL G (vs.take n) (ds.take n)
  | _, _, 0, _ => .nil
  | _, _, _ + 1, .nil => .nil
  | _, _, n + 1, .cons r t => .cons r (RpL.take n t)
theorem RpL.rev : ∀ {vs : List V} {ds : List D}, RpL G vs ds → RpL G vs.reverse ds.reverse
  | _, _, .nil => .nil
  | _, _, .cons r t => by
    rw [List.reverse_cons, List.reverse_cons]
    exact RpL.app (RpL.rev t) (.cons r .nil)
theorem RpL.set {v : V} {d : D} (r : Rp G v d) : ∀ {vs : List V} {ds : List D} (j : Nat), RpL G vs ds → RpL G (vs.set j v) (ds.set j d)
  | _, _, _, .nil => .nil
  | _, _, 0, .cons _ t => .cons r t
  | _, _, j + 1, .cons q t => .cons q (RpL.set r j t)
theorem RpL.rep {vs : List V} {ds : List D} (h : RpL G vs ds) : ∀ k : Nat, RpL G (List.replicate k vs).flatten (List.replicate k ds).flatten
  | 0 => by simpa using RpL.nil
  | k + 1 => by
    rw [List.replicate_succ, List.replicate_succ, List.flatten_cons, List.flatten_cons]
    exact RpL.app h (RpL.rep h k)
/-! the layer: its own reading -/
mutual
theorem Rp.dp {K : PySem.W.Frag} (e : Same G H) : ∀ {v : V} {d : D}, Rp G v d → d.canLay0 = true → Dp K H v d
  | _, _, .non, _ => .non
  | _, _, .bl b, _ => .bl b
  | _, _, .int i, _ => .int i
  | _, _, .str x, _ => .str x
  | _, _, .lst h r, c => .lst (SqL.of (e _ _ h)) (RpL.dp e r (by simpa [PyData.canLay0] using c))
  | _, _, .tup h r, c => .tup (SqT.of (e _ _ h)) (RpL.dp e r (by simpa [PyData.canLay0] using c))
  | _, _, .scr h, c => by simp [PyData.canLay0] at c
theorem RpL.dp {K : PySem.W.Frag} (e : Same G H) : ∀ {vs : List V} {ds : List D}, RpL G vs ds → PyData.canLayAll0 ds = true → DpAll K H vs ds
  | _, _, .nil, _ => .nil
  | _, _, .cons r t, c => by
    simp only [PyData.canLayAll0, Bool.and_eq_true] at c
    exact .cons (Rp.dp e r c.1) (RpL.dp e t c.2)
end
end

/-! ### steps -/
/-- what may be taken up later: tuples alone -/
def notTup : HO → Bool
  | .tup _ => false
  | _ => true
/-- from G within H: G grows, H grows, what is H's own stays out of G -/
structure Step (G H G' H' : Hp) : Prop where
  gg : Same G G'
  gh : Same G' H'
  hh : Same H H'
  no : ∀ p o, H p = some o → notTup o = true → G p = none → G' p = none
theorem Step.refl {G H : Hp} (e : Same G H) : Step G H G H := ⟨Same.refl _, e, Same.refl _, fun _ _ _ _ h => h⟩
theorem Step.trans {G H G1 H1 G2 H2 : Hp} (a : Step G H G1 H1) (b : Step G1 H1 G2 H2) : Step G H G2 H2 :=
  ⟨a.gg.trans b.gg, b.gh, a.hh.trans b.hh, fun p o h t n => b.no p o (a.hh p o h) t (a.no p o h t n)⟩
theorem same_upd {H : Hp} {p : Addr} {o : HO} (n : H p = none) : Same H (upd H p o) := fun b u h => by rw [upd_ne (ne_of_none h n)]; exact h
theorem same_upd2 {G H : Hp} {p : Addr} {o : HO} (e : Same G H) : Same (upd G p o) (upd H p o) := fun b u h => by
  by_cases hb : b = p
  · subst hb; rw [upd_same] at h ⊢; exact h
  · rw [upd_ne hb] at h ⊢; exact e _ _ h
theorem Step.alloc {G H : Hp} {p : Addr} {o : HO} (e : Same G H) (n : H p = none) : Step G H (upd G p o) (upd H p o) :=
  ⟨same_upd (e.free n), same_upd2 e, same_upd n, fun q u h _ k => by rw [upd_ne (ne_of_none h n)]; exact k⟩

/-! ### the slots -/
def W.isOwn : W → Bool
  | .val _ => false
  | .dtf _ => false
  | _ => true
/-- pairs of a dict: keys alike, values data -/
inductive RpK {κ : Type} (G : Hp) (f : Int → κ) : List (κ × V) → List (Int × D) → Prop
  | nil : RpK G f [] []
  | cons {k : Int} {v : V} {d : D} {r : List (κ × V)} {s : List (Int × D)} : Rp G v d → RpK G f r s → RpK G f ((f k, v) :: r) ((k, d) :: s)
inductive RpT (G : Hp) : List (List Key × V) → List (List Int × D) → Prop
  | nil : RpT G [] []
  | cons {k : List Int} {v : V} {d : D} {r : List (List Key × V)} {s : List (List Int × D)} : Rp G v d → RpT G r s → RpT G ((k.map Sum.inl, v) :: r) ((k, d) :: s)
theorem RpK.ext {κ : Type} {f : Int → κ} {G G' : Hp} (e : Same G G') : ∀ {a : List (κ × V)} {b : List (Int × D)}, RpK G f a b → RpK G' f a b
  | _, _, .nil => .nil
  | _, _, .cons r t => .cons (r.ext e) (RpK.ext e t)
theorem RpT.ext {G G' : Hp} (e : Same G G') : ∀ {a : List (List Key × V)} {b : List (List Int × D)}, RpT G a b → RpT G' a b
  | _, _, .nil => .nil
  | _, _, .cons r t => .cons (r.ext e) (RpT.ext e t)
def RW (H0 G H : Hp) (v : V) : W → Prop
  | .val d => Rp G v d
  | .own ds => ∃ p vs, v = .ref p ∧ G p = none ∧ H0 p = none ∧ H p = some (.lst vs) ∧ RpL G vs ds
  | .dk kvs => ∃ p vs, v = .ref p ∧ G p = none ∧ H0 p = none ∧ H p = some (.dK vs) ∧ RpK G (Sum.inl : Int → Key) vs kvs
  | .dt kvs => ∃ p vs, v = .ref p ∧ G p = none ∧ H0 p = none ∧ H p = some (.dT vs) ∧ RpT G vs kvs
  | .dtf kvs => ∃ p vs o, v = .ref p ∧ G p = some (.frz o (.dT vs)) ∧ RpT G vs kvs
structure Rel (H0 G : Hp) (env : Env) (σ : St) (H : Hp) : Prop where
  gh : Same G H
  h0 : Same H0 H
  len : env.length = σ.length
  at_ : ∀ (i : Nat) (w : W), env[i]? = some (some w) → ∃ v, σ[i]? = some (some v) ∧ RW H0 G H v w
  sep : ∀ (i j : Nat) (wi wj : W) (v : V), i ≠ j → env[i]? = some (some wi) → env[j]? = some (some wj) → wi.isOwn = true → wj.isOwn = true → σ[i]? = some (some v) → σ[j]? ≠ some (some v)
section
variable {H0 G G' H H' : Hp} {env : Env} {σ : St}
theorem RW.step {v : V} {w : W} (r : RW H0 G H v w) (st : Step G H G' H') : RW H0 G' H' v w := by
  cases w with
  | val d => exact Rp.ext st.gg r
  | own ds => obtain ⟨p, vs, e, n, n0, h, q⟩ := r; exact ⟨p, vs, e, st.no p _ h rfl n, n0, st.hh _ _ h, q.ext st.gg⟩
  | dk kvs => obtain ⟨p, vs, e, n, n0, h, q⟩ := r; exact ⟨p, vs, e, st.no p _ h rfl n, n0, st.hh _ _ h, q.ext st.gg⟩
  | dt kvs => obtain ⟨p, vs, e, n, n0, h, q⟩ := r; exact ⟨p, vs, e, st.no p _ h rfl n, n0, st.hh _ _ h, q.ext st.gg⟩
  | dtf kvs => obtain ⟨p, vs, o, e, h, q⟩ := r; exact ⟨p, vs, o, e, st.gg _ _ h, q.ext st.gg⟩
theorem Rel.step (r : Rel H0 G env σ H) (st : Step G H G' H') : Rel H0 G' env σ H' :=
  ⟨st.gh, r.h0.trans st.hh, r.len, fun i w h => let ⟨v, h1, h2⟩ := r.at_ i w h; ⟨v, h1, h2.step st⟩, r.sep⟩
theorem Rel.var {i : Nat} {d : D} (r : Rel H0 G env σ H) (h : getV env i = .ok d) : ∃ v, σ[i]? = some (some v) ∧ Rp G v d := by
  unfold getV at h
  split at h
  · rename_i d' e
    cases h
    exact r.at_ i _ e
  · cases h
end

/-! ### readings -/
section
variable {α β γ δ : Type}
/-- what is wanted behind an expression whose meaning is r -/
def Out (ρ : Hp → Hp → β → α → Prop) (W : WX) (cl : Nat → Value) (σ : St) (G H : Hp) (r : R α) (Q : β → Hp → Prop) : Prop := match r with
  | .ok a => ∀ b G' H', Step G H G' H' → ρ G' H' b a → Q b H'
  | .exc c => ∀ G' H', Step G H G' H' → W (cl c) none σ H'
  | .bad => False
theorem Out.step {ρ : Hp → Hp → β → α → Prop} {W : WX} {cl : Nat → Value} {σ : St} {G H G' H' : Hp} {r : R α} {Q : β → Hp → Prop} (o : Out ρ W cl σ G H r Q) (st : Step G H G' H') : Out ρ W cl σ G' H' r Q := by
  cases r with
  | ok a => exact fun b G2 H2 s2 q => o b G2 H2 (st.trans s2) q
  | exc c => exact fun G2 H2 s2 => o G2 H2 (st.trans s2)
  | bad => exact o
theorem Out.mono {ρ : Hp → Hp → β → α → Prop} {W : WX} {cl : Nat → Value} {σ : St} {G H : Hp} {r : R α} {Q Q' : β → Hp → Prop} (o : Out ρ W cl σ G H r Q) (k : ∀ b H', Q b H' → Q' b H') : Out ρ W cl σ G H r Q' := by
  cases r with
  | ok a => exact fun b G2 H2 s2 q => k _ _ (o b G2 H2 s2 q)
  | exc c => exact o
  | bad => exact o
theorem Out.bind {ρ : Hp → Hp → β → α → Prop} {ρ2 : Hp → Hp → δ → γ → Prop} {W : WX} {cl : Nat → Value} {σ : St} {G H : Hp} {r : R α} {k : α → R γ} {Q : δ → Hp → Prop} (o : Out ρ2 W cl σ G H (r >>= k) Q) :
    Out ρ W cl σ G H r fun b H1 => ∃ a G1, Step G H G1 H1 ∧ ρ G1 H1 b a ∧ Out ρ2 W cl σ G1 H1 (k a) Q := by
  cases r with
  | ok a => exact fun b G2 H2 s2 q => ⟨a, G2, s2, q, Out.step (r := k a) o s2⟩
  | exc c => exact o
  | bad => exact o
/-- .. where nothing is raised -/
theorem Out.ok {ρ : Hp → Hp → β → α → Prop} {W : WX} {cl : Nat → Value} {σ : St} {G H : Hp} {a : α} {Q : β → Hp → Prop} (o : Out ρ W cl σ G H (.ok a) Q) {b : β} {G' H' : Hp} (st : Step G H G' H') (q : ρ G' H' b a) : Q b H' := o b G' H' st q
def tX (ρ : Hp → Hp → β → α → Prop) (W : WX) (cl : Nat → Value) (f : Env → R α) : St → Hp → (β → Hp → Prop) → Prop := fun σ H Q => ∃ H0 G env, Rel H0 G env σ H ∧ Out ρ W cl σ G H (f env) Q
end
/-- data, or a list of its own as it stands -/
inductive Rq (G H : Hp) : V → D → Prop
  | of {v : V} {d : D} : Rp G v d → Rq G H v d
  | own {p : Addr} {vs : List V} {ds : List D} : H p = some (.lst vs) → RpL G vs ds → Rq G H (.ref p) (.list ds)
abbrev rhE : Hp → Hp → V → D → Prop := fun G _ v d => Rp G v d
abbrev rhQ : Hp → Hp → V → D → Prop := fun G H v d => Rq G H v d
abbrev rhL : Hp → Hp → List V → List D → Prop := fun G _ v d => RpL G v d
abbrev rhB : Hp → Hp → Bool → Bool → Prop := fun _ _ b c => b = c
abbrev tE (W : WX) (cl : Nat → Value) (f : Env → R D) : TE := tX rhE W cl f
abbrev tTt (W : WX) (cl : Nat → Value) (f : Env → R Bool) : TT := tX rhB W cl f
abbrev tAs (W : WX) (cl : Nat → Value) (f : Env → R (List D)) : TA := tX rhL W cl f
section
variable {α β γ δ : Type} {ρ : Hp → Hp → β → α → Prop} {ρ2 : Hp → Hp → δ → γ → Prop} {W : WX} {cl : Nat → Value} {σ : St} {H : Hp}
theorem tX.mono {f : Env → R α} {Q Q' : β → Hp → Prop} (h : tX ρ W cl f σ H Q) (k : ∀ b H', Q b H' → Q' b H') : tX ρ W cl f σ H Q' := by
  obtain ⟨H0, G, env, rel, o⟩ := h
  exact ⟨H0, G, env, rel, o.mono k⟩
/-- f, then k -/
theorem tX.bind {f : Env → R α} {k : α → Env → R γ} {Q : δ → Hp → Prop} (h : tX ρ2 W cl (fun env => f env >>= fun a => k a env) σ H Q) :
    tX ρ W cl f σ H fun b H1 => ∃ H0 G env a, Rel H0 G env σ H1 ∧ ρ G H1 b a ∧ Out ρ2 W cl σ G H1 (k a env) Q := by
  obtain ⟨H0, G, env, rel, o⟩ := h
  exact ⟨H0, G, env, rel, (Out.bind (ρ := ρ) o).mono fun b H1 ⟨a, G1, st, q, o1⟩ => ⟨H0, G1, env, a, rel.step st, q, o1⟩⟩
theorem PE.mono {X : Cx} {e : Expr} {t t' : TE} (h : PE X e t) (k : ∀ σ H Q, t' σ H Q → t σ H Q) : PE X e t' := ⟨fun pins s σ H Q I q => h.run pins s σ H Q I (k σ H Q q)⟩
theorem PT.mono {X : Cx} {e : Expr} {t t' : TT} (h : PT X e t) (k : ∀ σ H Q, t' σ H Q → t σ H Q) : PT X e t' := ⟨fun pins s σ H Q I q => h.run pins s σ H Q I (k σ H Q q)⟩
theorem PW.mono {X : Cx} {e : Expr} {t t' : TT} (h : PW X e t) (k : ∀ σ H Q, t' σ H Q → t σ H Q) : PW X e t' := ⟨fun w pins s σ H Q I q => h.run w pins s σ H Q I (k σ H Q q)⟩
theorem PA.mono {X : Cx} {e : List Expr} {t t' : TA} (h : PA X e t) (k : ∀ σ H Q, t' σ H Q → t σ H Q) : PA X e t' := ⟨fun p pins s σ H Q I q => h.run p pins s σ H Q I (k σ H Q q)⟩
theorem PS.mono {X : Cx} {e : Stmt} {t t' : TS} (h : PS X e t) (k : ∀ D σ H, t' D σ H → t D σ H) : PS X e t' := ⟨fun pins s σ H D I q => h.run pins s σ H D I (k D σ H q)⟩
theorem PSs.mono {X : Cx} {e : List Stmt} {t t' : TS} (h : PSs X e t) (k : ∀ D σ H, t' D σ H → t D σ H) : PSs X e t' := ⟨fun pins s σ H D I q => h.run pins s σ H D I (k D σ H q)⟩
end
end M

set_option Elab.async false
set_option linter.all false
set_option maxRecDepth 100000
set_option maxHeartbeats 4000000
namespace M
open PySem PySem.Spec L2
open PyProof.Rows hiding St
/-! ### reading data -/
theorem lim_le : lim ≤ sizeLine := by rw [sizeLine_eq]; decide
section
variable {G G' H H' : Hp} {v : V}
theorem Rq.step {d : D} (r : Rq G H v d) (st : Step G H G' H') : Rq G' H' v d := by
  cases r with
  | of r => exact .of (r.ext st.gg)
  | own h q => exact .own (st.hh _ _ h) (q.ext st.gg)
theorem Rq.list {ds : List D} (r : Rq G H v (.list ds)) (e : Same G H) : ∃ p vs, v = .ref p ∧ H p = some (.lst vs) ∧ RpL G vs ds := by
  cases r with
  | of r => cases r with
    | lst h q => exact ⟨_, _, rfl, e _ _ h, q⟩
  | own h q => exact ⟨_, _, rfl, h, q⟩
theorem Rq.tuple {ds : List D} (r : Rq G H v (.tuple ds)) (e : Same G H) : ∃ p vs, v = .ref p ∧ G p = some (.tup vs) ∧ H p = some (.tup vs) ∧ RpL G vs ds := by
  cases r with
  | of r => cases r with
    | tup h q => exact ⟨_, _, rfl, h, e _ _ h, q⟩
theorem Rq.int {i : Int} (r : Rq G H v (.int i)) : v = .int i := by
  cases r with
  | of r => cases r; rfl
theorem Rq.str {i : Str} (r : Rq G H v (.str i)) : v = .str i := by
  cases r with
  | of r => cases r; rfl
theorem Rq.bl {i : Bool} (r : Rq G H v (.bool i)) : v = .bl i := by
  cases r with
  | of r => cases r; rfl
theorem Rq.non (r : Rq G H v .none) : v = .non := by
  cases r with
  | of r => cases r; rfl
theorem Rq.scr {kvs : List (D × D)} (r : Rq G H v (.dict kvs)) (e : Same G H) : ∃ (p : Addr) (ns : List Int) (o : Obj), v = .ref p ∧ H p = some (.frz o (.lst (ns.map V.int))) ∧ kvs = ns.map fun (n : Int) => ((PyData.int n : D), (PyData.none : D)) := by
  cases r with
  | of r => cases r with
    | scr h => exact ⟨_, _, _, rfl, e _ _ h, rfl⟩
theorem Rq.none_iff {d : D} (r : Rq G H v d) : decide (v = .non) = isNone d := by
  cases r with
  | of r => cases r <;> simp [isNone]
  | own h q => simp [isNone]
theorem Rq.dp {K : PySem.W.Frag} {d : D} (r : Rq G H v d) (e : Same G H) (c : d.canLay0 = true) : Dp K H v d := by
  cases r with
  | of r => exact r.dp e c
  | own h q => exact .lst (SqL.of h) (q.dp e (by simpa [PyData.canLay0] using c))
end

/-! ### operators, by values -/
def rD (f : D → D → R D) : R2 := fun x y H Q => ∃ G d e W cl σ, Same G H ∧ Rq G H x d ∧ Rq G H y e ∧ Out rhE W cl σ G H (f d e) Q
section
variable {X : Cx}
theorem sh0 {a : D} (h : SeqAt.shaped a = true) : a.canLay0 = true := by
  unfold SeqAt.shaped at h
  exact (Bool.and_eq_true_iff.mp h).1
theorem o_add : OpR X (binaryOp .Add) (rD addD) := by
  intro pins s σ H x y v u Q I rx ry h
  obtain ⟨G, d, e, W, cl, σ', eg, q1, q2, o⟩ := h
  have r0 := Step.refl eg
  cases d <;> cases e <;> first | exact False.elim o | skip
  · cases q1.int; cases q2.int
    exact op_add pins s σ H _ _ v u Q I rx ry ⟨_, _, rfl, rfl, o.ok r0 (.int _)⟩
  · cases q1.str; cases q2.str
    rename_i a b
    simp only [addD] at o
    split at o
    · rename_i hl
      exact op_add_str pins s σ H _ _ v u Q I rx ry ⟨_, _, rfl, rfl, Nat.le_trans hl lim_le, o.ok r0 (.str _)⟩
    · exact False.elim o
  · obtain ⟨p, vs, rfl, h1, q1⟩ := q1.list eg
    obtain ⟨p2, vs2, rfl, h2, q2⟩ := q2.list eg
    simp only [addD] at o
    split at o
    · rename_i hl
      exact op_cat pins s σ H _ _ v u Q I rx ry ⟨p, p2, vs, vs2, rfl, rfl, h1, h2, by rw [q1.len, q2.len]; exact Nat.le_trans hl lim_le, fun l hn =>
        o.ok (Step.alloc eg hn) (.lst upd_same ((q1.app q2).ext (same_upd (eg.free hn))))⟩
    · exact False.elim o
  · obtain ⟨p, vs, rfl, g1, h1, q1⟩ := q1.tuple eg
    obtain ⟨p2, vs2, rfl, g2, h2, q2⟩ := q2.tuple eg
    simp only [addD] at o
    split at o
    · rename_i hl
      refine op_catA pins s σ H _ _ v u Q I rx ry ⟨p, p2, vs, vs2, rfl, rfl, SqT.of h1, SqT.of h2, by rw [q1.len, q2.len]; exact Nat.le_trans hl lim_le, ?_, ?_, ?_⟩
      · intro e; subst e; cases q1; exact o.ok r0 (.tup g2 q2)
      · intro e1 e2; subst e2; cases q2; exact o.ok r0 (.tup g1 (by simpa using q1))
      · intro e1 e2 l hn
        exact o.ok (Step.alloc eg hn) (.tup upd_same ((q1.app q2).ext (same_upd (eg.free hn))))
    · exact False.elim o

theorem o_int {op : Operator} {f : D → D → R D} {g : Int → Int → Int} (C : Int → Int → Prop) (rule : OpR X (binaryOp op) (rI C fun i j => .int (g i j)))
    (hf : ∀ d e, (∃ i j, d = .int i ∧ e = .int j ∧ C i j ∧ f d e = .ok (.int (g i j))) ∨ f d e = .bad) : OpR X (binaryOp op) (rD f) := by
  intro pins s σ H x y v u Q I rx ry h
  obtain ⟨G, d, e, W, cl, σ', eg, q1, q2, o⟩ := h
  rcases hf d e with ⟨i, j, rfl, rfl, c, he⟩ | he
  · rw [he] at o
    cases q1.int; cases q2.int
    exact rule pins s σ H _ _ v u Q I rx ry ⟨i, j, rfl, rfl, c, o.ok (Step.refl eg) (.int _)⟩
  · rw [he] at o
    exact False.elim o
theorem o_sub : OpR X (binaryOp .Sub) (rD subD) := by
  intro pins s σ H x y v u Q I rx ry h
  obtain ⟨G, d, e, W, cl, σ', eg, q1, q2, o⟩ := h
  cases d <;> cases e <;> first | exact False.elim o | skip
  cases q1.int; cases q2.int
  exact op_sub pins s σ H _ _ v u Q I rx ry ⟨_, _, rfl, rfl, o.ok (Step.refl eg) (.int _)⟩
theorem o_mod : OpR X (binaryOp .Mod) (rD modD) := o_int (fun _ j => 0 < j) op_mod fun d e => by
  cases d <;> cases e <;> first | exact .inr rfl | skip
  rename_i i j
  by_cases h : 0 < j
  · exact .inl ⟨i, j, rfl, rfl, h, by simp [modD, h]⟩
  · exact .inr (by simp [modD, h])
theorem o_div : OpR X (binaryOp .FloorDiv) (rD divD) := o_int CDiv op_fdiv fun d e => by
  cases d <;> cases e <;> first | exact .inr rfl | skip
  rename_i i j
  by_cases h : (decide (0 < j) && decide (j < 1073741824)) = true
  · refine .inl ⟨i, j, rfl, rfl, ?_, by simp only [divD, h, if_true]⟩
    simpa [CDiv] using h
  · exact .inr (by simp only [divD, h]; rfl)
theorem o_pow : OpR X (binaryOp .Pow) (rD powD) := o_int CPow op_pow fun d e => by
  cases d <;> cases e <;> first | exact .inr rfl | skip
  rename_i i j
  by_cases h : (decide (0 ≤ j) && decide (j ≤ 1000000) && decide (i.natAbs < 2 ^ 64)) = true
  · refine .inl ⟨i, j, rfl, rfl, ?_, by simp only [powD, h, if_true]⟩
    simp only [Bool.and_eq_true, decide_eq_true_eq] at h
    exact ⟨h.1.1, h.1.2, h.2⟩
  · exact .inr (by simp only [powD, h]; rfl)
theorem o_mul : OpR X (binaryOp .Mult) (rD mulD) := by
  intro pins s σ H x y v u Q I rx ry h
  obtain ⟨G, d, e, W, cl, σ', eg, q1, q2, o⟩ := h
  cases d <;> cases e <;> first | exact False.elim o | skip
  · cases q1.int; cases q2.int
    simp only [mulD] at o
    split at o
    · rename_i hl
      refine op_mul pins s σ H _ _ v u Q I rx ry ⟨_, _, rfl, rfl, ?_, o.ok (Step.refl eg) (.int _)⟩
      simpa [smallI, CMul] using hl
    · exact False.elim o
  · cases q1.str; cases q2.int
    rename_i z k
    simp only [mulD] at o
    split at o
    · rename_i hl
      simp only [Bool.and_eq_true, decide_eq_true_eq] at hl
      obtain ⟨t, rfl⟩ := rx
      obtain ⟨t', rfl⟩ := ry
      have hlim : lim = 100000 := rfl
      have ok : MulOk z k := by
        refine ⟨?_, fun h1 h2 => ?_, fun h1 h2 => ?_⟩
        · rw [decide_eq_false (by omega), decide_eq_false (by omega)]; rfl
        · have a1 : (z.length : Int) * k ≤ 100000 := by
            have e : k = ((k.toNat : Nat) : Int) := by omega
            have h3 := hl.2
            rw [hlim] at h3
            have : ((z.length * k.toNat : Nat) : Int) ≤ 100000 := by omega
            rw [e]
            simpa using this
          have a2 : (z.length : Int) ≤ (2 ^ 63 - 1) / k := by
            rw [Int.le_ediv_iff_mul_le (by omega)]
            omega
          omega
        · exact decide_eq_false (by have h3 := hl.2; have h4 := lim_le; rw [hlim] at h3 h4; omega)
      refine SB.mul ok fun t2 tk => ⟨.str (Txt.mul z k), H, I.kept (t' := tk) fun _ _ e => e, ⟨t2, rfl⟩, o.ok (Step.refl eg) (.str _)⟩
    · exact False.elim o
  · obtain ⟨p, vs, rfl, h1, q1⟩ := q1.list eg
    cases q2.int
    simp only [mulD] at o
    split at o
    · rename_i hl
      simp only [Bool.and_eq_true, decide_eq_true_eq] at hl
      exact op_rep pins s σ H _ _ v u Q I rx ry ⟨p, _, vs, rfl, rfl, h1, hl.1.2, hl.1.1, by rw [q1.len]; exact Nat.le_trans hl.2 lim_le, fun l hn =>
        o.ok (Step.alloc eg hn) (.lst upd_same ((q1.rep _).ext (same_upd (eg.free hn))))⟩
    · exact False.elim o
  · obtain ⟨p, vs, rfl, g1, h1, q1⟩ := q1.tuple eg
    cases q2.int
    rename_i ds k
    simp only [mulD] at o
    split at o
    · rename_i hl
      simp only [Bool.and_eq_true, decide_eq_true_eq] at hl
      have hlim : lim = 100000 := rfl
      have hne : vs ≠ [] := by
        intro e
        subst e
        have := q1.len
        have hx := List.length_eq_zero_iff.mp this.symm
        rw [hx] at hl
        simp at hl
      refine op_repT pins s σ H _ _ v u Q I rx ry ⟨p, _, vs, rfl, rfl, SqT.of h1, hne, hl.2.1, hl.2.2.1, ?_, fun l hn => o.ok (Step.alloc eg hn) (.tup upd_same ((q1.rep _).ext (same_upd (eg.free hn))))⟩
      rw [q1.len]
      exact hl.2.2.2
    · exact False.elim o
theorem o_bin (op : Operator) : OpR X (binaryOp op) (rD (binD op)) := by
  cases op with
  | Add => exact o_add
  | Sub => exact o_sub
  | Mult => exact o_mul
  | Mod => exact o_mod
  | FloorDiv => exact o_div
  | Pow => exact o_pow
  | _ =>
    intro pins s σ H x y v u Q I rx ry h
    obtain ⟨G, d, e, W, cl, σ', eg, q1, q2, o⟩ := h
    exact False.elim o
/-- ints in place -/
theorem ip_int {op : Operator} {g : Int → Int → Int} (rule : PIp X op (ipI g)) : PIp X op (fun x y H Q => ∃ i j, x = .int i ∧ y = .int j ∧ Q (.int (g i j)) H) := rule

theorem o_cmpI {op : CmpOp} {p : Int → Int → Bool} (rule : OpR X (compareOp op) (rI0 fun i j => .bl (p i j))) : OpR X (compareOp op) (rD (cmpI p)) := by
  intro pins s σ H x y v u Q I rx ry h
  obtain ⟨G, d, e, W, cl, σ', eg, q1, q2, o⟩ := h
  cases d <;> cases e <;> first | exact False.elim o | skip
  cases q1.int; cases q2.int
  exact rule pins s σ H _ _ v u Q I rx ry ⟨_, _, rfl, rfl, o.ok (Step.refl eg) (.bl _)⟩
theorem o_eq (hu : X.A.units + 64 < cLine) : OpR X (compareOp .Eq) (rD (cmpD .Eq)) := by
  intro pins s σ H x y v u Q I rx ry h
  obtain ⟨G, d, e, W, cl, σ', eg, q1, q2, o⟩ := h
  simp only [cmpD, eqD] at o
  split at o
  · rename_i hs
    obtain ⟨s1, s2⟩ := Bool.and_eq_true_iff.mp hs
    exact op_eqD hu pins s σ H _ _ v u Q I rx ry ⟨d, e, q1.dp eg (sh0 s1), q2.dp eg (sh0 s2), s1, s2, o.ok (Step.refl eg) (.bl _)⟩
  · exact False.elim o
theorem o_ne (hu : X.A.units + 64 < cLine) : OpR X (compareOp .NotEq) (rD (cmpD .NotEq)) := by
  intro pins s σ H x y v u Q I rx ry h
  obtain ⟨G, d, e, W, cl, σ', eg, q1, q2, o⟩ := h
  simp only [cmpD, eqD] at o
  split at o
  · rename_i hs
    obtain ⟨s1, s2⟩ := Bool.and_eq_true_iff.mp hs
    exact op_neD hu pins s σ H _ _ v u Q I rx ry ⟨d, e, q1.dp eg (sh0 s1), q2.dp eg (sh0 s2), s1, s2, o.ok (Step.refl eg) (.bl _)⟩
  · exact False.elim o
theorem RpL.strs {G : Hp} : ∀ {vs : List V} {ds : List D}, RpL G vs ds → ds.all (fun y => match y with | .str _ => true | _ => false) = true →
    vs.all flatV = true ∧ ∀ x : Str, inV (.str x) vs = ds.any fun y => match y with | .str z => decide (z = x) | _ => false
  | _, _, .nil, _ => ⟨rfl, fun _ => rfl⟩
  | _, _, .cons (ds := ds) r t, h => by
    simp only [List.all_cons, Bool.and_eq_true] at h
    obtain ⟨h1, h2⟩ := h
    obtain ⟨i1, i2⟩ := RpL.strs t h2
    cases r with
    | str z =>
      refine ⟨by simp [flatV, i1], fun x => ?_⟩
      have := i2 x
      unfold inV at this ⊢
      simp only [List.any_cons, this]
      rfl
    | _ => simp at h1
theorem o_in (hu : X.A.units + 65 < cLine) (neg : Bool) : OpR X (compareOp (if neg then .NotIn else .In)) (rD (cmpD (if neg then .NotIn else .In))) := by
  intro pins s σ H x y v u Q I rx ry h
  obtain ⟨G, d, e, W, cl, σ', eg, q1, q2, o⟩ := h
  have o2 : Out rhE W cl σ' G H (do let c ← inD d e; pure (.bool (if neg then !c else c))) Q := by
    cases neg <;> exact o
  by_cases hl : ∃ ds, e = .list ds
  · obtain ⟨ds, rfl⟩ := hl
    have e1 : inD d (.list ds) = if SeqAt.shaped d && SeqAt.shaped (.list ds) then .ok (ds.any fun z => PyData.eqv z d) else .bad := by cases d <;> rfl
    rw [e1] at o2
    split at o2
    · rename_i hs
      obtain ⟨s1, s2⟩ := Bool.and_eq_true_iff.mp hs
      have fin := o2.ok (Step.refl eg) (.bl _)
      cases neg
      · exact op_inD hu pins s σ H _ _ v u Q I rx ry ⟨d, ds, q1.dp eg (sh0 s1), q2.dp eg (sh0 s2), s1, s2, fin⟩
      · exact op_notInD hu pins s σ H _ _ v u Q I rx ry ⟨d, ds, q1.dp eg (sh0 s1), q2.dp eg (sh0 s2), s1, s2, fin⟩
    · exact False.elim o2
  · cases d <;> cases e <;> first | exact False.elim o2 | exact absurd ⟨_, rfl⟩ hl | skip
    rename_i a ys
    cases q1.str
    obtain ⟨p, vs, rfl, g1, h1, q2⟩ := q2.tuple eg
    simp only [inD] at o2
    split at o2
    · rename_i hs
      obtain ⟨i1, i2⟩ := RpL.strs q2 hs
      have fin := o2.ok (Step.refl eg) (.bl _)
      cases neg
      · refine op_in_seq pins s σ H _ _ v u Q I rx ry ⟨p, vs, rfl, .inr (SqT.of h1), rfl, i1, ?_⟩
        rw [i2]; exact fin
      · refine op_notIn_seq pins s σ H _ _ v u Q I rx ry ⟨p, vs, rfl, .inr (SqT.of h1), rfl, i1, ?_⟩
        rw [i2]; exact fin
    · exact False.elim o2
theorem o_cmp (hu : X.A.units + 65 < cLine) (op : CmpOp) : OpR X (compareOp op) (rD (cmpD op)) := by
  cases op with
  | Eq => exact o_eq (by omega)
  | NotEq => exact o_ne (by omega)
  | Lt => exact o_cmpI op_lt
  | LtE => exact o_cmpI op_le
  | Gt => exact o_cmpI op_gt
  | GtE => exact o_cmpI op_ge
  | In => exact o_in hu false
  | NotIn => exact o_in hu true
  | _ =>
    intro pins s σ H x y v u Q I rx ry h
    obtain ⟨G, d, e, W, cl, σ', eg, q1, q2, o⟩ := h
    exact False.elim o
theorem atI_rp {G : Hp} {vs : List V} {ds : List D} {i : Int} {d : D} (q : RpL G vs ds) (h : atI ds i = some d) : ∃ w, atI vs i = some w ∧ Rp G w d := by
  unfold atI at h ⊢
  rw [q.len]
  cases hx : ixN ds.length i with
  | none => rw [hx] at h; cases h
  | some k =>
    rw [hx] at h
    exact q.get (show ds[k]? = some d from h)
theorem atI_map {α β : Type} (f : α → β) (xs : List α) (i : Int) : atI (xs.map f) i = (atI xs i).map f := by
  unfold atI
  rw [List.length_map]
  cases ixN xs.length i with
  | none => rfl
  | some k => show (xs.map f)[k]? = (xs[k]?).map f; rw [List.getElem?_map]
theorem o_idx : IxR X (rD idxD) := by
  intro value slice pins s σ H x y v u Q I rx ry h hsub
  obtain ⟨G, d, e, W, cl, σ', eg, q1, q2, o⟩ := h
  cases d <;> cases e <;> first | exact False.elim o | skip
  · cases q1.str; cases q2.int
    simp only [idxD] at o
    split at o
    · rename_i hl
      split at o
      · rename_i c hc
        exact ix_str value slice pins s σ H _ _ v u Q I rx ry ⟨_, _, c, rfl, rfl, Nat.le_trans hl lim_le, hc, o.ok (Step.refl eg) (.str _)⟩ hsub
      · exact False.elim o
    · exact False.elim o
  · obtain ⟨p, vs, rfl, h1, q1⟩ := q1.list eg
    cases q2.int
    simp only [idxD] at o
    split at o
    · rename_i d hd
      obtain ⟨w, ha, rw'⟩ := atI_rp q1 hd
      exact ix_list value slice pins s σ H _ _ v u Q I rx ry ⟨p, vs, _, w, rfl, rfl, SqL.of h1, ha, o.ok (Step.refl eg) rw'⟩ hsub
    · exact False.elim o
  · obtain ⟨p, vs, rfl, g1, h1, q1⟩ := q1.tuple eg
    cases q2.int
    simp only [idxD] at o
    split at o
    · rename_i d hd
      obtain ⟨w, ha, rw'⟩ := atI_rp q1 hd
      exact ix_tup value slice pins s σ H _ _ v u Q I rx ry ⟨p, vs, _, w, rfl, rfl, SqT.of h1, ha, o.ok (Step.refl eg) rw'⟩ hsub
    · exact False.elim o
  · rename_i i
    obtain ⟨p, ns, ob, rfl, h1, rfl⟩ := q1.scr eg
    cases q2.int
    simp only [idxD] at o
    split at o
    · rename_i n z hd
      rw [atI_map] at hd
      cases hn : atI ns i with
      | none => rw [hn] at hd; cases hd
      | some m =>
        rw [hn] at hd
        simp only [Option.map_some, Option.some.injEq, Prod.mk.injEq, PyData.int.injEq] at hd
        obtain ⟨rfl, _⟩ := hd
        exact ix_list value slice pins s σ H _ _ v u Q I rx ry ⟨p, _, i, V.int m, rfl, rfl, .inl (.inr ⟨ob, h1⟩), by rw [atI_map, hn]; rfl, o.ok (Step.refl eg) (.int _)⟩ hsub
    · exact False.elim o
def rSl (f : D → Option Int → Option Int → R D) : V → Option Int → Option Int → Hp → VK → Prop := fun x lo hi H Q => ∃ G d W cl σ, Same G H ∧ Rq G H x d ∧ Out rhE W cl σ G H (f d lo hi) Q
theorem cut_rp {G : Hp} {vs : List V} {ds : List D} (q : RpL G vs ds) (lo hi : Option Int) : RpL G (cutV vs lo hi) (cutL ds lo hi) := by
  unfold cutV cutL
  rw [q.len]
  exact (q.drop _).take _
theorem cutL_whole {α : Type} {ds : List α} {lo hi : Option Int} (h : HT.sIx ds.length 0 lo = 0 ∧ HT.sIx ds.length ds.length hi = ds.length) : cutL ds lo hi = ds := by
  unfold cutL
  rw [h.1, h.2]; simp
theorem o_sl : SlR X (rSl slD) := by
  intro pins s σ H x v vl vu lo hi sl Q I rx hs pl pu h
  obtain ⟨G, d, W, cl, σ', eg, q1, o⟩ := h
  cases d <;> first | exact False.elim o | skip
  · cases q1.str
    simp only [slD] at o
    split at o
    · rename_i hl
      exact sl_str pins s σ H _ v vl vu lo hi sl Q I rx hs pl pu ⟨_, rfl, Nat.le_trans hl lim_le, o.ok (Step.refl eg) (.str _)⟩
    · exact False.elim o
  · obtain ⟨p, vs, rfl, h1, q1⟩ := q1.list eg
    exact sl_list pins s σ H _ v vl vu lo hi sl Q I rx hs pl pu ⟨p, vs, rfl, SqL.of h1, fun l hn => o.ok (Step.alloc eg hn) (.lst upd_same ((cut_rp q1 lo hi).ext (same_upd (eg.free hn))))⟩
  · obtain ⟨p, vs, rfl, g1, h1, q1⟩ := q1.tuple eg
    refine sl_tupA pins s σ H _ v vl vu lo hi sl Q I rx hs pl pu ⟨p, vs, rfl, SqT.of h1, fun hw => ?_, fun hw l hn => o.ok (Step.alloc eg hn) (.tup upd_same ((cut_rp q1 lo hi).ext (same_upd (eg.free hn))))⟩
    rw [q1.len] at hw
    refine o.ok (Step.refl eg) (.tup g1 ?_)
    rw [cutL_whole hw]; exact q1
theorem o_truth {G H : Hp} {v : V} {d : D} {k : Bool} {K : PySem.W.Frag} (eg : Same G H) (q : Rq G H v d) (h : truth d = .ok k) : TruV K v H k := by
  cases d <;> first | (simp [truth] at h; done) | skip
  · cases q.non; cases h; rfl
  · cases q.bl; cases h; rfl
  · cases q.int; cases h; rfl
  · cases q.str
    simp only [truth] at h
    split at h
    · rename_i hl
      cases h
      refine ⟨Nat.le_trans hl lim_le, ?_⟩
      rename_i x
      show (x.length != 0) = (((x.length : Nat) : Int) != 0)
      cases hx : x.length <;> simp <;> omega
    · cases h
  · obtain ⟨p, vs, rfl, h1, q1⟩ := q.list eg
    cases h
    refine .inl ⟨vs, SqL.of h1, ?_⟩
    cases q1 <;> rfl
  · obtain ⟨p, vs, rfl, g1, h1, q1⟩ := q.tuple eg
    cases h
    refine .inr (.inl ⟨vs, SqT.of h1, ?_⟩)
    cases q1 <;> rfl
theorem truth_noexc (d : D) : ∀ c, truth d ≠ .exc c := by
  intro c
  cases d <;> simp [truth]
  split <;> simp
end
end M

set_option Elab.async false
set_option linter.all false
set_option maxRecDepth 100000
set_option maxHeartbeats 4000000
namespace M
open PySem PySem.Spec L2
open PyProof.Rows hiding St
/-! ### forms of the text -/
def nst : Expr → Bool
  | .Starred _ _ => false
  | _ => true
theorem starEach_cons {e : Expr} (h : nst e = true) (es : List Expr) (env : PySem.Env) : starEach (e :: es) env = (false, eval e env) :: starEach es env := by
  cases e <;> first | (simp [nst] at h; done) | rfl
theorem star_any : ∀ {es : List Expr} (h : es.all nst = true) (env : PySem.Env) (pos : Pos), (backTo pos (starEach es env)).any (·.1) = false
  | [], _, _, _ => rfl
  | e :: es, h, env, pos => by
    simp only [List.all_cons, Bool.and_eq_true] at h
    rw [starEach_cons h.1]
    show (false || (backTo pos (starEach es env)).any (·.1)) = false
    rw [star_any h.2 env pos]; rfl
theorem star_all : ∀ {es : List Expr} (h : es.all nst = true) (env : PySem.Env) (pos : Pos), (backTo pos (starEach es env)).all (fun x => !x.1) = true
  | [], _, _, _ => rfl
  | e :: es, h, env, pos => by
    simp only [List.all_cons, Bool.and_eq_true] at h
    rw [starEach_cons h.1]
    show (true && (backTo pos (starEach es env)).all (fun x => !x.1)) = true
    rw [star_all h.2 env pos]; rfl
/-- no slice, no name of its own kind -/
def plix : Expr → Bool
  | .Slice _ _ none _ => false
  | _ => true
theorem plix_ok {b : Expr} (h : plix b = true) : PlainIx b := by
  intro o i
  cases b with
  | Slice lo hi st pos =>
    cases st with
    | none => simp [plix] at h
    | some _ => rfl
  | _ => rfl
/-- a test that is its value's truth -/
def plt : Expr → Bool
  | .UnaryOp .Not _ _ => false
  | .BoolOp _ _ _ => false
  | .IfExp _ _ _ _ => false
  | .Compare _ _ _ _ => false
  | _ => true
theorem plt_ok {e : Expr} (h : plt e = true) (env : PySem.Env) (whole : Sem Value) : isTrue e env whole = (do let v ← whole; standAt e.pos; holding [v] (truthy v)) := by
  cases e with
  | UnaryOp op a pos => cases op <;> first | (simp [plt] at h; done) | rfl
  | BoolOp _ _ _ => simp [plt] at h
  | IfExp _ _ _ _ => simp [plt] at h
  | Compare _ _ _ _ => simp [plt] at h
  | _ => rfl
def plset : Expr → Bool
  | .Set _ _ _ => false
  | _ => true
theorem plset_mark {b : Expr} (h : plset b = true) (op : CmpOp) : behindInMarks op b = false := by
  cases b <;> first | (simp [plset] at h; done) | rfl
theorem plset_it {b : Expr} (h : plset b = true) (env : PySem.Env) (x : Value) : foldedSetIterable b env x = pure x := by
  cases b <;> first | (simp [plset] at h; done) | rfl
/-- no call without arguments: o.m's base is o -/
def plbase : Expr → Bool
  | .Call (.Name x _) [] [] _ => x != "super"
  | _ => true
theorem plbase_ok {o : Expr} (h : plbase o = true) (a : Str) (env : PySem.Env) (w : Sem Value) : attributeBase o a env w = w := by
  cases o with
  | Call f args kws pos =>
    cases f with
    | Name x p =>
      cases args with
      | nil =>
        cases kws with
        | nil =>
          have h : (x != "super") = true := h
          unfold attributeBase
          simp only [h, Bool.true_or, if_true]
          all_goals exact bind_pure w
        | cons _ _ => rfl
      | cons _ _ => rfl
    | _ => rfl
  | _ => rfl
/-- no comprehension -/
def plsw : Expr → Bool
  | .ListComp .. => false
  | .SetComp .. => false
  | .DictComp .. => false
  | _ => true
theorem plsw_ok {e : Expr} (h : plsw e = true) (t : Option Expr) (l : Nat) (env : PySem.Env) : swapsWith e t l env = pure false := by
  cases e <;> first | (simp [plsw] at h; done) | rfl

/-! ### expressions -/
section
variable {X : Cx} {W : WX} {cl : Nat → Value} {a b c e : Expr} {es : List Expr} {f g k : Env → R D} {pos : Pos}
theorem PE.q (h : PE X e (tE W cl f)) : PE X e (tX rhQ W cl f) := PE.mono h fun σ H Q ⟨H0, G, env, rel, o⟩ => ⟨H0, G, env, rel, by
  cases hr : f env with
  | ok d => rw [hr] at o; exact fun v G' H' st q => o v G' H' st (.of q)
  | exc c => rw [hr] at o; exact o
  | bad => rw [hr] at o; exact o⟩
theorem t2 {k : D → D → R D} {σ : St} {H : Hp} {Q : VK} (h : tE W cl (fun env => do let x ← f env; let y ← g env; k x y) σ H Q) : tOp (rD k) (tX rhQ W cl f) (tX rhQ W cl g) σ H Q := by
  refine tX.mono (tX.bind (ρ := rhQ) h) fun v H1 ⟨H0, G, env, x, rel, q1, o⟩ => ?_
  exact ⟨H0, G, env, rel, (Out.bind (ρ := rhQ) o).mono fun u H2 ⟨y, G2, st, q2, o2⟩ => ⟨G2, x, y, W, cl, σ, st.gh, Rq.step q1 st, q2, o2⟩⟩
theorem p_const {d : D} {v : V} (h : PE X e (tC v)) (r : ∀ G, Rp G v d) : PE X e (tE W cl fun _ => .ok d) :=
  PE.mono h fun σ H Q ⟨H0, G, env, rel, o⟩ => o.ok (Step.refl rel.gh) (r G)
theorem p_var {i : Nat} (h : PE X e (tVar i)) : PE X e (tE W cl fun env => getV env i) := PE.mono h fun σ H Q ⟨H0, G, env, rel, o⟩ => by
  dsimp only at o
  cases hg : getV env i with
  | ok d =>
    rw [hg] at o
    obtain ⟨v, h1, h2⟩ := rel.var hg
    exact ⟨v, h1, o.ok (Step.refl rel.gh) h2⟩
  | exc c => unfold getV at hg; split at hg <;> cases hg
  | bad => rw [hg] at o; exact False.elim o
theorem p_ow {i : Nat} (h : PE X e (tVar i)) : PE X e (tX rhQ W cl fun env => getO env i) := PE.mono h fun σ H Q ⟨H0, G, env, rel, o⟩ => by
  unfold getO at o
  dsimp only at o
  split at o
  · rename_i ds hg
    obtain ⟨v, h1, p, vs, e1, _, _, h2, h3⟩ := rel.at_ i _ hg
    subst e1
    exact ⟨_, h1, o.ok (Step.refl rel.gh) (.own h2 h3)⟩
  · exact False.elim o
theorem p_bin {op : Operator} (ha : PE X a (tX rhQ W cl f)) (hb : PE X b (tX rhQ W cl g)) : PE X (.BinOp a op b pos) (tE W cl fun env => do let x ← f env; let y ← g env; binD op x y) :=
  PE.mono (pe_op (o_bin op) ha hb) fun σ H Q h => t2 h
theorem p_cmp {op : CmpOp} (hu : X.A.units + 65 < cLine) (hm : plset b = true) (ha : PE X a (tX rhQ W cl f)) (hb : PE X b (tX rhQ W cl g)) : PE X (.Compare a [op] [b] pos) (tE W cl fun env => do let x ← f env; let y ← g env; cmpD op x y) :=
  PE.mono (pe_cmpR (o_cmp hu op) ha hb (plset_mark hm op)) fun σ H Q h => t2 h
theorem p_idx (hs : plix b = true) (ha : PE X a (tX rhQ W cl f)) (hb : PE X b (tX rhQ W cl g)) : PE X (.Subscript a b pos) (tE W cl fun env => do let x ← f env; let y ← g env; idxD x y) :=
  PE.mono (pe_ix o_idx ha hb (plix_ok hs)) fun σ H Q h => t2 h
theorem p_neg (ha : PE X a (tX rhQ W cl f)) : PE X (.UnaryOp .USub a pos) (tE W cl fun env => do let x ← f env; negD x) :=
  PE.mono (pe_un un_neg ha) fun σ H Q h => tX.mono (tX.bind (ρ := rhQ) h) fun v H1 ⟨H0, G, env, x, rel, q1, o⟩ => by
    cases x <;> first | exact False.elim o | skip
    cases q1.int
    exact ⟨_, rfl, o.ok (Step.refl rel.gh) (.int _)⟩
theorem p_isn {neg : Bool} {kk : Nat} {pos' : Pos} (ha : PE X a (tX rhQ W cl f)) : PE X (.Compare a [if neg then .IsNot else .Is] [.Constant .none kk pos'] pos) (tE W cl fun env => do
    let x ← f env
    pure (.bool (if neg then !isNone x else isNone x))) := by
  cases neg
  · refine PE.mono (pe_cmp (pc_isN ha) rfl) fun σ H Q h => tX.mono (tX.bind (ρ := rhQ) h) fun v H1 ⟨H0, G, env, x, rel, q1, o⟩ => ?_
    rw [Rq.none_iff q1]
    exact o.ok (Step.refl rel.gh) (.bl _)
  · refine PE.mono (pe_cmp (pc_notN ha) rfl) fun σ H Q h => tX.mono (tX.bind (ρ := rhQ) h) fun v H1 ⟨H0, G, env, x, rel, q1, o⟩ => ?_
    rw [Rq.none_iff q1]
    exact o.ok (Step.refl rel.gh) (.bl _)
theorem p_isb {neg b0 : Bool} {kk : Nat} {pos' : Pos} (ha : PE X a (tX rhQ W cl f)) : PE X (.Compare a [if neg then .IsNot else .Is] [.Constant (.bool b0) kk pos'] pos) (tE W cl fun env => do
    let x ← f env
    match x with
    | .bool c => .ok (.bool (if neg then !decide (c = b0) else decide (c = b0)))
    | _ => .bad) := by
  cases neg
  · refine PE.mono (pe_cmpR op_isBl ha pe_bl rfl) fun σ H Q h => tX.mono (tX.bind (ρ := rhQ) h) fun v H1 ⟨H0, G, env, x, rel, q1, o⟩ => ?_
    cases x <;> first | exact False.elim o | skip
    cases q1.bl
    exact ⟨_, _, rfl, rfl, o.ok (Step.refl rel.gh) (.bl _)⟩
  · refine PE.mono (pe_cmpR op_notBl ha pe_bl rfl) fun σ H Q h => tX.mono (tX.bind (ρ := rhQ) h) fun v H1 ⟨H0, G, env, x, rel, q1, o⟩ => ?_
    cases x <;> first | exact False.elim o | skip
    cases q1.bl
    exact ⟨_, _, rfl, rfl, o.ok (Step.refl rel.gh) (.bl _)⟩
/-! tests -/
theorem tT_of {σ : St} {H : Hp} {Q : Bool → Hp → Prop} (h : tTt W cl (fun env => do let x ← f env; truth x) σ H Q) {K : PySem.W.Frag} : tX rhQ W cl f σ H fun v H1 => ∃ k, TruV K v H1 k ∧ Q k H1 :=
  tX.mono (tX.bind (ρ := rhQ) h) fun v H1 ⟨H0, G, env, x, rel, q1, o⟩ => by
    cases hx : truth x with
    | ok k => rw [hx] at o; exact ⟨k, o_truth rel.gh q1 hx, o.ok (Step.refl rel.gh) rfl⟩
    | exc c => exact absurd hx (truth_noexc x c)
    | bad => rw [hx] at o; exact False.elim o
theorem q_plain (hp : plt e = true) (he : PE X e (tX rhQ W cl f)) : PT X e (tTt W cl fun env => do let x ← f env; truth x) :=
  PT.mono (pt_truth he (plt_ok hp X.env)) fun σ H Q h => tT_of h
/-- what is a bool for sure -/
theorem q_bool {t : TE} (h : PT X e (tTest t)) (he : ∀ σ H Q, tE W cl f σ H Q → t σ H Q) (hb : ∀ env d, f env = .ok d → ∃ k, d = .bool k) : PT X e (tTt W cl fun env => do let x ← f env; truth x) :=
  PT.mono h fun σ H Q q => he σ H _ (by
    obtain ⟨H0, G, env, rel, o⟩ := q
    refine ⟨H0, G, env, rel, ?_⟩
    dsimp only at o
    cases hf : f env with
    | ok d =>
      rw [hf] at o
      obtain ⟨k, rfl⟩ := hb env d hf
      exact fun v G' H' st q => by cases q; exact ⟨k, rfl, o k G' H' st rfl⟩
    | exc c => rw [hf] at o; exact o
    | bad => rw [hf] at o; exact o)
theorem cmpD_bool (op : CmpOp) (x y d : D) (h : cmpD op x y = .ok d) : ∃ k, d = .bool k := by
  have hb : ∀ {r : R Bool} {g : Bool → Bool}, (do let c ← r; pure (PyData.bool (g c)) : R D) = .ok d → ∃ k, d = .bool k := by
    intro r g h
    cases r with
    | ok c => cases h; exact ⟨_, rfl⟩
    | exc c => cases h
    | bad => cases h
  have hi : ∀ {p : Int → Int → Bool}, cmpI p x y = .ok d → ∃ k, d = .bool k := by
    intro p h
    cases x <;> cases y <;> first | (simp [cmpI] at h; done) | skip
    cases h; exact ⟨_, rfl⟩
  cases op <;> first | (simp [cmpD] at h; done) | exact hi h | exact hb (g := id) h | exact hb (g := fun c => !c) h
theorem q_cmp {op : CmpOp} (hu : X.A.units + 65 < cLine) (hm : plset b = true) (ha : PE X a (tX rhQ W cl f)) (hb : PE X b (tX rhQ W cl g)) : PT X (.Compare a [op] [b] pos) (tTt W cl fun env => do let z ← (do let x ← f env; let y ← g env; cmpD op x y); truth z) :=
  q_bool (pt_cmpR (o_cmp hu op) ha hb (plset_mark hm op)) (fun σ H Q h => t2 h) fun env d h => by
    cases hf : f env with
    | ok x =>
      cases hg : g env with
      | ok y => rw [hf, hg] at h; exact cmpD_bool op x y d h
      | exc c => rw [hf, hg] at h; cases h
      | bad => rw [hf, hg] at h; cases h
    | exc c => rw [hf] at h; cases h
    | bad => rw [hf] at h; cases h
theorem q_isn {neg : Bool} {kk : Nat} {pos' : Pos} (ha : PE X a (tX rhQ W cl f)) : PT X (.Compare a [if neg then .IsNot else .Is] [.Constant .none kk pos'] pos) (tTt W cl fun env => do
    let z ← (do
      let x ← f env
      pure (.bool (if neg then !isNone x else isNone x)))
    truth z) := by
  have hb : ∀ env d, (do
      let x ← f env
      pure (.bool (if neg then !isNone x else isNone x)) : R D) = .ok d → ∃ k, d = .bool k := by
    intro env d h
    cases hf : f env with
    | ok x => rw [hf] at h; cases h; exact ⟨_, rfl⟩
    | exc c => rw [hf] at h; cases h
    | bad => rw [hf] at h; cases h
  cases neg
  · refine q_bool (t := tIsN (tX rhQ W cl f)) (pt_cmp (pc_isN ha) rfl) (fun σ H Q h => tX.mono (tX.bind (ρ := rhQ) h) fun v H1 ⟨H0, G, env, x, rel, q1, o⟩ => ?_) hb
    rw [Rq.none_iff q1]
    exact o.ok (Step.refl rel.gh) (.bl _)
  · refine q_bool (t := tNotN (tX rhQ W cl f)) (pt_cmp (pc_notN ha) rfl) (fun σ H Q h => tX.mono (tX.bind (ρ := rhQ) h) fun v H1 ⟨H0, G, env, x, rel, q1, o⟩ => ?_) hb
    rw [Rq.none_iff q1]
    exact o.ok (Step.refl rel.gh) (.bl _)
theorem q_isb {neg b0 : Bool} {kk : Nat} {pos' : Pos} (ha : PE X a (tX rhQ W cl f)) : PT X (.Compare a [if neg then .IsNot else .Is] [.Constant (.bool b0) kk pos'] pos) (tTt W cl fun env => do
    let z ← (do
      let x ← f env
      match x with
      | .bool c => .ok (.bool (if neg then !decide (c = b0) else decide (c = b0)))
      | _ => .bad)
    truth z) := by
  have hb : ∀ env d, (do
      let x ← f env
      match x with
      | .bool c => .ok (.bool (if neg then !decide (c = b0) else decide (c = b0)))
      | _ => .bad : R D) = .ok d → ∃ k, d = .bool k := by
    intro env d h
    cases hf : f env with
    | ok x => rw [hf] at h; cases x <;> first | (cases h; done) | (cases h; exact ⟨_, rfl⟩)
    | exc c => rw [hf] at h; cases h
    | bad => rw [hf] at h; cases h
  cases neg
  · refine q_bool (pt_cmpR op_isBl ha pe_bl rfl) (fun σ H Q h => tX.mono (tX.bind (ρ := rhQ) h) fun v H1 ⟨H0, G, env, x, rel, q1, o⟩ => ?_) hb
    cases x <;> first | exact False.elim o | skip
    cases q1.bl
    exact ⟨_, _, rfl, rfl, o.ok (Step.refl rel.gh) (.bl _)⟩
  · refine q_bool (pt_cmpR op_notBl ha pe_bl rfl) (fun σ H Q h => tX.mono (tX.bind (ρ := rhQ) h) fun v H1 ⟨H0, G, env, x, rel, q1, o⟩ => ?_) hb
    cases x <;> first | exact False.elim o | skip
    cases q1.bl
    exact ⟨_, _, rfl, rfl, o.ok (Step.refl rel.gh) (.bl _)⟩
theorem t_chain {o1 o2 : CmpOp} {σ : St} {H : Hp} {Q : VK} (h : tE W cl (fun env => do
    let x ← f env
    let y ← g env
    match cmpD o1 x y with
    | .ok (.bool true) => do
      let z ← k env
      cmpD o2 y z
    | .ok (.bool false) => .ok (.bool false)
    | _ => .bad) σ H Q) : tChain (rD (cmpD o1)) (rD (cmpD o2)) (tX rhQ W cl f) (tX rhQ W cl g) (tX rhQ W cl k) σ H Q := by
  refine tX.mono (tX.bind (ρ := rhQ) h) fun v H1 ⟨H0, G, env, x, rel, q1, o⟩ => ?_
  refine ⟨H0, G, env, rel, (Out.bind (ρ := rhQ) o).mono fun u H2 ⟨y, G2, st, q2, o2⟩ => ⟨G2, x, y, W, cl, σ, st.gh, Rq.step q1 st, q2, ?_⟩⟩
  cases hc : cmpD o1 x y with
  | exc c => rw [hc] at o2; exact False.elim o2
  | bad => rw [hc] at o2; exact False.elim o2
  | ok d =>
    rw [hc] at o2
    cases d <;> first | exact False.elim o2 | skip
    rename_i kk
    intro z G3 H3 st3 q3
    cases q3
    refine ⟨kk, rfl, ?_⟩
    cases kk with
    | true =>
      rw [if_pos rfl]
      exact ⟨H0, G3, env, (rel.step st).step st3, (Out.bind (ρ := rhQ) (Out.step o2 st3)).mono fun z' H4 ⟨z0, G4, st4, q4, o4⟩ => ⟨G4, y, z0, W, cl, σ, st4.gh, Rq.step (Rq.step q2 st3) st4, q4, o4⟩⟩
    | false =>
      rw [if_neg (by decide)]
      exact o2.ok st3 (.bl _)
end
end M

set_option Elab.async false
set_option linter.all false
set_option maxRecDepth 100000
set_option maxHeartbeats 4000000
namespace M
open PySem PySem.Spec L2 HT
open PyProof.Rows hiding St
/-! ### t[::-1] -/
section
variable {prog : Program} {w : World} {A : Around} {E : Value → Shared → Prop} {s : Shared}
theorem adj_rev (n : Nat) : Builtin.Slice.sliceAdjust none none (-1) (n : Int) = ((n : Int) - 1, -1) := by
  unfold Builtin.Slice.sliceAdjust
  have h1 : ((-1 : Int) < 0) := by decide
  simp only [h1, if_true]
theorem plc_rev (n : Nat) : Builtin.Slice.slicePlaces ((n : Int) - 1) (-1) (-1) = n := by
  unfold Builtin.Slice.slicePlaces
  have h1 : ¬ ((-1 : Int) > 0) := by decide
  simp only [h1, if_false]
  split
  · simp
  · omega
theorem applied_rev {sl : Addr} {vl vu vs : Value} {n : Nat} {Q : Int × Int × Nat → Shared → Prop} (hs : s.heap.IsSliceOf sl vl vu vs) (pl : IsPart vl none) (pu : IsPart vu none) (ps : IsPart vs (some (-1)))
    (h : Q ((n : Int) - 1, -1, n) s) : wpAny (model prog w) A (Builtin.Slice.sliceApplied (.ref sl) (pure (n : Int))) Q E s := by
  obtain ⟨os, hos, hcs, hds⟩ := id hs
  unfold Builtin.Slice.sliceApplied Builtin.Slice.sliceFields
  refine wpAny_bind (wpAny_bind (wpAny_field hos hds (x := vl) rfl (wpAny_bind (wpAny_field hos hds (x := vu) rfl (wpAny_bind (wpAny_field hos hds (x := vs) rfl (wpAny_pure ?_)))))))
  refine wpAny_bind (slicePart_ ps ?_)
  show wpAny _ _ (if ((-1 : Int) == 0) = true then _ else _) _ _ s
  rw [if_neg (by decide)]
  refine wpAny_bind (slicePart_ pl (wpAny_bind (slicePart_ pu (wpAny_bind (wpAny_pure ?_)))))
  show wpAny _ _ (match Builtin.Slice.sliceAdjust none none (-1) (n : Int) with | (lo, hi) => pure (lo, (-1 : Int), Builtin.Slice.slicePlaces lo hi (-1))) _ _ s
  rw [adj_rev n]
  show wpAny _ _ (pure ((n : Int) - 1, (-1 : Int), Builtin.Slice.slicePlaces ((n : Int) - 1) (-1) (-1))) _ _ s
  rw [plc_rev]
  exact wpAny_pure h
theorem pick_rev (xs : Array Value) : ((List.range xs.size).filterMap fun (m : Nat) => xs[(((xs.size : Nat) : Int) - 1 + (m : Int) * (-1)).toNat]?).toArray = xs.toList.reverse.toArray := by
  congr 1
  have e : ∀ l : List Value, (List.range l.length).filterMap (fun (m : Nat) => l[(((l.length : Nat) : Int) - 1 + (m : Int) * (-1)).toNat]?) = l.reverse := by
    intro l
    apply List.ext_getElem?
    have hlen : ∀ k, k ≤ l.length → (List.range k).filterMap (fun (m : Nat) => l[(((l.length : Nat) : Int) - 1 + (m : Int) * (-1)).toNat]?) = (l.reverse).take k := by
      intro k
      induction k with
      | zero => intro _; rfl
      | succ k ih =>
        intro hk
        rw [List.range_succ, List.filterMap_append, ih (by omega)]
        have h1 : (((l.length : Nat) : Int) - 1 + (k : Int) * (-1)).toNat = l.length - 1 - k := by omega
        have h2 : l.length - 1 - k < l.length := by omega
        have h3 : l.reverse[k]? = some l[l.length - 1 - k] := by
          rw [List.getElem?_reverse (by omega), List.getElem?_eq_getElem h2]
        have h4 : l[(((l.length : Nat) : Int) - 1 + (k : Int) * (-1)).toNat]? = some l[l.length - 1 - k] := by rw [h1]; exact List.getElem?_eq_getElem h2
        rw [List.take_add_one, h3, List.filterMap_cons, h4]
        rfl
    intro i
    rw [hlen l.length (Nat.le_refl _), List.take_of_length_le (by simp)]
  have := e xs.toList
  rw [Array.length_toList] at this
  rw [← this]
  congr 1
  funext m
  exact (Array.getElem?_toList).symm
theorem getItem_tuple_rev {t sl : Addr} {items : Array Value} {vl vu vs : Value} {Q : Value → Shared → Prop} (ht : IsTup s.heap t items) (hs : s.heap.IsSliceOf sl vl vu vs) (pl : IsPart vl none) (pu : IsPart vu none) (ps : IsPart vs (some (-1)))
    (h : Q (.ref s.heap.objs.size) { s with heap := s.heap.push { cls := .type "tuple", data := .seq items.toList.reverse.toArray } })
    (hsz : items.size ≤ sizeLine) : wpAny (model prog w) A (getItem (.ref t) (.ref sl)) Q E s := by
  have htake : sizeOk (.seq items.toList.reverse.toArray) := by
    show items.toList.reverse.toArray.size ≤ sizeLine
    rw [List.size_toArray, List.length_reverse, Array.length_toList]
    omega
  obtain ⟨os, hos, hcs, hds⟩ := id hs
  have hTs : s.TypeIs (.ref sl) "slice" := ⟨os, hos, hcs⟩
  unfold getItem
  try with_reducible refine wpAny_holding ?_
  first | refine wpAny_bind (wpAny_pure ?_) | skip
  refine wpAny_bind (wpAny_sequenceKey ht.typeIs (by decide) ?_)
  refine wpAny_bind (wpAny_callSpecial?_slot (name := Str.ofString "__getitem__") ht.typeIs PyProof.Rows.slot_tuple_getitem
    (wpAny_call_entry PyProof.Rows.slot_tuple_getitem ht.typeIs entry_tuple_getitem ?_ (args_tuple_getitem _ _)))
  show wpAny _ _ (Builtin.Tuple.tupleItemsOf (.ref t) >>= _) _ _ s
  refine wpAny_bind (tupleItemsOf_ ht ?_)
  refine wpAny_bind (wpAny_typeOf hTs ?_)
  rw [if_pos (by decide)]
  refine wpAny_bind (applied_rev hs pl pu ps ?_)
  have hno : ¬ (((((items.size : Nat) : Int) - 1) == 0 && (-1 : Int) == 1 && items.size == items.size) = true) := by
    intro q
    rw [Bool.and_eq_true, Bool.and_eq_true] at q
    exact absurd (eq_of_beq q.1.2) (by decide)
  show wpAny _ _ (if ((((items.size : Nat) : Int) - 1) == 0 && (-1 : Int) == 1 && items.size == items.size) = true then _ else _) _ _ s
  rw [if_neg hno, pick_rev]
  first
    | exact wpAny_bind (m := Builtin.Tuple.tupleExact _) (wpAny_newObj_type (wpAny_pure ⟨_, rfl, wpAny_pure h⟩) htake)
    | exact wpAny_bind (m := Builtin.Tuple.tupleExact _) (wpAny_newObj_type (wpAny_bind (wpAny_pure (wpAny_pure ⟨_, rfl, wpAny_pure h⟩))) htake)
    | exact wpAny_bind (wpAny_bind (m := Builtin.Tuple.tupleExact _) (wpAny_newObj_type (wpAny_pure (wpAny_pure ⟨_, rfl, wpAny_pure h⟩)) htake))
    | exact wpAny_bind (wpAny_bind (m := Builtin.Tuple.tupleExact _) (wpAny_newObj_type (wpAny_pure ⟨_, rfl, wpAny_pure h⟩) htake))
end
def tRevT (K : PySem.W.Frag) (te : TE) : TE := fun σ H Q => te σ H fun x H1 => (∃ a xs, x = .ref a ∧ SqL K H1 a xs ∧ ∀ p, H1 p = none → Q (.ref p) (upd H1 p (.lst xs.reverse))) ∨ (∃ a xs, x = .ref a ∧ SqT K H1 a xs ∧ ∀ p, H1 p = none → Q (.ref p) (upd H1 p (.tup xs.reverse)))
theorem pe_revT {X : Cx} {e : Expr} {te : TE} {k : Nat} {p1 p2 p3 pos : Pos} (he : PE X e te) : PE X (.Subscript e (.Slice none none (some (.UnaryOp .USub (.Constant (.int 1) k p1) p2)) p3) pos) (tRevT X.K te) := by
  refine ⟨fun pins s σ H Q I h => ?_⟩
  refine Subscript_ (thn (he.run pins s σ H _ I h) fun v s1 ⟨x, H1, I1, r1, q1⟩ => ?_)
  have hst : PO X (some (.UnaryOp .USub (.Constant (.int 1) k p1) p2)) (tPart (tUn (rU fun i => .int (-i)) (tC (.int 1)))) := po_some (pe_un un_neg pe_int)
  have key : ∀ (R : Option Int → Value → Value → Value → Shared → Prop), True := fun _ => trivial
  rcases q1 with ⟨a, xs, ex, hx, q⟩ | ⟨a, xs, ex, hx, q⟩
  · subst ex
    cases r1
    refine wpAny_Slice (thn (po_none.run pins s1 σ H1 (fun o H2 => o = none ∧ H2 = H1) I1 ⟨rfl, rfl⟩) fun vl s2 ⟨l, H2, I2, pl, el, e2⟩ => ?_)
    subst el e2
    refine thn (po_none.run pins s2 σ H2 (fun o H3 => o = none ∧ H3 = H2) I2 ⟨rfl, rfl⟩) fun vu s3 ⟨u, H3, I3, pu, eu, e3⟩ => ?_
    subst eu e3
    refine thn (hst.run pins s3 σ H3 (fun o H4 => o = some (-1) ∧ H4 = H3) I3 ⟨1, rfl, -1, rfl, rfl, rfl⟩) fun vs s4 ⟨o, H4, I4, ps, eo, e4⟩ => ?_
    subst eo e4
    have I5 : Inv X pins σ H4 { s4 with heap := s4.heap.push { cls := .type "slice", data := .fields #[vl, vu, vs] } } := I4.kept (t' := s4.toks) fun b ob q => Heap.get?_push_of_some _ q
    obtain ⟨its, r, ht, hz⟩ := I5.list hx
    have hlen := r.length
    show wpAny (model X.prog X.w) X.A (subscriptTail e (.Slice none none (some (.UnaryOp .USub (.Constant (.int 1) k p1) p2)) p3) (.ref a) (.ref s4.heap.objs.size)) (EP X pins σ Q) X.xe { s4 with heap := s4.heap.push { cls := .type "slice", data := .fields #[vl, vu, vs] } }
    refine tail_any (ops := [.ref a, .ref s4.heap.objs.size]) ht.isList.typeIs (PySem.slot_list_getitem.lookup) ?_ (by with_unfolding_all rfl)
    refine wpAny_getItem_list_slice ht.isList (Heap.IsSliceOf.new _ vl vu vs) pl pu ps (by decide) ?_ (by rw [List.size_toArray]; omega)
    rw [PySem.W.krv_pick]
    refine ⟨.ref _, _, I5.laid (t' := s4.toks) (o := .lst xs.reverse) (fun b ob q => Heap.get?_push_of_some _ q) (Nat.le_refl _) ?_, rfl, q _ (I5.hok.fresh (Nat.le_refl _))⟩
    exact ⟨by rw [List.length_reverse]; exact hz, _, 0, r.reverse, Heap.get?_push_size _ rfl⟩
  · subst ex
    cases r1
    refine wpAny_Slice (thn (po_none.run pins s1 σ H1 (fun o H2 => o = none ∧ H2 = H1) I1 ⟨rfl, rfl⟩) fun vl s2 ⟨l, H2, I2, pl, el, e2⟩ => ?_)
    subst el e2
    refine thn (po_none.run pins s2 σ H2 (fun o H3 => o = none ∧ H3 = H2) I2 ⟨rfl, rfl⟩) fun vu s3 ⟨u, H3, I3, pu, eu, e3⟩ => ?_
    subst eu e3
    refine thn (hst.run pins s3 σ H3 (fun o H4 => o = some (-1) ∧ H4 = H3) I3 ⟨1, rfl, -1, rfl, rfl, rfl⟩) fun vs s4 ⟨o, H4, I4, ps, eo, e4⟩ => ?_
    subst eo e4
    have I5 : Inv X pins σ H4 { s4 with heap := s4.heap.push { cls := .type "slice", data := .fields #[vl, vu, vs] } } := I4.kept (t' := s4.toks) fun b ob q => Heap.get?_push_of_some _ q
    obtain ⟨its, r, ht, hz⟩ := I5.tuple hx
    have hlen := r.length
    show wpAny (model X.prog X.w) X.A (subscriptTail e (.Slice none none (some (.UnaryOp .USub (.Constant (.int 1) k p1) p2)) p3) (.ref a) (.ref s4.heap.objs.size)) (EP X pins σ Q) X.xe { s4 with heap := s4.heap.push { cls := .type "slice", data := .fields #[vl, vu, vs] } }
    refine tail_any (ops := [.ref a, .ref s4.heap.objs.size]) ht.typeIs (PyProof.Rows.slot_tuple_getitem.lookup) ?_ (by with_unfolding_all rfl)
    refine getItem_tuple_rev ht (Heap.IsSliceOf.new _ vl vu vs) pl pu ps ?_ (by rw [List.size_toArray]; omega)
    refine ⟨.ref _, _, I5.laid (t' := s4.toks) (o := .tup xs.reverse) (fun b ob q => Heap.get?_push_of_some _ q) (Nat.le_refl _) ?_, rfl, q _ (I5.hok.fresh (Nat.le_refl _))⟩
    exact ⟨by rw [List.length_reverse]; exact hz, _, r.reverse, IsTup.new _ _⟩
end M

set_option Elab.async false
set_option linter.all false
set_option maxRecDepth 100000
set_option maxHeartbeats 4000000
namespace M
open PySem PySem.Spec L2
open PyProof.Rows hiding St
section
variable {X : Cx} {W : WX} {cl : Nat → Value} {a b c e : Expr} {es rest : List Expr} {f g k : Env → R D} {fs : Env → R (List D)} {pos : Pos}
theorem p_chain {o1 o2 : CmpOp} (hu : X.A.units + 65 < cLine) (hm : plset c = true) (ha : PE X a (tX rhQ W cl f)) (hb : PE X b (tX rhQ W cl g)) (hc : PE X c (tX rhQ W cl k)) : PE X (.Compare a [o1, o2] [b, c] pos) (tE W cl fun env => do
    let x ← f env
    let y ← g env
    match cmpD o1 x y with
    | .ok (.bool true) => do
      let z ← k env
      cmpD o2 y z
    | .ok (.bool false) => .ok (.bool false)
    | _ => .bad) := PE.mono (pe_chain (o_cmp hu o1) (o_cmp hu o2) ha hb hc (plset_mark hm o2)) fun σ H Q h => t_chain h
theorem q_chain {o1 o2 : CmpOp} (hu : X.A.units + 65 < cLine) (hm : plset c = true) (ha : PE X a (tX rhQ W cl f)) (hb : PE X b (tX rhQ W cl g)) (hc : PE X c (tX rhQ W cl k)) : PT X (.Compare a [o1, o2] [b, c] pos) (tTt W cl fun env => do
    let w ← (do
      let x ← f env
      let y ← g env
      match cmpD o1 x y with
      | .ok (.bool true) => do
        let z ← k env
        cmpD o2 y z
      | .ok (.bool false) => .ok (.bool false)
      | _ => .bad)
    truth w) := q_bool (pt_chain (o_cmp hu o1) (o_cmp hu o2) ha hb hc (plset_mark hm o2)) (fun σ H Q h => t_chain h) fun env d h => by
  cases hf : f env with
  | exc c => rw [hf] at h; cases h
  | bad => rw [hf] at h; cases h
  | ok x =>
    cases hg : g env with
    | exc c => rw [hf, hg] at h; cases h
    | bad => rw [hf, hg] at h; cases h
    | ok y =>
      rw [hf, hg] at h
      simp only [ok_bind] at h
      split at h
      · cases hk : k env with
        | exc c => rw [hk] at h; cases h
        | bad => rw [hk] at h; cases h
        | ok z => rw [hk] at h; exact cmpD_bool o2 y z d h
      · cases h; exact ⟨_, rfl⟩
      · cases h
theorem p_not (ha : PE X a (tX rhQ W cl f)) : PE X (.UnaryOp .Not a pos) (tE W cl fun env => do
    let x ← f env
    let c ← truth x
    pure (.bool (!c))) := PE.mono (pe_notT ha) fun σ H Q h => tX.mono (tX.bind (ρ := rhQ) h) fun v H1 ⟨H0, G, env, x, rel, q1, o⟩ => by
  cases hx : truth x with
  | ok k => rw [hx] at o; exact ⟨k, o_truth rel.gh q1 hx, o.ok (Step.refl rel.gh) (.bl _)⟩
  | exc c => exact absurd hx (truth_noexc x c)
  | bad => rw [hx] at o; exact False.elim o
theorem q_not (ha : PT X a (tTt W cl fun env => do let x ← f env; truth x)) : PT X (.UnaryOp .Not a pos) (tTt W cl fun env => do
    let z ← (do
      let x ← f env
      let c ← truth x
      pure (.bool (!c)))
    truth z) := PT.mono (pt_not ha) fun σ H Q ⟨H0, G, env, rel, o⟩ => ⟨H0, G, env, rel, by
  dsimp only at o ⊢
  cases hf : f env with
  | exc c => rw [hf] at o; exact o
  | bad => rw [hf] at o; exact o
  | ok x =>
    rw [hf] at o
    simp only [ok_bind] at o ⊢
    cases hx : truth x with
    | ok k => rw [hx] at o; exact fun b G' H' st e => o (!b) G' H' st (by rw [e])
    | exc c => exact absurd hx (truth_noexc x c)
    | bad => rw [hx] at o; exact o⟩
theorem p_and (ha : PE X a (tE W cl f)) (hb : PE X (.BoolOp .And (b :: rest) pos) (tE W cl g)) : PE X (.BoolOp .And (a :: b :: rest) pos) (tE W cl fun env => do
    let x ← f env
    let c ← truth x
    if c then g env else .ok x) := PE.mono (pe_andT ha hb) fun σ H Q h => tX.mono (tX.bind (ρ := rhE) h) fun v H1 ⟨H0, G, env, x, rel, q1, o⟩ => by
  cases hx : truth x with
  | ok k =>
    rw [hx] at o
    refine ⟨k, o_truth rel.gh (.of q1) hx, ?_⟩
    cases k with
    | true => rw [if_pos rfl]; exact ⟨H0, G, env, rel, o⟩
    | false => rw [if_neg (by decide)]; exact o.ok (Step.refl rel.gh) q1
  | exc c => exact absurd hx (truth_noexc x c)
  | bad => rw [hx] at o; exact False.elim o
theorem p_or (ha : PE X a (tE W cl f)) (hb : PE X (.BoolOp .Or (b :: rest) pos) (tE W cl g)) : PE X (.BoolOp .Or (a :: b :: rest) pos) (tE W cl fun env => do
    let x ← f env
    let c ← truth x
    if c then .ok x else g env) := PE.mono (pe_orT ha hb) fun σ H Q h => tX.mono (tX.bind (ρ := rhE) h) fun v H1 ⟨H0, G, env, x, rel, q1, o⟩ => by
  cases hx : truth x with
  | ok k =>
    rw [hx] at o
    refine ⟨k, o_truth rel.gh (.of q1) hx, ?_⟩
    cases k with
    | true => rw [if_pos rfl]; exact o.ok (Step.refl rel.gh) q1
    | false => rw [if_neg (by decide)]; exact ⟨H0, G, env, rel, o⟩
  | exc c => exact absurd hx (truth_noexc x c)
  | bad => rw [hx] at o; exact False.elim o
theorem w_and (ha : PT X a (tTt W cl fun env => do let x ← f env; truth x)) (hb : PW X (.BoolOp .And (b :: rest) pos) (tTt W cl fun env => do let x ← g env; truth x)) : PW X (.BoolOp .And (a :: b :: rest) pos) (tTt W cl fun env => do
    let z ← (do
      let x ← f env
      let c ← truth x
      if c then g env else .ok x)
    truth z) := PW.mono (pw_and ha hb) fun σ H Q ⟨H0, G, env, rel, o⟩ => ⟨H0, G, env, rel, by
  dsimp only at o ⊢
  cases hf : f env with
  | exc c => rw [hf] at o; exact o
  | bad => rw [hf] at o; exact o
  | ok x =>
    rw [hf] at o
    simp only [ok_bind] at o ⊢
    cases hx : truth x with
    | ok k =>
      rw [hx] at o
      intro b G' H' st e
      cases e
      cases k with
      | true => rw [if_pos rfl]; exact ⟨H0, G', env, rel.step st, Out.step o st⟩
      | false =>
        rw [if_neg (by decide)]
        simp only [ok_bind, if_neg (show ¬ (false = true) by decide), hx] at o
        exact o.ok st rfl
    | exc c => exact absurd hx (truth_noexc x c)
    | bad => rw [hx] at o; exact o⟩
theorem w_or (ha : PT X a (tTt W cl fun env => do let x ← f env; truth x)) (hb : PW X (.BoolOp .Or (b :: rest) pos) (tTt W cl fun env => do let x ← g env; truth x)) : PW X (.BoolOp .Or (a :: b :: rest) pos) (tTt W cl fun env => do
    let z ← (do
      let x ← f env
      let c ← truth x
      if c then .ok x else g env)
    truth z) := PW.mono (pw_or ha hb) fun σ H Q ⟨H0, G, env, rel, o⟩ => ⟨H0, G, env, rel, by
  dsimp only at o ⊢
  cases hf : f env with
  | exc c => rw [hf] at o; exact o
  | bad => rw [hf] at o; exact o
  | ok x =>
    rw [hf] at o
    simp only [ok_bind] at o ⊢
    cases hx : truth x with
    | ok k =>
      rw [hx] at o
      intro b G' H' st e
      cases e
      cases k with
      | true =>
        rw [if_pos rfl]
        simp only [ok_bind, if_pos, hx] at o
        exact o.ok st rfl
      | false =>
        rw [if_neg (by decide)]
        exact ⟨H0, G', env, rel.step st, Out.step o st⟩
    | exc c => exact absurd hx (truth_noexc x c)
    | bad => rw [hx] at o; exact o⟩
theorem p_ife (hc : PT X c (tTt W cl fun env => do let x ← k env; truth x)) (ha : PE X a (tE W cl f)) (hb : PE X b (tE W cl g)) : PE X (.IfExp c a b pos) (tE W cl fun env => do
    let x ← k env
    let c ← truth x
    if c then f env else g env) := PE.mono (pe_ifExp hc ha hb) fun σ H Q ⟨H0, G, env, rel, o⟩ => ⟨H0, G, env, rel, by
  dsimp only at o ⊢
  cases hf : k env with
  | exc c => rw [hf] at o; exact o
  | bad => rw [hf] at o; exact o
  | ok x =>
    rw [hf] at o
    simp only [ok_bind] at o ⊢
    cases hx : truth x with
    | ok kk =>
      rw [hx] at o
      intro b G' H' st e
      cases e
      cases kk with
      | true => rw [if_pos rfl]; exact ⟨H0, G', env, rel.step st, Out.step o st⟩
      | false => rw [if_neg (by decide)]; exact ⟨H0, G', env, rel.step st, Out.step o st⟩
    | exc c => exact absurd hx (truth_noexc x c)
    | bad => rw [hx] at o; exact o⟩
/-! argument lists -/
abbrev rhQL : Hp → Hp → List V → List D → Prop := fun G H vs ds => Paired (Rq G H) vs ds
theorem a_nil : PA X [] (tAs W cl fun _ => .ok []) := PA.mono pa_nil fun σ H Q ⟨H0, G, env, rel, o⟩ => o.ok (Step.refl rel.gh) .nil
theorem a_cons (hn : nst e = true) (ha : PE X e (tE W cl f)) (hr : PA X es (tAs W cl fs)) : PA X (e :: es) (tAs W cl fun env => do let x ← f env; let xs ← fs env; pure (x :: xs)) :=
  PA.mono (pa_cons ha hr (starEach_cons hn es X.env)) fun σ H Q h => tX.mono (tX.bind (ρ := rhE) h) fun v H1 ⟨H0, G, env, x, rel, q1, o⟩ =>
    ⟨H0, G, env, rel, (Out.bind (ρ := rhL) o).mono fun vs H2 ⟨xs, G2, st, q2, o2⟩ => o2.ok (Step.refl st.gh) (.cons (Rp.ext st.gg q1) q2)⟩
theorem aq_nil : PA X [] (tX rhQL W cl fun _ => .ok []) := PA.mono pa_nil fun σ H Q ⟨H0, G, env, rel, o⟩ => o.ok (Step.refl rel.gh) .nil
theorem aq_cons (hn : nst e = true) (ha : PE X e (tX rhQ W cl f)) (hr : PA X es (tX rhQL W cl fs)) : PA X (e :: es) (tX rhQL W cl fun env => do let x ← f env; let xs ← fs env; pure (x :: xs)) :=
  PA.mono (pa_cons ha hr (starEach_cons hn es X.env)) fun σ H Q h => tX.mono (tX.bind (ρ := rhQ) h) fun v H1 ⟨H0, G, env, x, rel, q1, o⟩ =>
    ⟨H0, G, env, rel, (Out.bind (ρ := rhQL) o).mono fun vs H2 ⟨xs, G2, st, q2, o2⟩ => o2.ok (Step.refl st.gh) (.cons (Rq.step q1 st) q2)⟩
theorem p_tup {x1 : Nat} (h : PA X es (tAs W cl fs)) : PE X (.Tuple es x1 pos) (tE W cl fun env => do
    let xs ← fs env
    if xs.length ≤ lim then .ok (.tuple xs) else .bad) := PE.mono (pe_tup h) fun σ H Q h => tX.mono (tX.bind (ρ := rhL) h) fun vs H1 ⟨H0, G, env, xs, rel, q1, o⟩ => by
  split at o
  · rename_i hl
    exact ⟨by rw [RpL.len q1]; exact Nat.le_trans hl lim_le, fun p hn => o.ok (Step.alloc rel.gh hn) (.tup upd_same (RpL.ext (same_upd (rel.gh.free hn)) q1))⟩
  · exact False.elim o
theorem p_lst (h : PA X es (tAs W cl fs)) : PE X (.List es pos) (tE W cl fun env => do
    let xs ← fs env
    if xs.length ≤ lim then .ok (.list xs) else .bad) := PE.mono (pe_lst h) fun σ H Q h => tX.mono (tX.bind (ρ := rhL) h) fun vs H1 ⟨H0, G, env, xs, rel, q1, o⟩ => by
  split at o
  · rename_i hl
    exact ⟨by rw [RpL.len q1]; exact Nat.le_trans hl lim_le, fun p hn => o.ok (Step.alloc rel.gh hn) (.lst upd_same (RpL.ext (same_upd (rel.gh.free hn)) q1))⟩
  · exact False.elim o
/-! slices -/
abbrev rhO : Hp → Hp → Option Int → Option Int → Prop := fun _ _ a b => a = b
theorem PO.mono {o : Option Expr} {t t' : TO} (h : PO X o t) (k : ∀ σ H Q, t' σ H Q → t σ H Q) : PO X o t' := ⟨fun pins s σ H Q I q => h.run pins s σ H Q I (k σ H Q q)⟩
theorem s_none : PO X none (tX rhO W cl fun _ => .ok none) := PO.mono po_none fun σ H Q ⟨H0, G, env, rel, o⟩ => o.ok (Step.refl rel.gh) rfl
theorem s_some (h : PE X e (tX rhQ W cl f)) : PO X (some e) (tX rhO W cl fun env => do
    let x ← f env
    match x with
    | .int i => .ok (some i)
    | _ => .bad) := PO.mono (po_some h) fun σ H Q h => tX.mono (tX.bind (ρ := rhQ) h) fun v H1 ⟨H0, G, env, x, rel, q1, o⟩ => by
  cases x <;> first | exact False.elim o | skip
  cases q1.int
  exact ⟨_, rfl, o.ok (Step.refl rel.gh) rfl⟩
theorem p_sl {lo hi : Option Expr} {fl fh : Env → R (Option Int)} {p2 : Pos} (ha : PE X e (tX rhQ W cl f)) (hl : PO X lo (tX rhO W cl fl)) (hh : PO X hi (tX rhO W cl fh)) : PE X (.Subscript e (.Slice lo hi none p2) pos) (tE W cl fun env => do
    let x ← f env
    let l ← fl env
    let h ← fh env
    slD x l h) := PE.mono (pe_slice o_sl ha hl hh) fun σ H Q h => tX.mono (tX.bind (ρ := rhQ) h) fun v H1 ⟨H0, G, env, x, rel, q1, o⟩ =>
  ⟨H0, G, env, rel, (Out.bind (ρ := rhO) o).mono fun l H2 ⟨l', G2, st, q2, o2⟩ => ⟨H0, G2, env, rel.step st, (Out.bind (ρ := rhO) o2).mono fun u H3 ⟨u', G3, st3, q3, o3⟩ => by
    cases q2
    cases q3
    exact ⟨G3, x, W, cl, σ, st3.gh, Rq.step (Rq.step q1 st) st3, o3⟩⟩⟩
theorem p_revL {kk : Nat} {p1 p2 p3 : Pos} (ha : PE X e (tX rhQ W cl f)) : PE X (.Subscript e (.Slice none none (some (.UnaryOp .USub (.Constant (.int 1) kk p1) p2)) p3) pos) (tE W cl fun env => do
    let x ← f env
    revLD x) := PE.mono (pe_revT ha) fun σ H Q h => tX.mono (tX.bind (ρ := rhQ) h) fun v H1 ⟨H0, G, env, x, rel, q1, o⟩ => by
  cases x <;> first | exact False.elim o | skip
  · obtain ⟨p, vs, rfl, h1, q1⟩ := q1.list rel.gh
    exact .inl ⟨p, vs, rfl, SqL.of h1, fun l hn => o.ok (Step.alloc rel.gh hn) (.lst upd_same (RpL.ext (same_upd (rel.gh.free hn)) q1.rev))⟩
  · obtain ⟨p, vs, rfl, g1, h1, q1⟩ := q1.tuple rel.gh
    exact .inr ⟨p, vs, rfl, SqT.of h1, fun l hn => o.ok (Step.alloc rel.gh hn) (.tup upd_same (RpL.ext (same_upd (rel.gh.free hn)) q1.rev))⟩
/-! calls of the program's own defs -/
/-- what a def promises: by its meaning -/
def spF (cl : Nat → Value) (φ : List D → R D) : Sp := fun vs H Q E => ∃ G ds, Same G H ∧ RpL G vs ds ∧ Out rhE (fun c d _ H => E c d H) cl [] G H (φ ds) Q
theorem p_call {x : Str} {p : Pos} {kk : Nat} {fa : Addr} {fd : FuncData} {ps : List Str} {φ : List D → R D} (F : FnOk X.prog X.w X.K X.mg X.base (L2.CX X.prog X.w) kk fa fd ps (spF cl φ)) (hr : Room kk X.A) (hg : Gl X x) (hm : X.mg x = some (.ref fa)) (hk : PySem.W.keepIn X.K (.ref fa) = true)
    (hb : Binds X.K fd ps []) (tk : Takes X W) (hn : (e :: es).all nst = true) (hdb : (x == ("__debug__" : Str)) = false) (ha : PA X (e :: es) (tAs W cl fs)) : PE X (.Call (.Name x p) (e :: es) [] pos) (tE W cl fun env => do let xs ← fs env; φ xs) := by
  have h1 : nst e = true ∧ es.all nst = true := by simpa using hn
  refine PE.mono (pe_callS F hr hg hm hk hb (fun σ => passAt tk σ) ha hdb (starEach_cons h1.1 es X.env) (star_any h1.2 X.env pos)) fun σ H Q h => tX.mono (tX.bind (ρ := rhL) h) fun vs H1 ⟨H0, G, env, xs, rel, q1, o⟩ => ?_
  refine ⟨G, xs, rel.gh, q1, ?_⟩
  cases hx : φ xs with
  | ok d => rw [hx] at o; exact o
  | exc c => rw [hx] at o; exact o
  | bad => rw [hx] at o; exact o
theorem p_call0 {x : Str} {p : Pos} {kk : Nat} {fa : Addr} {fd : FuncData} {ps : List Str} {φ : List D → R D} (F : FnOk X.prog X.w X.K X.mg X.base (L2.CX X.prog X.w) kk fa fd ps (spF cl φ)) (hr : Room kk X.A) (hg : Gl X x) (hm : X.mg x = some (.ref fa)) (hk : PySem.W.keepIn X.K (.ref fa) = true)
    (hb : Binds X.K fd ps []) (tk : Takes X W) (hdb : (x == ("__debug__" : Str)) = false) : PE X (.Call (.Name x p) [] [] pos) (tE W cl fun env => do let xs ← (.ok [] : R (List D)); φ xs) := by
  refine ⟨fun pins s σ H Q I h => ?_⟩
  refine wpAny_Call_Name_kw (ld_glob I hg hm ?_ hdb)
  refine PySem.W.callWith_K0 I.kIn hk (run_fnS (us := []) (vs := []) (E := WE W) F hr hb (passAt tk σ) I .nil ?_)
  obtain ⟨H0, G, env, rel, o⟩ := h
  refine ⟨G, [], rel.gh, .nil, ?_⟩
  simp only [ok_bind] at o
  cases hx : φ [] with
  | ok d => rw [hx] at o; exact o
  | exc c => rw [hx] at o; exact o
  | bad => rw [hx] at o; exact o
end
end M

set_option Elab.async false
set_option linter.all false
set_option maxRecDepth 100000
set_option maxHeartbeats 4000000
namespace M
open PySem PySem.Spec L2
open PyProof.Rows hiding St
/-! ### sorted of tuples: by the ints that they begin with -/
/-- the values of ints at the head of a row -/
inductive Head : List Value → List Int → List Value → Prop
  | nil (r : List Value) : Head r [] r
  | cons {i : Int} {t : Tok} {vs : List Value} {ns : List Int} {r : List Value} : Head vs ns r → Head (.int i t :: vs) (i :: ns) r
section
variable {prog : Program} {w : World} {A : Around} {s : Shared} {Q : Bool → Shared → Prop}
theorem same_lex (f : Bool) : ∀ (r : List Value) (i : Nat), Q f s → W.KatLex prog w A true f Q (r.zip r) i s
  | [], i, h => W.kat_nil h
  | v :: r, i, h => W.kat_cons (SeqAt.EqAt.same v prog w _ _ (W.kat_yes (same_lex f r (i + 1) h)))
theorem head_lex {f : Bool} : ∀ {ps qs : List Value} {as bs : List Int} {r1 r2 : List Value} (i : Nat), Head ps as r1 → Head qs bs r2 → as.length = bs.length → (as = bs → r1 = r2) → f = false → Q (HT.lexLt as bs) s →
    W.KatLex prog w A true f Q (ps.zip qs) i s
  | _, _, _, _, r1, r2, i, .nil _, .nil _, _, hr, hf, h => by
    have e := hr rfl
    subst e
    subst hf
    exact same_lex false r1 i h
  | _, _, _, _, _, _, i, .nil _, .cons _, hl, _, _, _ => by simp at hl
  | _, _, _, _, _, _, i, .cons _, .nil _, hl, _, _, _ => by simp at hl
  | _, _, _, _, r1, r2, i, .cons (i := x) (t := t) (ns := as) p, .cons (i := y) (t := u) (ns := bs) q, hl, hr, hf, h => by
    refine W.kat_cons (SeqAt.EqAt.int_int x t y u prog w _ _ ?_)
    refine W.kat_go (fun e => ?_) (fun e => ?_)
    · have e : x = y := by simpa using e
      subst e
      rw [HT.lexLt_cons, if_pos rfl] at h
      exact W.kat_yes (head_lex (i + 1) p q (by simpa using hl) (fun z => hr (by rw [z])) hf h)
    · have e : ¬ x = y := by simpa using e
      rw [HT.lexLt_cons, if_neg e] at h
      refine W.kat_no ?_
      cases hb : (true && i == 0) with
      | true => exact oneLt_int h
      | false => exact W.kat_one _ _ (PyProof.Rows.lt_int h)
end

/-- a tuple of the heap that begins with ints -/
def TupH (h : Heap) (v : Value) (ns : List Int) (m : Nat) : Prop := ∃ a o xs n r, v = .ref a ∧ h.get? a = some o ∧ o.cls = .type "tuple" ∧ o.data = .seq xs n ∧ Head xs.toList ns r ∧ r.length = m
theorem TupH.keeps {h h' : Heap} {v : Value} {ns : List Int} {m : Nat} (x : TupH h v ns m) (k : ∀ b o, h.get? b = some o → o.cls = .type "tuple" → h'.get? b = some o) : TupH h' v ns m := by
  obtain ⟨a, o, xs, n, r, e, ho, hc, q⟩ := x
  exact ⟨a, o, xs, n, r, e, k _ _ ho hc, hc, q⟩
theorem Head.len : ∀ {vs : List Value} {ns : List Int} {r : List Value}, Head vs ns r → vs.length = ns.length + r.length
  | _, _, _, .nil r => by simp
  | _, _, _, .cons h => by simp [Head.len h]; omega
theorem head_nil {vs r : List Value} (h : Head vs [] r) : vs = r := by cases h; rfl
theorem head_cons {vs r : List Value} {n : Int} {ns : List Int} (h : Head vs (n :: ns) r) : ∃ t ws, vs = .int n t :: ws ∧ Head ws ns r := by
  cases h with
  | cons q => exact ⟨_, _, rfl, q⟩
theorem head_uniq : ∀ {ns ms : List Int} {vs r q : List Value}, Head vs ns r → Head vs ms q → ns.length = ms.length → ns = ms ∧ r = q
  | [], [], _, _, _, a, b, _ => ⟨rfl, (head_nil a).symm.trans (head_nil b)⟩
  | [], _ :: _, _, _, _, _, _, h => by simp at h
  | _ :: _, [], _, _, _, _, _, h => by simp at h
  | n :: ns, m :: ms, vs, _, _, a, b, h => by
    obtain ⟨t, ws, e, a⟩ := head_cons a
    obtain ⟨u, xs, e2, b⟩ := head_cons b
    rw [e] at e2
    cases e2
    obtain ⟨e1, e2⟩ := head_uniq a b (by simpa using h)
    exact ⟨by rw [e1], e2⟩
theorem heads_first {h : Heap} {k : Value → List Int} {m n : Nat} (hn : 1 ≤ n) : ∀ {vs : List Value}, (∀ v ∈ vs, TupH h v (k v) m ∧ (k v).length = n) → ∃ fs : List Value, PySem.W.KatTups h vs fs ∧ fs.length = vs.length ∧ ∀ f ∈ fs, ∃ x t, f = Value.int x t
  | [], _ => ⟨[], PySem.W.KatTups.nil, rfl, fun _ hm => by simp at hm⟩
  | v :: vs, hp => by
    obtain ⟨fs, h1, h2, h3⟩ := heads_first hn (vs := vs) fun v' hm => hp v' (List.mem_cons_of_mem _ hm)
    obtain ⟨⟨a, o, xs, j, r, e, ho, hc, hd, hh, _⟩, hl⟩ := hp v List.mem_cons_self
    generalize k v = ns at hh hl
    cases ns with
    | nil => simp at hl; omega
    | cons i ns' =>
      obtain ⟨t, ws, hx, q⟩ := head_cons hh
      subst e
      refine ⟨.int i t :: fs, PySem.W.KatTups.cons ho hc hd ?_ h1, by simp [h2], fun f hm => ?_⟩
      · rw [← Array.getElem?_toList, hx]; rfl
      · rcases List.mem_cons.mp hm with rfl | hm
        · exact ⟨i, t, rfl⟩
        · exact h3 f hm
section
variable {prog : Program} {w : World} {A : Around} {s : Shared}
theorem head_cmp {vs : List Value} {k : Value → List Int} {m n : Nat} (hp : ∀ v ∈ vs, TupH s.heap v (k v) m ∧ (k v).length = n) (hu : m = 0 ∨ ∀ v ∈ vs, ∀ u ∈ vs, k v = k u → v = u) : SrtO.Cmp prog w A s (tuples' true) (fun p => p.1 ∈ vs) (SrtO.lt2 fun v u => HT.lexLt (k v) (k u)) := by
  intro p q hm hm'
  obtain ⟨⟨a, o, xs, j, r, e, ho, hc, hd, hh, hr⟩, hl⟩ := hp _ hm
  obtain ⟨⟨a', o', xs', j', r', e', ho', hc', hd', hh', hr'⟩, hl'⟩ := hp _ hm'
  show wpAny (model prog w) A (keyLt' (tuples' true) p.1 q.1) (fun b s' => s' = s ∧ b = HT.lexLt (k p.1) (k q.1)) (fun _ _ => False) s
  have key : k p.1 = k q.1 → r = r' := fun z => by
    rcases hu with rfl | hu
    · rw [List.length_eq_zero_iff.mp hr, List.length_eq_zero_iff.mp hr']
    · have ev := hu _ hm _ hm' z
      rw [e, e'] at ev
      cases ev
      rw [ho] at ho'
      cases ho'
      rw [hd] at hd'
      cases hd'
      exact (head_uniq hh hh' (by rw [hl, hl'])).2
  generalize k p.1 = as at hh hl key ⊢
  generalize k q.1 = bs at hh' hl' key ⊢
  rw [e, e']
  have l1 := hh.len
  have l2 := hh'.len
  rw [Array.length_toList] at l1 l2
  exact PySem.W.kat_lt ho hd ho' hd' (head_lex 0 hh hh' (by rw [hl, hl']) key (decide_eq_false (by omega)) ⟨rfl, rfl⟩)
theorem head_sortable {a : Addr} {vs : List Value} {k : Value → List Int} {m n : Nat} (hn : 1 ≤ n) (h0 : 0 < vs.length) (hp : ∀ v ∈ vs, TupH s.heap v (k v) m ∧ (k v).length = n) (hu : m = 0 ∨ ∀ v ∈ vs, ∀ u ∈ vs, k v = k u → v = u) (ha : ∀ o, s.heap.get? a = some o → o.cls ≠ .type "tuple") :
    SrtO.SortableO prog w A s a vs fun v u => HT.lexLt (k v) (k u) := by
  intro h' keep
  have hp' : ∀ v ∈ vs, TupH h' v (k v) m ∧ (k v).length = n := fun v hm => ⟨(hp v hm).1.keeps fun b o e c => keep b o (fun z => by subst z; exact ha o e c) e, (hp v hm).2⟩
  obtain ⟨fs, h1, h2, h3⟩ := heads_first hn hp'
  refine ⟨tuples' true, fun Q E hq => ?_, head_cmp hp' hu⟩
  refine PySem.W.kat_kind (T := .type "int") h1 (by omega) (fun f hm => ?_) (by rfl) ?_
  · obtain ⟨x, t, rfl⟩ := h3 f hm
    exact PySem.W.Looks.now
  · have e : (Value.type "int" != Value.type "tuple") = true := by first | decide +kernel | rfl | decide
    rw [e]
    exact hq
end
theorem head_of : ∀ {ns : List Int} {r : List V} {us : List Value}, Vals (ns.map V.int ++ r) us → ∃ q, Head us ns q ∧ q.length = r.length
  | [], r, us, h => ⟨us, .nil us, h.length.symm⟩
  | n :: ns, r, us, h => by
    cases h with
    | cons a b =>
      obtain ⟨q, h1, h2⟩ := head_of b
      obtain ⟨t, rfl⟩ := a
      exact ⟨q, .cons h1, h2⟩
theorem vals_back : ∀ {us : List Value}, (∀ u ∈ us, ∃ a, u = Value.ref a) → Vals (us.map backV) us
  | [], _ => .nil
  | u :: us, h => by
    obtain ⟨a, rfl⟩ := h u List.mem_cons_self
    exact .cons rfl (vals_back fun v hv => h v (List.mem_cons_of_mem _ hv))
def rSortK (K : PySem.W.Frag) : List V → Hp → VK → Prop := fun vs H Q => ∃ (a : Addr) (xs : List V) (k : V → List Int) (m n : Nat), vs = [V.ref a] ∧ SqL K H a xs ∧
  (∀ x ∈ xs, (∃ t r, x = .ref t ∧ SqT K H t ((k x).map V.int ++ r) ∧ r.length = m) ∧ (k x).length = n) ∧ 1 ≤ n ∧ (m = 0 ∨ ∀ x ∈ xs, ∀ y ∈ xs, k x = k y → x = y) ∧
  ∀ ys p, ys.Perm xs → ys.Pairwise (fun x y => HT.lexLt (k y) (k x) = false) → H p = none → Q (.ref p) (upd H p (.lst ys))
theorem cr_sortK {X : Cx} : CallR X (.builtin "sorted") (rSortK X.K) := by
  intro pins s σ H vs us Q I r h
  obtain ⟨a, xs, k, m, n, rfl, hs, hx, hn, hu, q⟩ := h
  obtain ⟨its, rv, hl, hz⟩ := I.list hs
  rw [Vals.ref1 r]
  obtain ⟨e1, e2⟩ := refs_back rv fun x hm => by
    obtain ⟨⟨t, r, e, _⟩, _⟩ := hx x hm
    exact ⟨t, e⟩
  have mem : ∀ v ∈ its, backV v ∈ xs := fun v hv => by rw [e1]; exact List.mem_map.mpr ⟨_, hv, rfl⟩
  have hp : ∀ v ∈ its, TupH s.heap v (k (backV v)) m ∧ (k (backV v)).length = n := fun v hv => by
    obtain ⟨⟨t, r, e, ht, hr⟩, hl⟩ := hx _ (mem v hv)
    obtain ⟨a', ea⟩ := e2 v hv
    have e : V.ref a' = V.ref t := by rw [ea] at e; exact e
    cases e
    obtain ⟨us2, r2, ⟨o, ho, hc, j, hd⟩, _⟩ := I.tuple ht
    obtain ⟨z, h1, h2⟩ := head_of r2
    exact ⟨⟨t, o, _, j, z, ea, ho, hc, hd, by simpa using h1, by rw [h2, hr]⟩, hl⟩
  have hu' : m = 0 ∨ ∀ v ∈ its, ∀ u ∈ its, k (backV v) = k (backV u) → v = u := hu.imp id fun hu v hv u hu2 z => by
    have := hu _ (mem v hv) _ (mem u hu2) z
    obtain ⟨a1, rfl⟩ := e2 v hv
    obtain ⟨a2, rfl⟩ := e2 u hu2
    have this : V.ref a1 = V.ref a2 := this
    cases this; rfl
  refine SrtO.sorted_ord (NtL.swo_lexL fun u => k (backV u)) hl.isList (by rw [← rv.length]; exact hz) (fun h2 h₁ a' ha' kk => ?_) fun out h1 h2 => ?_
  · refine head_sortable (s := { s with heap := h₁ }) hn (by omega) (fun v hv => ⟨(hp v hv).1.keeps fun b o e _ => (kk b o e).2, (hp v hv).2⟩) hu' fun o e => ?_
    have e' : some o = some (seqObj "list" its.toArray 0) := e.symm.trans ha'
    cases e'
    intro c
    exact absurd (Value.type.inj c) (by decide)
  · have h3 : ∀ u ∈ out, ∃ a, u = Value.ref a := fun u hu => e2 u (h2.perm.mem_iff.mp hu)
    obtain ⟨ep, he'⟩ := PyProof.Rows.sortedAll_at s.heap its out.toArray
    have pm : (out.map backV).Perm xs := by rw [e1]; exact h2.perm.map _
    have hlen : (out.map backV).length ≤ sizeLine := by rw [pm.length_eq]; exact hz
    refine ⟨.ref _, upd H (s.heap.objs.size + 1) (.lst (out.map backV)), I.laid (t' := s.toks) (fun _ _ => PyProof.Rows.sortedAll_old) (Nat.le_succ _) ⟨hlen, out, ep, vals_back h3, he'⟩, rfl, q _ _ pm ?_ (I.hok.fresh (Nat.le_succ _))⟩
    exact List.pairwise_map.mpr (h1.imp fun {x y} h => h)
end M

set_option Elab.async false
set_option linter.all false
set_option maxRecDepth 100000
set_option maxHeartbeats 4000000
namespace M.Ts
open PySem PySem.Spec L2
open PyProof.Rows hiding St
/-! ### large tables of tuples: a mask more than the kit's -/
def Mk (m : Nat) : Prop := MaskOk m ∨ m = 511
/-- a walk of i -> 5 i + 1 -/
def orb : Nat → Nat → List Nat
  | 0, _ => []
  | n + 1, i => i :: orb n ((i * 5 + 1) % 512)
theorem lcg_first (i : Nat) : ∀ k, lcgI 511 i (k + 1) = lcgI 511 ((i * 5 + 1) % 512) k
  | 0 => rfl
  | k + 1 => by
    have := lcg_first i k
    simp only [lcgI] at this ⊢
    rw [this]
theorem orb_get : ∀ (n i k : Nat), k < n → (orb n i)[k]? = some (lcgI 511 i k)
  | 0, _, _, h => absurd h (Nat.not_lt_zero _)
  | n + 1, i, 0, _ => rfl
  | n + 1, i, k + 1, h => by rw [orb, List.getElem?_cons_succ, lcg_first]; exact orb_get n _ k (by omega)
theorem orb_len : ∀ n i, (orb n i).length = n
  | 0, _ => rfl
  | n + 1, i => by rw [orb, List.length_cons, orb_len n]
theorem lcg_sum (i a : Nat) : ∀ k, lcgI 511 (lcgI 511 i a) k = lcgI 511 i (a + k)
  | 0 => rfl
  | k + 1 => by
    have := lcg_sum i a k
    show (_ * 5 + 1) % (511 + 1) = (lcgI 511 i (a + k) * 5 + 1) % (511 + 1)
    rw [this]
theorem orb_full : ((List.range 512).all fun j => (orb 512 0).contains j) = true := by decide +kernel
theorem orb_end : (orb 513 0)[512]? = some 0 := by decide +kernel
theorem lcg_turn : ∀ k, lcgI 511 0 (512 + k) = lcgI 511 0 k := fun k => by
  have h : lcgI 511 0 512 = 0 := Option.some.inj ((orb_get 513 0 512 (by omega)).symm.trans orb_end)
  rw [← lcg_sum, h]
theorem from0 {j : Nat} (h : j ≤ 511) : ∃ k, k ≤ 511 ∧ lcgI 511 0 k = j := by
  have := List.all_eq_true.mp orb_full j (List.mem_range.mpr (by omega))
  rw [List.contains_iff_mem] at this
  obtain ⟨k, hk, e⟩ := List.getElem_of_mem this
  have hk' : k < 512 := by rw [orb_len] at hk; exact hk
  refine ⟨k, by omega, ?_⟩
  have := orb_get 512 0 k hk'
  rw [List.getElem?_eq_getElem hk, e] at this
  exact (Option.some.inj this).symm
theorem far {i j : Nat} (hi : i ≤ 511) (hj : j ≤ 511) : ∃ k, k ≤ 511 ∧ lcgI 511 i k = j := by
  obtain ⟨a, ha, rfl⟩ := from0 hi
  obtain ⟨b, hb, rfl⟩ := from0 hj
  by_cases c : a ≤ b
  · exact ⟨b - a, by omega, by rw [lcg_sum, Nat.add_sub_cancel' c]⟩
  · refine ⟨512 + b - a, by omega, ?_⟩
    rw [lcg_sum, show a + (512 + b - a) = 512 + b by omega, lcg_turn]
theorem meets {m : Nat} (hm : Mk m) (h : Int) {j : Nat} (hj : j ≤ m) : ∃ n, n ≤ m + 12 ∧ runI m (SetTable.bits h) n = j := by
  rcases hm with hm | rfl
  · exact run_meets hm h hj
  · obtain ⟨k, hk, e⟩ := far (runI_le 511 (SetTable.bits h) 12) hj
    exact ⟨12 + k, by omega, by rw [runI_tail (bits_lt h), e]⟩
theorem off_le {m : Nat} : ∀ (n i b : Nat), i ≤ m → off m i b n ≤ 10 * n
  | 0, _, _, _ => Nat.zero_le _
  | n + 1, i, b, hi => by
    have h1 := runEnd_bd hi
    have h2 := off_le n (SetTable.leap m i b).1 (SetTable.leap m i b).2 (leap_le m i b)
    simp only [off]
    omega
abbrev bt (m : Nat) (h : Int) : Nat := SetTable.bits h % (m + 1)
theorem bt_le (m : Nat) (h : Int) : bt m h ≤ m := Nat.le_of_lt_succ (Nat.mod_lt _ (Nat.succ_pos _))
theorem way_off (m : Nat) (h : Int) (n : Nat) : way m h (off m (bt m h) (SetTable.bits h) n) = runI m (SetTable.bits h) n := by
  have := nth_off m n (bt m h) (SetTable.bits h)
  rw [itL_run] at this
  exact congrArg SetTable.Probe.j this
theorem way_in (m : Nat) (h : Int) (k : Nat) : way m h k ≤ m := by
  have r := runEnd_bd (bt_le m h)
  have := nth_in (m := m) k (runAt m (bt m h) (SetTable.bits h)) (Nat.le_trans (Nat.le_of_eq (Nat.add_sub_cancel' r.2.1)) r.1)
  exact Nat.le_trans (Nat.le_add_right _ _) this
/-- the first step of the way that leaves l -/
def Gap (m : Nat) (l : List Nat) (h : Int) (K : Nat) : Prop := way m h K ∉ l ∧ ∀ k, k < K → way m h k ∈ l
theorem gap_ex {m : Nat} (hm : Mk m) {l : List Nat} (hl : l.length ≤ m) (h : Int) : ∃ n K, n ≤ m + 12 ∧ K ≤ off m (bt m h) (SetTable.bits h) n ∧ Gap m l h K := by
  obtain ⟨j, j1, j2⟩ := st_missing l (m + 1) (by omega)
  obtain ⟨n, n1, n2⟩ := meets hm h (Nat.le_of_lt_succ j1)
  obtain ⟨K, k1, k2, k3⟩ := st_least (p := fun k => way m h k ∉ l) (off m (bt m h) (SetTable.bits h) n) (by rw [way_off, n2]; exact j2)
  exact ⟨n, K, n1, k1, k2, fun k hk => Classical.byContradiction fun z => k3 k hk z⟩
/-! ### a table -/
structure Tb (t : SetTable) (hs : List Int) : Prop where
  up : Ris t.place.toList
  clean : t.dummies = #[]
  cnt : t.place.size = hs.length
  msk : Mk t.mask
  met : ∀ (i : Nat) (h : Int) (j : Nat), hs[i]? = some h → t.place.toList[i]? = some j → ∃ k, way t.mask h k = j ∧ ∀ k', k' < k → way t.mask h k' ∈ t.place.toList
theorem Tb.gap {t : SetTable} {hs : List Int} (T : Tb t hs) (hl : hs.length ≤ t.mask) (h : Int) : ∃ K, K < 10 * SetTable.turns t.mask ∧ Gap t.mask t.place.toList h K := by
  obtain ⟨n, K, n1, k1, g⟩ := gap_ex T.msk (l := t.place.toList) (by rw [Array.length_toList, T.cnt]; exact hl) h
  have := off_le n (bt t.mask h) (SetTable.bits h) (bt_le _ h)
  exact ⟨K, by unfold SetTable.turns; omega, g⟩
theorem Tb.early {t : SetTable} {hs : List Int} (T : Tb t hs) {h : Int} {K i j : Nat} (g : Gap t.mask t.place.toList h K) (hi : hs[i]? = some h) (hj : t.place.toList[i]? = some j) : ∃ k, k < K ∧ way t.mask h k = j := by
  obtain ⟨k, e, hb⟩ := T.met i h j hi hj
  refine ⟨k, Nat.lt_of_not_le fun z => ?_, e⟩
  rcases Nat.lt_or_eq_of_le z with z | rfl
  · exact g.1 (hb K z)
  · exact g.1 (by rw [e]; exact List.mem_of_getElem? hj)
theorem Tb.ins {t : SetTable} {hs : List Int} (T : Tb t hs) {h : Int} {K : Nat} (g : Gap t.mask t.place.toList h K) {p : Nat} (hp : p = SetTable.below t.place (way t.mask h K)) :
    p ≤ hs.length ∧ Tb (t.put (way t.mask h K)).1 (hs.take p ++ h :: hs.drop p) ∧ (t.put (way t.mask h K)).1.fill = hs.length + 1 := by
  have hps : p ≤ t.place.size := by rw [hp]; exact (below_cut T.up _).1
  have hph : p ≤ hs.length := by rw [← T.cnt]; exact hps
  have hpl : p ≤ t.place.toList.length := by rw [Array.length_toList]; exact hps
  have pl : (t.put (way t.mask h K)).1.place.toList = t.place.toList.take p ++ way t.mask h K :: t.place.toList.drop p := by rw [hp]; exact put_place t _
  have sz : (t.put (way t.mask h K)).1.place.size = hs.length + 1 := by
    rw [← Array.length_toList, pl, len_ins _ hpl, Array.length_toList, T.cnt]
  have old : ∀ x, x ∈ t.place.toList → x ∈ (t.put (way t.mask h K)).1.place.toList := fun x hx => by rw [pl]; exact mem_ins.mpr (.inr hx)
  refine ⟨hph, ⟨?_, put_dm T.clean _, by rw [len_ins _ hph]; exact sz, T.msk, fun i h' j' h1 h2 => ?_⟩, ?_⟩
  · refine ris_insert T.up fun e => g.1 ?_
    exact List.mem_of_getElem? (i := SetTable.below t.place (way t.mask h K)) (by rw [Array.getElem?_toList]; exact e)
  · rw [pl, tins_get _ hpl] at h2
    rw [tins_get _ hph] at h1
    have low : ∀ {q : Nat}, hs[q]? = some h' → t.place.toList[q]? = some j' → ∃ k, way t.mask h' k = j' ∧ ∀ k', k' < k → way t.mask h' k' ∈ (t.put (way t.mask h K)).1.place.toList := fun a b =>
      (T.met _ h' j' a b).imp fun k ⟨e, z⟩ => ⟨e, fun k' hk => old _ (z k' hk)⟩
    split at h1
    · rename_i c; rw [if_pos c] at h2; exact low h1 h2
    · rename_i c
      rw [if_neg c] at h2
      split at h1
      · rename_i d
        rw [if_pos d] at h2
        cases h1; cases h2
        exact ⟨K, rfl, fun k' hk => old _ (g.2 k' hk)⟩
      · rename_i d; rw [if_neg d] at h2; exact low h1 h2
  · show (t.put (way t.mask h K)).1.place.size + (t.put (way t.mask h K)).1.dummies.size = _
    rw [sz, put_dm T.clean]; rfl
/-! ### laid anew: js are the slots in the order of the hashes -/
structure Laid (m : Nat) (hs : List Int) (ow : Array (Option Nat)) (js : List Nat) : Prop where
  sz : ow.size = m + 1
  len : js.length = hs.length
  own : ∀ (j k : Nat), j ≤ m → (oAt ow j = some k ↔ js[k]? = some j)
  inn : ∀ j ∈ js, j ≤ m
  met : ∀ (k : Nat) (h : Int) (j : Nat), hs[k]? = some h → js[k]? = some j → ∃ K, way m h K = j ∧ ∀ k', k' < K → way m h k' ∈ js
theorem Laid.occ {m : Nat} {hs : List Int} {ow : Array (Option Nat)} {js : List Nat} (L : Laid m hs ow js) {j : Nat} (hj : j ≤ m) : (oAt ow j).isNone = false ↔ j ∈ js := by
  constructor
  · intro h
    cases e : oAt ow j with
    | none => rw [e] at h; cases h
    | some k => exact List.mem_of_getElem? ((L.own j k hj).mp e)
  · intro h
    obtain ⟨k, hk, e⟩ := List.getElem_of_mem h
    rw [(L.own j k hj).mpr (by rw [List.getElem?_eq_getElem hk, e])]; rfl
theorem laid_nil (m : Nat) : Laid m [] (Array.replicate (m + 1) none) [] := by
  refine ⟨by simp, rfl, fun j k hj => ?_, fun j h => (by cases h), fun k h j e => (by simp at e)⟩
  rw [oAt_init hj]; simp
theorem Laid.next {m : Nat} (hm : Mk m) {hs : List Int} {ow : Array (Option Nat)} {js : List Nat} (L : Laid m hs ow js) (hl : hs.length ≤ m) (h : Int) :
    ∃ j, SetTable.layClean.free m ow (SetTable.turns m) (bt m h) (SetTable.bits h) = some j ∧ Laid m (hs ++ [h]) (ow.setIfInBounds j (some hs.length)) (js ++ [j]) := by
  obtain ⟨n, K, n1, k1, g1, g2⟩ := gap_ex hm (l := js) (by rw [L.len]; exact hl) h
  have fr : (oAt ow (way m h K)).isNone = true := by
    cases e : (oAt ow (way m h K)).isNone with
    | true => rfl
    | false => exact absurd ((L.occ (way_in m h K)).mp e) g1
  refine ⟨way m h K, free_spec m ow (SetTable.turns m) n _ _ K (by unfold SetTable.turns; omega) k1 (fun k hk => (L.occ (way_in m h k)).mpr (g2 k hk)) fr, ?_⟩
  have hw := way_in m h K
  obtain ⟨j, hj⟩ : ∃ j, way m h K = j := ⟨_, rfl⟩
  rw [hj] at g1 fr hw ⊢
  have js_lt : j < ow.size := by rw [L.sz]; omega
  refine ⟨by simp [L.sz], by simp [L.len], fun i k hi => ?_, fun i hi => ?_, fun k h' i h1 h2 => ?_⟩
  · by_cases e : i = j
    · subst e
      rw [oAt_set_self _ js_lt]
      constructor
      · intro z; cases z; rw [← L.len]; simp
      · intro z
        by_cases c : k < js.length
        · rw [List.getElem?_append_left c] at z
          exact absurd (List.mem_of_getElem? z) g1
        · have := (List.getElem?_eq_some_iff.mp z).1
          simp only [List.length_append, List.length_cons, List.length_nil] at this
          rw [← L.len, show k = js.length by omega]
    · rw [oAt_set_ne _ e, L.own i k hi]
      constructor
      · intro z
        rw [List.getElem?_append_left (List.getElem?_eq_some_iff.mp z).1]; exact z
      · intro z
        by_cases c : k < js.length
        · rw [List.getElem?_append_left c] at z; exact z
        · have h3 := (List.getElem?_eq_some_iff.mp z).1
          simp only [List.length_append, List.length_cons, List.length_nil] at h3
          rw [show k = js.length by omega] at z
          simp at z
          exact absurd z.symm e
  · rcases List.mem_append.mp hi with hi | hi
    · exact L.inn i hi
    · rw [List.mem_singleton.mp hi]; exact hw
  · by_cases c : k < hs.length
    · rw [List.getElem?_append_left c] at h1
      rw [List.getElem?_append_left (by rw [L.len]; exact c)] at h2
      obtain ⟨q, e, z⟩ := L.met k h' i h1 h2
      exact ⟨q, e, fun k' hk => List.mem_append_left _ (z k' hk)⟩
    · have h3 := (List.getElem?_eq_some_iff.mp h1).1
      simp only [List.length_append, List.length_cons, List.length_nil] at h3
      have ek : k = hs.length := by omega
      subst ek
      rw [← L.len] at h2
      simp at h1 h2
      subst h1; subst h2
      exact ⟨K, hj, fun k' hk => List.mem_append_left _ (g2 k' hk)⟩
theorem Laid.all {m : Nat} (hm : Mk m) : ∀ (r hs : List Int) (ow : Array (Option Nat)) (js : List Nat), Laid m hs ow js → hs.length + r.length ≤ m →
    ∃ ow' js' n, r.foldl (stepF m) (some (ow, hs.length)) = some (ow', n) ∧ Laid m (hs ++ r) ow' js'
  | [], hs, ow, js, L, _ => ⟨ow, js, hs.length, rfl, by simpa using L⟩
  | h :: r, hs, ow, js, L, hl => by
    simp only [List.length_cons] at hl
    obtain ⟨j, e, L'⟩ := L.next hm (by omega) h
    obtain ⟨ow', js', n, f, L''⟩ := Laid.all hm r (hs ++ [h]) _ _ L' (by simp; omega)
    refine ⟨ow', js', n, ?_, by simpa using L''⟩
    rw [List.foldl_cons, stepF_some e]
    simpa using f
theorem clean_laid {m : Nat} (hm : Mk m) {hs : Array Int} (hn : hs.size ≤ m) : ∃ ow js, SetTable.layClean m hs = some ow ∧ Laid m hs.toList ow js := by
  obtain ⟨ow, js, n, f, L⟩ := Laid.all hm hs.toList [] _ _ (laid_nil m) (by simpa using hn)
  rw [List.nil_append] at L
  rw [List.length_nil] at f
  exact ⟨ow, js, by rw [layClean_eq, f]; rfl, L⟩
theorem nodup_ris {l : List Nat} (h : Ris l) : l.Nodup := List.Pairwise.imp (fun q => Nat.ne_of_lt q) h
theorem relay {t : SetTable} {hs : Array Int} {wanted m : Nat} (hw : SetTable.sizeAbove wanted - 1 = m) (hm : Mk m) (hn : hs.size ≤ m) :
    ∃ t' order, t.relaid hs wanted = some (t', order) ∧ order.toList.Perm (List.range hs.size) ∧ Tb t' (order.toList.map fun i => hs.getD i 0) ∧ t'.mask = m ∧ t'.led = t.led ∧ t'.plain = t.plain := by
  obtain ⟨ow, js, e, L⟩ := clean_laid hm hn
  have lv : ∀ {j k : Nat}, (j, k) ∈ liveOf m ow ↔ js[k]? = some j := fun {j k} => by
    rw [mem_live L.sz]
    constructor
    · rintro ⟨h1, h2⟩; exact (L.own j k h1).mp h2
    · intro h
      have h1 := L.inn j (List.mem_of_getElem? h)
      exact ⟨h1, (L.own j k h1).mpr h⟩
  obtain ⟨r1, _⟩ := ris_live (fun j => ow.getD j none) (List.range (m + 1)) (by unfold Ris; exact List.pairwise_lt_range)
  have r1 : Ris ((liveOf m ow).map (·.1)) := r1
  have nd : ((liveOf m ow).map (·.2)).Nodup := by
    have h1 := List.pairwise_map.mp (nodup_ris r1)
    refine List.pairwise_map.mpr (h1.imp_of_mem fun {a b} ha hb hne z => hne ?_)
    have a1 := lv.mp ha
    have b1 := lv.mp hb
    rw [z, b1] at a1
    exact (Option.some.inj a1).symm
  have pm : ((liveOf m ow).map (·.2)).Perm (List.range hs.size) := by
    refine (List.perm_ext_iff_of_nodup nd List.nodup_range).mpr fun k => ?_
    rw [List.mem_range, List.mem_map]
    have hl : js.length = hs.size := by rw [L.len, Array.length_toList]
    constructor
    · rintro ⟨⟨j, k'⟩, h, rfl⟩
      have := (List.getElem?_eq_some_iff.mp (lv.mp h)).1
      exact Nat.lt_of_lt_of_eq this hl
    · intro h
      exact ⟨(js[k]'(by omega), k), lv.mpr (List.getElem?_eq_getElem (by omega)), rfl⟩
  refine ⟨tabOf t m ow, ((liveOf m ow).map (·.2)).toArray, by rw [relaid_eq, hw, e]; rfl, pm, ⟨r1, rfl, by simp [tabOf], hm, fun i h j h1 h2 => ?_⟩, rfl, rfl, rfl⟩
  have h1 : (((liveOf m ow).map (·.2)).map fun i => hs.getD i 0)[i]? = some h := h1
  have h2 : ((liveOf m ow).map (·.1))[i]? = some j := h2
  rw [List.getElem?_map, List.getElem?_map] at h1
  rw [List.getElem?_map] at h2
  cases c : (liveOf m ow)[i]? with
  | none => rw [c] at h2; cases h2
  | some q =>
    rw [c] at h1 h2
    obtain ⟨j', k⟩ := q
    have ej : j' = j := Option.some.inj h2
    have eh : hs.getD k 0 = h := Option.some.inj h1
    subst ej
    have hk := lv.mp (List.mem_of_getElem? c)
    have kl : k < hs.toList.length := by rw [← L.len]; exact (List.getElem?_eq_some_iff.mp hk).1
    have hh : hs.toList[k]? = some h := by
      rw [Array.getD_eq_getD_getElem?, ← Array.getElem?_toList, List.getElem?_eq_getElem kl] at eh
      rw [List.getElem?_eq_getElem kl]
      exact congrArg some eh
    obtain ⟨K, e1, e2⟩ := L.met k h j' hh hk
    refine ⟨K, e1, fun k' hk' => ?_⟩
    obtain ⟨q, hq, eq⟩ := List.getElem_of_mem (e2 k' hk')
    exact List.mem_map.mpr ⟨(way m h k', q), lv.mpr (by rw [List.getElem?_eq_getElem hq, eq]), rfl⟩
theorem size_308 : SetTable.sizeAbove (SetTable.grown 77) = 512 := by decide +kernel
end M.Ts

set_option Elab.async false
set_option linter.all false
set_option maxRecDepth 100000
set_option maxHeartbeats 4000000
namespace M.Ts
open PySem PySem.Spec L2
open PyProof.Rows hiding St
/-! ### what a probe meets -/
abbrev pr (m : Nat) (h : Int) (c : Nat) : SetTable.Probe := nth m (runAt m (bt m h) (SetTable.bits h)) c
theorem pr_clean (m : Nat) (h : Int) : ∀ c, (pr m h c).dummy = none
  | 0 => rfl
  | c + 1 => by
    have := pr_clean m h c
    show (nth m _ (c + 1)).dummy = none
    rw [nth_succ]
    unfold adv
    split <;> exact this
theorem probe_at {t : SetTable} {hs : List Int} (T : Tb t hs) (f : Nat → Int) {h : Int} {K c : Nat} (hf : K < 10 * SetTable.turns t.mask) (g : Gap t.mask t.place.toList h K) (hc : c ≤ K) :
    (∃ q i, c ≤ q ∧ q < K ∧ t.place.toList[i]? = some (way t.mask h q) ∧ f i = h ∧ (∀ q' i', c ≤ q' → q' < q → t.place.toList[i']? = some (way t.mask h q') → f i' ≠ h) ∧
      t.probe f h (pr t.mask h c) = some (.candidate (way t.mask h q) i (pr t.mask h (q + 1)))) ∨
    ((∀ q' i', c ≤ q' → q' < K → t.place.toList[i']? = some (way t.mask h q') → f i' ≠ h) ∧ t.probe f h (pr t.mask h c) = some (.empty (way t.mask h K) none)) := by
  have sh : ∀ q, nth t.mask (pr t.mask h c) q = pr t.mask h (c + q) := fun q => (nth_add t.mask c _ q).symm
  have sj : ∀ q, (nth t.mask (pr t.mask h c) q).j = way t.mask h (c + q) := fun q => congrArg SetTable.Probe.j (sh q)
  have ck : c + (K - c) = K := by omega
  rcases go_spec t T.up T.clean f h (10 * SetTable.turns t.mask) (K - c) (pr t.mask h c) (pr_clean _ _ c) (by omega) (fun k hk => by rw [sj]; exact g.2 _ (by omega)) (by rw [sj, ck]; exact g.1) with ⟨k, i, k1, k2, k3, k4, k5⟩ | ⟨k4, k5⟩
  · rw [sj] at k2
    refine .inl ⟨c + k, i, by omega, by omega, k2, k3, fun q' i' a b e => k4 (q' - c) i' (by omega) (by rw [sj, show c + (q' - c) = q' by omega]; exact e), ?_⟩
    rw [sj, sh] at k5
    exact k5
  · refine .inr ⟨fun q' i' a b e => k4 (q' - c) i' (by omega) (by rw [sj, show c + (q' - c) = q' by omega]; exact e), ?_⟩
    rw [sj, ck] at k5
    exact k5
/-! ### a set of tuples -/
abbrev Ks := List (Addr × List Int)
abbrev hsh (P : Program) (w : World) (L : Ks) : List Int := L.map fun p => thash P w p.2
structure SR (P : Program) (w : World) (h : Heap) (a : Addr) (L : Ks) (es : Array (Int × Value)) (ep : Nat) (t : SetTable) : Prop where
  obj : ∃ o, h.get? a = some o ∧ o.ExactSet ∧ o.data = .set es ep t
  ents : es.toList = rowsOf P w L
  tab : Tb t (hsh P w L)
  uniq : (L.map (·.2)).Nodup
  tups : ∀ p ∈ L, IsT P w h p.2 p.1
  flat : t.plain = true
  led : w.params.followText "set-order" = true ∨ t.led = true
  room : L.length * 5 < t.mask * 3
  few : L.length < 300
theorem Mk.le {m : Nat} (h : Mk m) : m ≤ 511 := by
  rcases h with h | rfl
  · rcases h with rfl | rfl | rfl <;> omega
  · omega
theorem Mk.odd {m : Nat} (h : Mk m) : m % 2 = 1 := by
  rcases h with h | rfl
  · exact mask_odd h
  · rfl
theorem ents_size {P : Program} {w : World} {L : Ks} {es : Array (Int × Value)} (h : es.toList = rowsOf P w L) : es.size = L.length := by
  rw [← Array.length_toList, h, rowsOf, List.length_map]
theorem ents_at {P : Program} {w : World} {L : Ks} {es : Array (Int × Value)} (h : es.toList = rowsOf P w L) {i : Nat} {p : Addr × List Int} (hi : L[i]? = some p) : es[i]? = some (thash P w p.2, .ref p.1) := by
  rw [← Array.getElem?_toList, h, rowsOf, List.getElem?_map, hi]; rfl
theorem tab_fits {t : SetTable} {hs : List Int} (T : Tb t hs) {n : Nat} (hn : n = hs.length) (hr : n ≤ t.mask) : t.fits n = true := by
  have := T.cnt
  simp only [SetTable.fits, SetTable.fill, T.clean, Bool.and_eq_true, beq_iff_eq, decide_eq_true_eq]
  exact ⟨by omega, by simp; omega⟩
section
variable {P : Program} {w : World} {A : Around} {E : Value → Shared → Prop} {s : Shared} {a : Addr} {L : Ks} {es : Array (Int × Value)} {ep : Nat} {t : SetTable}
theorem SR.fits (R : SR P w s.heap a L es ep t) : t.fits es.size = true := by
  have := R.room
  exact tab_fits R.tab (by rw [ents_size R.ents, List.length_map]) (by rw [ents_size R.ents]; omega)
theorem look (R : SR P w s.heap a L es ep t) {x : Addr} {k : List Int} (hx : IsT P w s.heap k x) (hu : A.units < cLine) {K : Nat} (hf : K < 10 * SetTable.turns t.mask) (g : Gap t.mask t.place.toList (thash P w k) K) {Q : SetFound → Shared → Prop}
    (yes : k ∈ L.map (·.2) → Q (.there none) s) (no : k ∉ L.map (·.2) → Q (.free (way t.mask (thash P w k) K) false) s) :
    ∀ (n c : Nat) (st : Option SetTable.Probe), st.getD (t.probeStart (thash P w k)) = pr t.mask (thash P w k) c → c ≤ K → K < n + c →
      (∀ (i : Nat) (p : Addr × List Int), L[i]? = some p → p.2 = k → ∃ c', c ≤ c' ∧ c' < K ∧ t.place.toList[i]? = some (way t.mask (thash P w k) c')) →
      wpAny (model P w) A (setSearchFrom a (.ref x) (thash P w k) true n st) Q E s
  | 0, c, _, _, _, h, _ => by omega
  | n + 1, c, st, hst, hc, hn, hre => by
    obtain ⟨o, ho, hex, hd⟩ := R.obj
    obtain ⟨fe, hfe⟩ : ∃ fe : Nat → Int, fe = fun i => (es[i]?.map (·.1)).getD 0 := ⟨_, rfl⟩
    have at_ : ∀ {i : Nat} {p : Addr × List Int}, L[i]? = some p → fe i = thash P w p.2 := fun {i p} hp => by rw [hfe]; show (es[i]?.map (·.1)).getD 0 = _; rw [ents_at R.ents hp]; rfl
    rw [setSearchFrom_succ]
    refine wpAny_bind (wpAny_setState_of ho hd R.fits ?_)
    dsimp only
    refine wp_if_neg (by unfold SetTable.gaveWay; rw [R.tab.msk.odd]; decide) ?_
    rw [← hfe, hst]
    rcases probe_at R.tab fe hf g hc with ⟨q, i, q1, q2, hi, hh, hno, e⟩ | ⟨hno, e⟩
    · rw [e]
      dsimp only
      have il : i < L.length := by
        have h1 := (List.getElem?_eq_some_iff.mp hi).1
        have h2 := R.tab.cnt
        rw [List.length_map] at h2
        rw [Array.length_toList] at h1
        omega
      obtain ⟨p, hp⟩ : ∃ p, L[i]? = some p := ⟨_, List.getElem?_eq_getElem il⟩
      have pm : p ∈ L := List.mem_of_getElem? hp
      have live := slot_live R.tab.up hi
      have rest : wpAny (model P w) A (searchRest a (.ref x) (thash P w k) true n es t (way t.mask (thash P w k) q) i (pr t.mask (thash P w k) (q + 1))) Q E s := by
        unfold searchRest
        rw [ents_at R.ents hp]
        refine wpAny_bind (wpAny_holding (wpAny_eqBool_tuple hu (R.tups p pm) hx ?_))
        refine wpAny_bind (wpAny_setState_of ho hd R.fits ?_)
        by_cases hk : p.2 = k
        · exact wp_if_pos (by simp [hk]) (wpAny_pure (yes (List.mem_map.mpr ⟨p, pm, hk⟩)))
        · refine wp_if_neg (by simp [hk]) ?_
          rw [sameMem]
          simp only [if_true, live, ents_at R.ents hp]
          refine wpAny_bind (wpAny_isSame_ref_self (wpAny_bind (wpAny_pure ?_)))
          simp only [if_true]
          refine wp_if_neg (by simp [hk]) ?_
          refine look R hx hu hf g yes no n (q + 1) _ rfl (by omega) (by omega) fun i0 p0 h0 hk0 => ?_
          obtain ⟨c', a1, a2, a3⟩ := hre i0 p0 h0 hk0
          refine ⟨c', Nat.lt_of_not_le fun z => ?_, a2, a3⟩
          rcases Nat.lt_or_eq_of_le z with z | z
          · exact hno c' i0 a1 z a3 (by rw [at_ h0, hk0])
          · rw [z] at a3
            have := slot_live R.tab.up a3
            rw [live] at this
            injection this with this
            rw [← this, hp] at h0
            cases h0
            exact hk hk0
      by_cases hl : t.led = true
      · exact wp_if_neg (by simp [hl]) rest
      · refine wp_if_pos (by simp [hl]) (wpAny_bind (seen_tup hx (fun y hy => ?_) (wp_if_neg (by decide) rest)))
        obtain ⟨en, h1, rfl⟩ := List.mem_map.mp hy
        have h2 : en ∈ es.toList := by
          have := (Array.mem_filter.mp (Array.mem_toList_iff.mp h1)).1
          exact Array.mem_toList_iff.mpr this
        rw [R.ents] at h2
        obtain ⟨p2, h3, rfl⟩ := List.mem_map.mp h2
        exact ⟨p2.2, p2.1, rfl, R.tups p2 h3⟩
    · rw [e]
      dsimp only
      refine wpAny_pure (no fun hm => ?_)
      obtain ⟨p0, h0, hk0⟩ := List.mem_map.mp hm
      obtain ⟨i0, h1, h2⟩ := List.getElem_of_mem h0
      have h3 : L[i0]? = some p0 := by rw [List.getElem?_eq_getElem h1, h2]
      obtain ⟨c', a1, a2, a3⟩ := hre i0 p0 h3 hk0
      exact hno c' i0 a1 a2 a3 (by rw [at_ h3, hk0])
theorem find_it (R : SR P w s.heap a L es ep t) {x : Addr} {k : List Int} (hx : IsT P w s.heap k x) (hu : A.units < cLine) {Q : SetFound → Shared → Prop}
    (yes : k ∈ L.map (·.2) → Q (.there none) s) (no : ∀ K, k ∉ L.map (·.2) → Gap t.mask t.place.toList (thash P w k) K → Q (.free (way t.mask (thash P w k) K) false) s) :
    wpAny (model P w) A (setSearch a (.ref x) (thash P w k) true) Q E s := by
  have hr := R.room
  have hm := R.tab.msk.le
  obtain ⟨K, hK, g⟩ := R.tab.gap (by rw [List.length_map]; omega) (thash P w k)
  unfold setSearch
  refine look R hx hu hK g yes (fun z => no K z g) 100000 0 none rfl (Nat.zero_le _) (by unfold SetTable.turns at hK; omega) fun i p hp hk => ?_
  have hi : (hsh P w L)[i]? = some (thash P w k) := by rw [List.getElem?_map, hp, ← hk]; rfl
  have il : i < t.place.toList.length := by
    have h1 := (List.getElem?_eq_some_iff.mp hi).1
    rw [Array.length_toList, R.tab.cnt]; exact h1
  obtain ⟨c, hc, e⟩ := R.tab.early g hi (List.getElem?_eq_getElem il)
  exact ⟨c, Nat.zero_le _, hc, by rw [List.getElem?_eq_getElem il, e]⟩
end
end M.Ts

set_option Elab.async false
set_option linter.all false
set_option maxRecDepth 100000
set_option maxHeartbeats 4000000
namespace M.Ts
open PySem PySem.Spec L2
open PyProof.Rows hiding St
section
variable {P : Program} {w : World} {A : Around} {E : Value → Shared → Prop} {s : Shared} {a : Addr} {L : Ks} {es : Array (Int × Value)} {ep : Nat} {t : SetTable}
/-- laid anew -/
theorem anew {o : Obj} (ho : s.heap.get? a = some o) (hex : o.ExactSet) (hd : o.data = .set es ep t) (he : es.toList = rowsOf P w L) (T : Tb t (hsh P w L)) (hm : L.length ≤ t.mask) (un : (L.map (·.2)).Nodup) (tp : ∀ p ∈ L, IsT P w s.heap p.2 p.1)
    (fl : t.plain = true) (ld : w.params.followText "set-order" = true ∨ t.led = true) (few : L.length < 300) {wanted m : Nat} (hw : SetTable.sizeAbove wanted = m + 1) (hM : Mk m) (hr : L.length * 5 < m * 3) {Q : Unit → Shared → Prop}
    (k : ∀ h' L' es' ep' t', Heap.SameBut a s.heap h' → SR P w h' a L' es' ep' t' → L'.Perm L → Q () { s with heap := h' }) : wpAny (model P w) A (setRelay a wanted) Q E s := by
  have sz := ents_size he
  have mle := hM.le
  obtain ⟨t', ord, e, pm, T', em, el, ef⟩ := relay (t := t) (hs := es.map (·.1)) (wanted := wanted) (m := m) (by omega) hM (by rw [Array.size_map, sz]; omega)
  rw [Array.size_map, sz] at pm
  obtain ⟨L2, r1, r2, r3⟩ := order_rows L es ord he pm
  rw [← r3] at T'
  have s2 : (ord.filterMap (es[·]?)).size = es.size := by rw [ents_size r1, r2.length_eq, sz]
  rw [setRelay_eq]
  refine wpAny_bind (wpAny_setState_of ho hd (tab_fits T (by rw [sz, List.length_map]) (by omega)) ?_)
  refine wp_if_neg (by rw [sizeLine_eq]; omega) ?_
  rw [e]
  refine wpAny_bind (wp_if_neg (by rw [s2]; simp) (wpAny_pure ?_))
  refine wpAny_storeSet_of ho hd ?_ (by rw [s2, sz, sizeLine_eq]; omega)
  have sb : Heap.SameBut a s.heap (s.heap.update a (Obj.putSet (ord.filterMap (es[·]?)) t')) := Heap.SameBut.update ..
  refine k _ L2 _ (ep + 1) t' sb ⟨⟨_, store_at ho hd, ⟨hex.1, hex.2.1, hex.2.2⟩, rfl⟩, r1, T', (r2.map (·.2)).nodup_iff.mpr un, fun p hp => isT_same (tp p (r2.mem_iff.mp hp)) ho hd sb, by rw [ef]; exact fl, by rw [el]; exact ld, ?_, ?_⟩ r2
  · rw [r2.length_eq, em]; exact hr
  · rw [r2.length_eq]; exact few
/-- where it gets too full -/
theorem full_at {m n : Nat} (hm : Mk m) (h1 : n * 5 < m * 3) (h2 : (n + 1) * 5 ≥ m * 3) (few : n + 1 < 300) : ∃ m', SetTable.sizeAbove (SetTable.grown (n + 1)) = m' + 1 ∧ Mk m' ∧ (n + 1) * 5 < m' * 3 ∧ n + 1 ≤ m := by
  rcases hm with hm | rfl
  · rcases hm with rfl | rfl | rfl
    · obtain rfl : n = 4 := by omega
      exact ⟨31, size_20, .inl (.inr (.inl rfl)), by omega, by omega⟩
    · obtain rfl : n = 18 := by omega
      exact ⟨127, size_76, .inl (.inr (.inr rfl)), by omega, by omega⟩
    · obtain rfl : n = 76 := by omega
      exact ⟨511, size_308, .inr rfl, by omega, by omega⟩
  · omega
/-- one more -/
theorem more (R : SR P w s.heap a L es ep t) {x : Addr} {k : List Int} (hx : IsT P w s.heap k x) (hu : A.units < cLine) (hfew : L.length + 1 < 300) {Q : Bool → Shared → Prop}
    (go : ∀ b h' L' es' ep' t', Heap.SameBut a s.heap h' → SR P w h' a L' es' ep' t' → (k ∈ L.map (·.2) → L' = L) → (k ∉ L.map (·.2) → L'.Perm ((x, k) :: L)) → Q b { s with heap := h' }) :
    wpAny (model P w) A (setAddHashed a (.ref x) (thash P w k)) Q E s := by
  obtain ⟨o, ho, hex, hd⟩ := R.obj
  have sz := ents_size R.ents
  have room := R.room
  unfold setAddHashed
  refine wpAny_holding ?_
  rw [show (100000 : Nat) = 99999 + 1 from rfl, setAddHashedIn_succ]
  refine wpAny_bind (wpAny_setState_of ho hd R.fits (wp_if_neg (by simp [byScan, Value.scannable]) ?_))
  refine wpAny_bind (find_it R hx hu (fun hm => wpAny_pure (go false s.heap L es ep t (Heap.SameBut.refl a s.heap) R (fun _ => rfl) fun z => absurd hm z)) fun K hm g => ?_)
  refine wpAny_bind (wpAny_setState_of ho hd R.fits ?_)
  obtain ⟨p, hp⟩ : ∃ p, p = SetTable.below t.place (way t.mask (thash P w k) K) := ⟨_, rfl⟩
  obtain ⟨p1, T1, fl1⟩ := R.tab.ins g hp
  have e2 : (t.put (way t.mask (thash P w k) K)).2 = p := hp.symm
  have f1 : (t.put (way t.mask (thash P w k) K)).1.plain = true := R.flat
  have m1 : (t.put (way t.mask (thash P w k) K)).1.mask = t.mask := rfl
  have l1 : w.params.followText "set-order" = true ∨ (t.put (way t.mask (thash P w k) K)).1.led = true := R.led
  dsimp only
  generalize t.put (way t.mask (thash P w k) K) = pt at T1 fl1 e2 f1 m1 l1 ⊢
  obtain ⟨t1, p'⟩ := pt
  dsimp only at T1 fl1 e2 f1 m1 l1 ⊢
  subst e2
  have pm := put_perm L p' (x, k)
  have he1 : (SetTable.insertAt es p' (thash P w k, Value.ref x)).toList = rowsOf P w (L.take p' ++ (x, k) :: L.drop p') := by rw [SetTable.toList_insertAt, rows_put, R.ents]
  have T1 : Tb t1 (hsh P w (L.take p' ++ (x, k) :: L.drop p')) := by
    have : hsh P w (L.take p' ++ (x, k) :: L.drop p') = (hsh P w L).take p' ++ thash P w k :: (hsh P w L).drop p' := by simp [hsh, List.map_take, List.map_drop]
    rw [this]; exact T1
  have un1 : ((L.take p' ++ (x, k) :: L.drop p').map (·.2)).Nodup := (pm.map (·.2)).nodup_iff.mpr (List.nodup_cons.mpr ⟨hm, R.uniq⟩)
  have len1 := pm.length_eq
  generalize L.take p' ++ (x, k) :: L.drop p' = L1 at pm he1 T1 un1 len1
  rw [List.length_cons] at len1
  have sz1 := ents_size he1
  generalize SetTable.insertAt es p' (thash P w k, Value.ref x) = es1 at he1 sz1 ⊢
  refine wp_if_pos f1 (wpAny_bind (hashBy_tup hx ?_))
  simp only [if_true]
  refine wpAny_bind (wpAny_storeSet_of ho hd ?_ (by rw [sz1, len1, sizeLine_eq]; omega))
  have sb : Heap.SameBut a s.heap (s.heap.update a (Obj.putSet es1 t1)) := Heap.SameBut.update ..
  have ho1 := store_at (es' := es1) (t' := t1) ho hd
  generalize s.heap.update a (Obj.putSet es1 t1) = h1 at sb ho1 ⊢
  have tp1 : ∀ p ∈ L1, IsT P w h1 p.2 p.1 := fun p hp => by
    rcases List.mem_cons.mp (pm.mem_iff.mp hp) with rfl | hp
    · exact isT_same hx ho hd sb
    · exact isT_same (R.tups p hp) ho hd sb
  rw [List.length_map] at fl1
  by_cases hf : t1.tooFull = true
  · have full : (L.length + 1) * 5 ≥ t.mask * 3 := by
      unfold SetTable.tooFull at hf
      rw [decide_eq_true_eq, fl1, m1] at hf
      exact hf
    obtain ⟨m', z1, z2, z3, z4⟩ := full_at R.tab.msk room full hfew
    refine wp_if_pos (by simp [hf]) (wpAny_bind ?_)
    rw [sz]
    exact anew (s := { s with heap := h1 }) ho1 ⟨hex.1, hex.2.1, hex.2.2⟩ rfl he1 T1 (by rw [len1, m1]; exact z4) un1 tp1 f1 l1 (by omega) z1 z2 (by rw [len1]; exact z3) fun h2 L2 es2 ep2 t2 sb2 R2 pm2 =>
      wpAny_pure (go true h2 L2 es2 ep2 t2 (sb.trans sb2) R2 (fun z => absurd z hm) fun _ => pm2.trans pm)
  · refine wp_if_neg (by simp [hf]) ?_
    refine wpAny_pure (go true h1 L1 es1 (ep + 1) t1 sb ⟨⟨_, ho1, ⟨hex.1, hex.2.1, hex.2.2⟩, rfl⟩, he1, T1, un1, tp1, f1, l1, ?_, by omega⟩ (fun z => absurd z hm) fun _ => pm)
    unfold SetTable.tooFull at hf
    rw [decide_eq_true_eq, fl1] at hf
    omega
end
end M.Ts

set_option Elab.async false
set_option linter.all false
set_option maxRecDepth 100000
set_option maxHeartbeats 4000000
namespace M.Ts
open PySem PySem.Spec L2
open PyProof.Rows hiding St
abbrev tab0 (w : World) : SetTable := .fresh 0 0 (!w.params.followText "set-order")
abbrev obj0 (w : World) : Obj := { cls := .type "set", dict := none, data := .set #[] 0 (tab0 w) }
abbrev Kept (h h' : Heap) : Prop := ∀ b o, h.get? b = some o → h'.get? b = some o
section
variable {P : Program} {w : World} {A : Around} {E : Value → Shared → Prop} {s : Shared}
theorem SR.new {h : Heap} {a : Addr} (ho : h.get? a = some (obj0 w)) : SR P w h a [] #[] 0 (tab0 w) := by
  refine ⟨⟨_, ho, ⟨rfl, rfl, rfl⟩, rfl⟩, rfl, ⟨.nil, rfl, rfl, .inl (.inl rfl), fun i h j hi => (by simp at hi)⟩, .nil, fun p hp => (by cases hp), rfl, ?_, by show 0 * 5 < 7 * 3; decide, by show 0 < 300; decide⟩
  show _ ∨ (!w.params.followText "set-order") = true
  cases w.params.followText "set-order" <;> simp
theorem SR.move {h h' : Heap} {a : Addr} {L : Ks} {es : Array (Int × Value)} {ep : Nat} {t : SetTable} (R : SR P w h a L es ep t) (ha : ∀ o, h.get? a = some o → h'.get? a = some o) (ht : ∀ p ∈ L, IsT P w h' p.2 p.1) : SR P w h' a L es ep t := by
  obtain ⟨o, ho, q⟩ := R.obj
  exact ⟨⟨o, ha o ho, q⟩, R.ents, R.tab, R.uniq, ht, R.flat, R.led, R.room, R.few⟩
/-- the set at S after i items -/
def Sofar (P : Program) (w : World) (ks : Ks) (S : Addr) (i : Nat) (h : Heap) : Prop := ∃ L es ep t, SR P w h S L es ep t ∧ Got ks i L
theorem sofar_move {h0 h h' : Heap} {ks : Ks} {S : Addr} {i : Nat} (hk : ∀ p ∈ ks, IsT P w h0 p.2 p.1) (x : Sofar P w ks S i h) (ha : ∀ o, h.get? S = some o → h'.get? S = some o) (k0 : Kept h0 h') : Sofar P w ks S i h' := by
  obtain ⟨L, es, ep, t, R, g⟩ := x
  exact ⟨L, es, ep, t, R.move ha fun p hp => isT_keep (hk p (List.mem_of_mem_take (g.sub p hp))) k0, g⟩
theorem loop {I : Addr} {fp wr : List Addr} {G : Array GenState → Array GenState → Prop} {n : Nat} {Pv : Nat → Value → Prop} {St : Nat → Shared → Prop} {R : Result → Shared → Prop} (W : WalksS P w A.in1 I fp wr G n Pv St) {S : Addr} (hS : S ∉ fp)
    {ks : Ks} (few : n < 299) (val : ∀ i v, Pv i v → ∃ p, ks[i]? = some p ∧ v = .ref p.1) {h0 : Heap} (hk : ∀ p ∈ ks, IsT P w h0 p.2 p.1) (s0 : h0.get? S = none) (w0 : ∀ b ∈ wr, h0.get? b = none) (hu : A.in1.units < cLine) :
    ∀ (d i : Nat) (s : Shared), i + d = n → St i s → Kept h0 s.heap → Sofar P w ks S i s.heap →
      (∀ s', Moved (S :: wr) G s s' → Sofar P w ks S n s'.heap → Kept h0 s'.heap → R (.ok (.ret .none)) s') → codeAny (model P w) A (.builtin "set.update.loop" ⟨[.ref S, .ref I], []⟩) R s := by
  have sw : S ∉ wr := fun h => hS (W.sub _ h)
  have mv : ∀ {s s' : Shared}, Moved wr G s s' → Kept h0 s.heap → Kept h0 s'.heap := fun hm kp b o e => hm.heap b o (fun hb => by rw [w0 b hb] at e; cases e) (kp b o e)
  have wider : ∀ b ∈ wr, b ∈ S :: wr := fun b hb => List.mem_cons_of_mem _ hb
  intro d
  induction d with
  | zero =>
    intro i s hi st kp so k
    obtain rfl : i = n := hi
    refine codeAny_builtin F.entry_set_update_loop ?_
    rw [Around.under_plainId F.plain_set_update_loop _]
    show wpAny _ A.in1 (pyNext (.ref I) >>= _) _ _ s
    refine wpAny_bind (W.done s _ _ st fun s' hm => ?_)
    exact wpAny_pure (k s' (hm.mono wider) (sofar_move hk so (fun o e => hm.heap S o sw e) (mv hm kp)) (mv hm kp))
  | succ d ih =>
    intro i s hi st kp so k
    refine codeAny_builtin F.entry_set_update_loop ?_
    rw [Around.under_plainId F.plain_set_update_loop _]
    show wpAny _ A.in1 (pyNext (.ref I) >>= _) _ _ s
    refine wpAny_bind (W.item i s _ _ (by omega) st fun v s' hP st' hm => ?_)
    obtain ⟨p, hp, rfl⟩ := val i v hP
    have kp' := mv hm kp
    obtain ⟨L, es, ep, t, Rr, g⟩ := sofar_move hk so (fun o e => hm.heap S o sw e) kp'
    have hx := isT_keep (hk p (List.mem_of_getElem? hp)) kp'
    show wpAny _ A.in1 (holding [Value.ref p.1] (setAdd S (.ref p.1)) >>= _) _ _ s'
    refine wpAny_bind (wpAny_holding ?_)
    unfold setAdd
    refine wpAny_holding (wpAny_bind (wpAny_pyHash_tuple hu hx ?_))
    have gl := g.len
    refine more (s := { s' with toks := s'.toks + (p.2.length + 1) }) Rr hx hu (by omega) fun b h' L' es' ep' t' sb R' c1 c2 => ?_
    have g' : Got ks (i + 1) L' := by
      by_cases c : p.2 ∈ L.map (·.2)
      · rw [c1 c]; exact g.same hp c
      · exact g.more hp (c2 c)
    have kp2 : Kept h0 h' := fun b o e => (sb.2 b (fun z => by rw [z, s0] at e; cases e)).trans (kp' b o e)
    refine wpAny_pure ⟨plainId_quiet F.plain_set_update_loop _, ih (i + 1) _ (by omega) (W.frame _ s' _ _ st' (Nat.le_add_right _ _) fun b hb o e => ?_) kp2 ⟨L', es', ep', t', R', g'⟩ fun s'' hm2 so2 kp3 => ?_⟩
    · exact (sb.2 b (fun z => hS (z ▸ hb))).trans e
    · refine k s'' (Moved.trans W.gtrans ((hm.mono wider).then_heap (Nat.le_add_right _ _) fun b o hb e => ?_) hm2) so2 kp3
      exact (sb.2 b (fun z => hb (by rw [z]; exact List.mem_cons_self))).trans e
end
end M.Ts

set_option Elab.async false
set_option linter.all false
set_option maxRecDepth 100000
set_option maxHeartbeats 4000000
namespace M.Ts
open PySem PySem.Spec L2
open PyProof.Rows hiding St
section
variable {P : Program} {w : World} {A : Around} {E : Value → Shared → Prop} {s : Shared}
/-- what set.__init__ leaves -/
def Done (P : Program) (w : World) (ks : Ks) (s : Shared) (r : Value) (s2 : Shared) : Prop := r = .none ∧ ∃ h' tk, s2 = { s with heap := h', toks := tk } ∧ Sofar P w ks s.heap.objs.size ks.length h' ∧ Kept s.heap h'
theorem new_none (h : Heap) (b : Addr) (hb : h.objs.size ≤ b) : h.get? b = none := by
  cases q : h.get? b with
  | none => rfl
  | some o => exact absurd (Nat.lt_of_lt_of_le (Heap.lt_size q) hb) (Nat.lt_irrefl _)
theorem make {l : Addr} {items : Array Value} {ks : Ks} {Q : Value → Shared → Prop} (hh : A.handled = none) (hl : s.heap.IsList l items) (hit : items.toList = ks.map fun p => Value.ref p.1)
    (hk : ∀ p ∈ ks, IsT P w s.heap p.2 p.1) (few : ks.length < 299) (hu : A.units + 3 < cLine)
    (h : ∀ (h' : Heap) (tk : Nat), Sofar P w ks s.heap.objs.size ks.length h' → Kept s.heap h' → Q (.ref s.heap.objs.size) { s with heap := h', toks := tk }) : wpAny (model P w) A (PySem.call (.type "set") [.ref l]) Q E s := by
  have sz : items.size = ks.length := by rw [← Array.length_toList, hit, List.length_map]
  obtain ⟨c, tl, hmro⟩ := F.called_set.mro
  have g1 := F.called_set.made
  have g2 := F.called_set.sub
  refine wpAny_call (codeAny_of_tree ?_)
  show wpAny _ _ (callAny (.type "set") _) _ _ _
  refine wpAny_pure ⟨Code.quiet_builtin _ (by decide +kernel), codeAny_builtin F.entry_type_call ?_⟩
  rw [Around.under_plain (weight_type_call_type "set" [.ref l] []) rfl]
  have g3 := F.called_set.notType
  have g4 := F.called_set.canCreate
  have g5 := F.typeCall_set_1 (.ref l)
  repeat (any_goals (first | assumption | wp_step))
  refine codeAny_mono (code_set_led1 (.ref l) (E := E) (Q₁ := fun obj s₁ => obj = .ref s.heap.objs.size ∧ s₁ = { s with heap := s.heap.push (obj0 w) }) ⟨rfl, rfl⟩) fun r s₁ hr => ?_
  cases r with
  | error e => exact hr
  | ok fl =>
    cases fl with
    | ret obj =>
      obtain ⟨rfl, rfl⟩ := hr
      have at0 : (s.heap.push (obj0 w)).get? s.heap.objs.size = some (obj0 w) := Heap.get?_push_size _ rfl
      have hT : Shared.TypeIs { s with heap := s.heap.push (obj0 w) } (.ref s.heap.objs.size) "set" := ⟨_, at0, rfl⟩
      have g6 := F.called_set.init.lookup
      have g7 := F.called_set.init.bind (.ref s.heap.objs.size)
      repeat (any_goals (first | assumption | wp_step))
      refine codeAny_mono (codeAny_call_builtin (R := wants (Done P w ks s) E) F.called_set.init.plain F.entry_set_init (check_set_init_1 hT ?_)) fun r₂ s₂ hr₂ => ?_
      · obtain ⟨ol, hol, hcl, nl, hdl⟩ := hl
        obtain ⟨ocls, odict, odata, oslots⟩ := ol
        simp only at hcl hdl
        subst hcl; subst hdl
        have hol' := Heap.get?_push_of_some (obj0 w) hol
        have g8 := F.sub_list_set
        have g9 := F.sub_list_frozenset
        have g10 : (Value.type "list" == Value.type "dict") = false := by decide
        have hl1 : (s.heap.push (obj0 w)).IsList l items := ⟨_, hol', rfl, nl, rfl⟩
        have lt : l < s.heap.objs.size := Heap.lt_size hol
        have z1 : (s.heap.push (obj0 w)).objs.size = s.heap.objs.size + 1 := Heap.size_push ..
        have h3 : A.in1.in1.in1.handled = none := by simp [hh]
        unfold Builtin.«set.__init__» noKeywords Builtin.Frozenset.updateFrom
        generalize hPI : pyIter = PI
        wp_walk
        subst hPI
        refine wpAny_pyIter_list hl1 (wpAny_bind (wpAny_runValue ?_))
        refine loop ((Walks.list h3 _ l (by rw [z1]; exact Nat.ne_of_lt (Nat.lt_succ_of_lt lt)) items).toS) (S := s.heap.objs.size) (by rw [z1]; simp only [List.mem_cons, List.not_mem_nil, or_false, not_or]; exact ⟨Nat.ne_of_lt (Nat.lt_succ_self _), Nat.ne_of_gt lt⟩) (ks := ks) (by rw [sz]; exact few) (fun i v hv => ?_) (h0 := s.heap) hk (new_none _ _ (Nat.le_refl _)) (fun b hb => new_none _ _ (by rw [List.mem_singleton.mp hb, z1]; exact Nat.le_succ _)) hu items.size 0 _ (by omega)
          ⟨⟨_, Heap.get?_push_size _ rfl, rfl, rfl⟩, hl1.push _⟩ (fun b o e => Heap.get?_push_of_some _ (Heap.get?_push_of_some _ e)) ⟨[], #[], 0, _, SR.new (Heap.get?_push_of_some _ at0), Got.zero ks⟩ ?_
        · have hv : items.toList[i]? = some v := by rw [Array.getElem?_toList]; exact hv
          rw [hit, List.getElem?_map] at hv
          cases hq : ks[i]? with
          | none => rw [hq] at hv; cases hv
          | some p => rw [hq] at hv; exact ⟨p, rfl, (Option.some.inj hv).symm⟩
        · intro s' hm so kp
          obtain ⟨h', g', d', tk', os'⟩ := s'
          have e1 : g' = s.gens := hm.gens
          have e2 : d' = s.drawn := hm.drawn
          have e3 : os' = s.os := hm.os
          subst e1; subst e2; subst e3
          rw [sz] at so
          show wpAny _ _ _ _ _ _
          refine wpAny_pure ?_
          show wpAny _ _ (ret Value.none) _ _ _
          exact wpAny_pure ⟨rfl, h', tk', rfl, so, kp⟩
      · cases r₂ with
        | error e => exact hr₂
        | ok fl₂ =>
          cases fl₂ with
          | ret r =>
            obtain ⟨rfl, h', tk, rfl, so, kp⟩ := hr₂
            repeat (any_goals (first | assumption | wp_step))
            exact h _ _ so kp
          | _ => exact hr₂.elim
    | _ => exact hr.elim
end
end M.Ts

set_option Elab.async false
set_option linter.all false
set_option maxRecDepth 100000
set_option maxHeartbeats 4000000
namespace M.Ts
open PySem PySem.Spec L2
open PyProof.Rows hiding St
section
variable {P : Program} {w : World} {A : Around} {E : Value → Shared → Prop} {s : Shared}
theorem head_items {k : List Int} {vs : List Value} (h : ItemsAre (intKind P w) k vs) : Head vs k [] := by
  induction h with
  | nil => exact .nil []
  | cons h1 _ ih =>
    obtain ⟨t, rfl⟩ := Value.isInt_shape h1
    exact .cons ih
theorem tupH {h : Heap} {k : List Int} {b : Addr} (x : IsT P w h k b) : TupH h (.ref b) k 0 := by
  obtain ⟨o, items, n, ho, hc, hd, hi⟩ := x
  exact ⟨b, o, items, n, [], rfl, ho, hc, hd, head_items hi, rfl⟩
/-- the key of a value -/
def keyOf (L : Ks) : Value → List Int
  | .ref b => ((L.find? fun p => p.1 == b).map (·.2)).getD []
  | _ => []
theorem keyOf_at {h : Heap} {L : Ks} (ht : ∀ p ∈ L, IsT P w h p.2 p.1) {p : Addr × List Int} (hp : p ∈ L) : keyOf L (.ref p.1) = p.2 := by
  show ((L.find? fun q => q.1 == p.1).map (·.2)).getD [] = p.2
  cases e : L.find? fun q => q.1 == p.1 with
  | none =>
    have := List.find?_eq_none.mp e p hp
    simp at this
  | some q =>
    have h1 := List.find?_some e
    have h2 := List.mem_of_find?_eq_some e
    have h1 : q.1 = p.1 := by simpa using h1
    have a1 := ht q h2
    rw [h1] at a1
    exact a1.inj (ht p hp)
theorem refs_of {L : Ks} : ∀ {vs : List Value}, (∀ v ∈ vs, ∃ p ∈ L, v = Value.ref p.1) → ∃ M : Ks, vs = M.map (fun p => Value.ref p.1) ∧ ∀ p ∈ M, p ∈ L
  | [], _ => ⟨[], rfl, fun p hp => by cases hp⟩
  | v :: vs, h => by
    obtain ⟨p, hp, rfl⟩ := h v List.mem_cons_self
    obtain ⟨M, rfl, hM⟩ := refs_of fun u hu => h u (List.mem_cons_of_mem _ hu)
    refine ⟨p :: M, rfl, fun q hq => ?_⟩
    rcases List.mem_cons.mp hq with rfl | hq
    · exact hp
    · exact hM q hq
theorem perm_back {h : Heap} {L M : Ks} (ht : ∀ p ∈ L, IsT P w h p.2 p.1) (hM : ∀ p ∈ M, p ∈ L) (pm : (M.map fun p => Value.ref p.1).Perm (L.map fun p => Value.ref p.1)) : M.Perm L := by
  have f : ∀ {N : Ks}, (∀ p ∈ N, p ∈ L) → (N.map fun p => Value.ref p.1).map (fun v => ((match v with | .ref b => b | _ => 0), keyOf L v)) = N := fun {N} hN => by
    rw [List.map_map]
    conv => rhs; rw [← List.map_id N]
    refine List.map_congr_left fun p hp => ?_
    show (p.1, keyOf L (.ref p.1)) = p
    rw [keyOf_at ht (hN p hp)]
  have := pm.map fun v => ((match v with | .ref b => b | _ => 0), keyOf L v)
  rw [f hM, f fun p hp => hp] at this
  exact this
theorem srt {a : Addr} {L : Ks} {es : Array (Int × Value)} {ep : Nat} {t : SetTable} {Q : Value → Shared → Prop} (R : SR P w s.heap a L es ep t) (hh : A.handled = none) {n : Nat} (h1 : 1 ≤ n) (hn : ∀ p ∈ L, p.2.length = n)
    (hQ : ∀ s' p (out : Array Value) (c : Nat) (L' : Ks), Kept s.heap s'.heap → s'.gens = s.gens → s'.os = s.os → s.heap.objs.size ≤ p → s'.heap.get? p = some (seqObj "list" out c) → out.toList = L'.map (fun q => Value.ref q.1) →
      L'.Perm L → L'.Pairwise (fun x y => HT.lexLt y.2 x.2 = false) → Q (.ref p) s') : wpAny (model P w) A (PySem.call (.builtin "sorted") [.ref a]) Q E s := by
  obtain ⟨o, ho, hex, hd⟩ := R.obj
  have sz := ents_size R.ents
  have few := R.few
  refine Calls.call_function_entry kind_sorted plain_sorted entry_sorted (args_sorted1 _) ?_
  unfold Builtin.«sorted»
  refine wpAny_bind (m := checkCount "sorted" 1 1 _) (wpAny_pure ?_)
  refine wpAny_bind (collect_set (A := A.in1) hh ⟨o, ho, hex.1, hd⟩ R.fits (by unfold scanBound; omega) R.tab.up R.led fun s1 vs k1 hz gg oo pm => ?_)
  have er : es.toList.map (·.2) = L.map fun q => Value.ref q.1 := by rw [R.ents, rowsOf, List.map_map]; rfl
  rw [er] at pm
  have vl : vs.length ≤ sizeLine := by rw [pm.length_eq, List.length_map, sizeLine_eq]; omega
  refine wpAny_bind (wpAny_newList ?_ vl)
  have at1 : (s1.heap.push (seqObj "list" vs.toArray 0)).get? s1.heap.objs.size = some (seqObj "list" vs.toArray 0) := Heap.get?_push_size _ rfl
  have kp : Kept s.heap (s1.heap.push (seqObj "list" vs.toArray 0)) := fun b u e => Heap.get?_push_of_some _ (k1 b u e)
  have hp : ∀ v ∈ vs, TupH (s1.heap.push (seqObj "list" vs.toArray 0)) v (keyOf L v) 0 ∧ (keyOf L v).length = n := fun v hv => by
    obtain ⟨q, hq, rfl⟩ := List.mem_map.mp (pm.mem_iff.mp hv)
    rw [keyOf_at R.tups hq]
    exact ⟨tupH (isT_keep (R.tups q hq) kp), hn q hq⟩
  refine wpAny_bind (wpAny_holding (wpAny_call_entry slot_list_sort ⟨_, at1, rfl⟩ entry_list_sort (SrtO.list_sort_ord (s := { s1 with heap := s1.heap.push (seqObj "list" vs.toArray 0) }) (NtL.swo_lexL fun v => keyOf L v) at1 vl (fun h2 => ?_) fun out hs hb => ⟨_, rfl, ?_⟩) (args_list_sort _)))
  · refine head_sortable (s := { s1 with heap := s1.heap.push (seqObj "list" vs.toArray 0) }) h1 (by omega) hp (.inl rfl) fun o e c => ?_
    have e : some (seqObj "list" vs.toArray 0) = some o := at1.symm.trans e
    cases e
    exact absurd (Value.type.inj c) (by decide)
  · obtain ⟨M, eM, hM⟩ := refs_of (L := L) (vs := out) fun v hv => by
      obtain ⟨q, hq, e⟩ := List.mem_map.mp (pm.mem_iff.mp (hb.perm.mem_iff.mp hv))
      exact ⟨q, hq, e.symm⟩
    subst eM
    obtain ⟨c, hc⟩ := sortedHeap_at (out := (M.map fun p => Value.ref p.1).toArray) at1
    refine wpAny_pure ⟨_, rfl, hQ _ s1.heap.objs.size _ c M (fun b u e => ?_) gg oo hz hc (by simp) (perm_back R.tups hM (hb.perm.trans pm)) ?_⟩
    · have lt := Heap.lt_size (k1 b u e)
      show (sortedHeap (s1.heap.push (seqObj "list" vs.toArray 0)) s1.heap.objs.size vs _).get? b = some u
      rw [sortedHeap_old (Nat.ne_of_lt lt) (by rw [size_push']; exact Nat.lt_succ_of_lt lt)]
      exact kp b u e
    · refine (List.pairwise_map.mp hs).imp_of_mem fun {x y} hx hy z => ?_
      have z : HT.lexLt (keyOf L (.ref y.1)) (keyOf L (.ref x.1)) = false := z
      rw [keyOf_at R.tups (hM x hx), keyOf_at R.tups (hM y hy)] at z
      exact z
end
/-! ### the rules -/
def S0 (P : Program) (w : World) (a : Addr) (L : Ks) (h : Heap) : Prop := ∃ (es : Array (Int × Value)) (ep : Nat) (t : SetTable), (∃ o, h.get? a = some o ∧ o.ExactSet ∧ o.data = .set es ep t) ∧ es.toList = rowsOf P w L ∧ Tb t (hsh P w L) ∧ (L.map (·.2)).Nodup ∧ t.plain = true ∧
  (w.params.followText "set-order" = true ∨ t.led = true) ∧ L.length * 5 < t.mask * 3 ∧ L.length < 300
def setO (P : Program) (w : World) (a : Addr) (L : Ks) : HO := .ext fun h => S0 P w a L h
theorem SR.s0 {P : Program} {w : World} {h : Heap} {a : Addr} {L : Ks} {es : Array (Int × Value)} {ep : Nat} {t : SetTable} (R : SR P w h a L es ep t) : S0 P w a L h := ⟨es, ep, t, R.obj, R.ents, R.tab, R.uniq, R.flat, R.led, R.room, R.few⟩
theorem S0.sr {P : Program} {w : World} {h : Heap} {a : Addr} {L : Ks} (x : S0 P w a L h) (ht : ∀ p ∈ L, IsT P w h p.2 p.1) : ∃ es ep t, SR P w h a L es ep t := by
  obtain ⟨es, ep, t, x1, x2, x3, x4, x5, x6, x7, x8⟩ := x
  exact ⟨es, ep, t, x1, x2, x3, x4, ht, x5, x6, x7, x8⟩
theorem setO_ok {P : Program} {w : World} {H : Hp} {h : Heap} {a : Addr} {L : Ks} (x : S0 P w a L h) : ObjOk P w H h a (setO P w a L) := by
  refine ⟨x, ?_, fun h1 h2 p k => ?_⟩
  · obtain ⟨_, _, _, ⟨o, ho, _⟩, _⟩ := x
    exact ⟨o, ho⟩
  · obtain ⟨es, ep, t, ⟨o, ho, q⟩, r⟩ := p
    exact ⟨es, ep, t, ⟨o, k o ho, q⟩, r⟩
def rSet (K : PySem.W.Frag) (P : Program) (w : World) : List V → Hp → VK → Prop := fun xs H Q => ∃ (l : Addr) (ks : Ks), xs = [V.ref l] ∧ SqL K H l (ks.map fun p => V.ref p.1) ∧ (∀ p ∈ ks, SqT K H p.1 (p.2.map V.int)) ∧ ks.length < 299 ∧
  ∀ a L, H a = none → (∀ p ∈ L, p ∈ ks) → (∀ p ∈ ks, p.2 ∈ L.map (·.2)) → Q (.ref a) (upd H a (setO P w a L))
theorem cr_set {X : Cx} (hc : X.calm = true) (hu : X.A.units + 64 < cLine) : CallR X (.type "set") (rSet X.K X.prog X.w) := by
  intro pins s σ H xs us Q I r h
  obtain ⟨l, ks, rfl, hl, hk, few, q⟩ := h
  rw [Vals.ref1 r]
  obtain ⟨its, rv, pl, _⟩ := I.list hl
  refine make (P := X.prog) (w := X.w) (ks := ks) (I.ok.hd hc) pl.isList (by simpa using refs_of_vals rv) (fun p hp => I.isT (hk p hp)) few (by omega) fun h' tk so kp => ?_
  obtain ⟨L, es, ep, t, R, g⟩ := so
  exact ⟨.ref s.heap.objs.size, upd H s.heap.objs.size (setO X.prog X.w s.heap.objs.size L), I.laid (t' := tk) kp (Nat.le_refl _) (setO_ok R.s0), rfl, q _ L (I.hok.fresh (Nat.le_refl _)) (fun p hp => List.mem_of_mem_take (g.sub p hp)) fun p hp => g.all p (by rw [List.take_length]; exact hp)⟩
def rSrt (K : PySem.W.Frag) (P : Program) (w : World) : List V → Hp → VK → Prop := fun vs H Q => ∃ (a : Addr) (L : Ks) (n : Nat), vs = [V.ref a] ∧ H a = some (setO P w a L) ∧ (∀ p ∈ L, SqT K H p.1 (p.2.map V.int)) ∧ 1 ≤ n ∧ (∀ p ∈ L, p.2.length = n) ∧
  ∀ (L' : Ks) (p : Addr), L'.Perm L → (L'.map (·.2)).Nodup → L'.Pairwise (fun x y => HT.lexLt y.2 x.2 = false) → H p = none → Q (.ref p) (upd H p (.lst (L'.map fun q => V.ref q.1)))
theorem cr_srt {X : Cx} (hc : X.calm = true) : CallR X (.builtin "sorted") (rSrt X.K X.prog X.w) := by
  intro pins s σ H vs us Q I r h
  obtain ⟨a, L, n, rfl, ha, hk, h1, hn, q⟩ := h
  obtain ⟨es, ep, t, R⟩ := S0.sr (I.hok a _ ha).1 fun p hp => I.isT (hk p hp)
  rw [Vals.ref1 r]
  refine srt R (I.ok.hd hc) h1 hn fun s' p out c L' kp gg oo hp hg hout pm pw => ?_
  have few : L'.length < 300 := by rw [pm.length_eq]; exact R.few
  have hl : (L'.map fun q => V.ref q.1).length ≤ sizeLine := by rw [List.length_map, sizeLine_eq]; omega
  have hv : Vals (L'.map fun q => V.ref q.1) out.toList := by rw [hout]; exact vals_of_refs L'
  have fr := I.hok.fresh hp
  have J : Inv X pins σ (upd H p (.lst (L'.map fun q => V.ref q.1))) { s with heap := s'.heap, gens := s'.gens, drawn := s'.drawn, toks := s'.toks } :=
    I.call (ch := []) (Un.laid kp hp fr) (I.hok.laid kp hp ⟨hl, out.toList, c, hv, hg⟩) (by rw [gg]; exact I.bare) (fun _ z => nomatch z)
  have e : s' = { s with heap := s'.heap, gens := s'.gens, drawn := s'.drawn, toks := s'.toks } := by
    cases s'; cases s; cases oo; rfl
  rw [e]
  exact ⟨.ref p, _, J, rfl, q L' p pm ((pm.map (·.2)).nodup_iff.mpr R.uniq) pw fr⟩
end M.Ts

set_option Elab.async false
set_option linter.all false
set_option maxRecDepth 100000
set_option maxHeartbeats 4000000
namespace M
open PySem PySem.Spec L2
open PyProof.Rows hiding St
/-! ### the order of rows of ints -/
theorem lexLe_eq : ∀ a b : List Int, lexLe a b = !HT.lexLt b a
  | [], [] => rfl
  | [], _ :: _ => rfl
  | _ :: _, [] => rfl
  | x :: xs, y :: ys => by
    simp only [lexLe, HT.lexLt, lexLe_eq xs ys]
    by_cases h : x = y
    · simp [h]
    · have h2 : ¬ y = x := fun z => h z.symm
      simp only [h, h2, if_false]
      by_cases h3 : x < y
      · have : ¬ y < x := by omega
        simp [h3, this]
      · have : y < x := by omega
        simp [h3, this]
theorem lex_eq : ∀ {a b : List Int}, HT.lexLt a b = false → HT.lexLt b a = false → a = b
  | [], [], _, _ => rfl
  | [], _ :: _, h, _ => by cases h
  | _ :: _, [], _, h => by cases h
  | x :: xs, y :: ys, h1, h2 => by
    simp only [HT.lexLt] at h1 h2
    by_cases h : x = y
    · subst h
      simp only [if_true] at h1 h2
      rw [lex_eq h1 h2]
    · have h3 : ¬ y = x := fun z => h z.symm
      simp only [h, h3, if_false, decide_eq_false_iff_not] at h1 h2
      omega
abbrev ltK (x y : D) : Bool := HT.lexLt (tkey x) (tkey y)
theorem ltK_swo : SrtO.Swo ltK := NtL.swo_lexL tkey
theorem insK_perm (x : D) : ∀ ys : List D, (insK x ys).Perm (x :: ys)
  | [] => .refl _
  | y :: ys => by
    unfold insK
    split
    · exact .refl _
    · exact ((insK_perm x ys).cons y).trans (.swap x y ys)
theorem sortK_perm : ∀ xs : List D, (sortK xs).Perm xs
  | [] => .refl _
  | x :: xs => (insK_perm x (sortK xs)).trans ((sortK_perm xs).cons x)
abbrev SrtK (xs : List D) : Prop := xs.Pairwise fun x y => ltK y x = false
theorem insK_sorted (x : D) : ∀ {ys : List D}, SrtK ys → SrtK (insK x ys)
  | [], _ => by simp [insK, SrtK]
  | y :: ys, h => by
    unfold insK
    have h := List.pairwise_cons.mp h
    split
    · rename_i hxy
      rw [lexLe_eq, Bool.not_eq_true'] at hxy
      refine List.pairwise_cons.mpr ⟨fun z hz => ?_, List.pairwise_cons.mpr h⟩
      rcases List.mem_cons.mp hz with rfl | hz
      · exact hxy
      · cases hc : ltK z x with
        | false => rfl
        | true =>
          have := ltK_swo.ltle hc hxy
          rw [h.1 z hz] at this
          cases this
    · rename_i hxy
      rw [lexLe_eq, Bool.not_eq_true', Bool.not_eq_false] at hxy
      refine List.pairwise_cons.mpr ⟨fun z hz => ?_, insK_sorted x h.2⟩
      rcases List.mem_cons.mp ((insK_perm x ys).mem_iff.mp hz) with rfl | hz
      · exact ltK_swo.asym _ _ hxy
      · exact h.1 z hz
theorem sortK_sorted : ∀ xs : List D, SrtK (sortK xs)
  | [] => .nil
  | x :: xs => insK_sorted x (sortK_sorted xs)
theorem srtK_eq : ∀ {a b : List D}, a.Perm b → SrtK a → SrtK b → (∀ x ∈ a, ∀ y ∈ a, tkey x = tkey y → x = y) → a = b
  | [], b, p, _, _, _ => by simpa using p
  | x :: a, [], p, _, _, _ => by simpa using p.length_eq
  | x :: a, y :: b, p, ha, hb, inj => by
    have ha := List.pairwise_cons.mp ha
    have hb := List.pairwise_cons.mp hb
    have e : x = y := by
      have h1 : x ∈ y :: b := p.mem_iff.mp List.mem_cons_self
      have h2 : y ∈ x :: a := p.mem_iff.mpr List.mem_cons_self
      rcases List.mem_cons.mp h1 with h1 | h1
      · exact h1
      · rcases List.mem_cons.mp h2 with h2' | h2'
        · exact h2'.symm
        · exact inj x List.mem_cons_self y h2 (lex_eq (hb.1 x h1) (ha.1 y h2'))
    subst e
    rw [srtK_eq p.cons_inv ha.2 hb.2 fun x hx y hy => inj x (List.mem_cons_of_mem _ hx) y (List.mem_cons_of_mem _ hy)]
/-! ### rows of values -/
def vInts : List V → List Int
  | .int i :: r => i :: vInts r
  | _ => []
theorem vInts_split : ∀ xs : List V, ∃ r, xs = (vInts xs).map V.int ++ r ∧ r.length = xs.length - (vInts xs).length
  | [] => ⟨[], rfl, rfl⟩
  | x :: xs => by
    cases x with
    | int i =>
      obtain ⟨r, h1, h2⟩ := vInts_split xs
      refine ⟨r, ?_, ?_⟩
      · simp only [vInts, List.map_cons, List.cons_append]
        exact congrArg _ h1
      · simp only [vInts, List.length_cons, h2]; omega
    | _ => exact ⟨_, rfl, by simp [vInts]⟩
theorem vInts_pre {G : Hp} : ∀ {vs : List V} {ds : List D}, RpL G vs ds → vInts vs = intPre ds
  | _, _, .nil => rfl
  | _, _, .cons r t => by
    cases r <;> first | rfl | skip
    simp only [vInts, intPre, vInts_pre t]
def vkey (H : Hp) : V → List Int
  | .ref t => match H t with
    | some (.tup xs) => vInts xs
    | _ => []
  | _ => []
theorem vkey_rp {G H : Hp} {v : V} {d : D} {n : Nat} (e : Same G H) (q : Rp G v d) (h : tlen d = some n) : ∃ t xs, v = .ref t ∧ H t = some (.tup xs) ∧ xs.length = n ∧ vkey H v = tkey d ∧ vInts xs = tkey d := by
  cases q <;> first | (cases h; done) | skip
  rename_i t xs ds h1 h2
  have h3 := e _ _ h1
  cases h
  have hv := vInts_pre h2
  refine ⟨t, xs, rfl, h3, h2.len, ?_, hv⟩
  simp only [vkey, h3, hv, tkey]
theorem RpL.mem {G : Hp} : ∀ {vs : List V} {ds : List D} {v : V}, RpL G vs ds → v ∈ vs → ∃ d ∈ ds, Rp G v d
  | _, _, _, .nil, h => by cases h
  | _, _, v, .cons r t, h => by
    rcases List.mem_cons.mp h with rfl | h
    · exact ⟨_, List.mem_cons_self, r⟩
    · obtain ⟨d, h1, h2⟩ := RpL.mem t h
      exact ⟨d, List.mem_cons_of_mem _ h1, h2⟩
theorem RpL.perm {G : Hp} : ∀ {vs us : List V}, us.Perm vs → ∀ {ds : List D}, RpL G vs ds → ∃ es, es.Perm ds ∧ RpL G us es := by
  intro vs us p
  induction p with
  | nil => intro ds h; cases h; exact ⟨[], .refl _, .nil⟩
  | cons x _ ih =>
    intro ds h
    cases h with
    | cons r t =>
      obtain ⟨es, h1, h2⟩ := ih t
      exact ⟨_, h1.cons _, .cons r h2⟩
  | swap x y l =>
    intro ds h
    cases h with
    | cons r t => cases t with
      | cons r2 t => exact ⟨_, .swap _ _ _, .cons r2 (.cons r t)⟩
  | trans _ _ ih1 ih2 =>
    intro ds h
    obtain ⟨es, h1, h2⟩ := ih2 h
    obtain ⟨fs, h3, h4⟩ := ih1 h2
    exact ⟨fs, h3.trans h1, h4⟩
theorem srtK_of {G H : Hp} (e : Same G H) : ∀ {vs : List V} {ds : List D}, RpL G vs ds → (∀ d ∈ ds, ∃ n, tlen d = some n) → vs.Pairwise (fun x y => HT.lexLt (vkey H y) (vkey H x) = false) → SrtK ds
  | _, _, .nil, _, _ => .nil
  | _, _, .cons r t, hd, h => by
    have h := List.pairwise_cons.mp h
    refine List.pairwise_cons.mpr ⟨fun y hy => ?_, srtK_of e t (fun d hd' => hd d (List.mem_cons_of_mem _ hd')) h.2⟩
    obtain ⟨i, hi, rfl⟩ := List.getElem_of_mem hy
    obtain ⟨v, hv, rv⟩ := t.get (List.getElem?_eq_getElem hi)
    have := h.1 v (List.mem_of_getElem? hv)
    obtain ⟨n1, l1⟩ := hd _ List.mem_cons_self
    obtain ⟨n2, l2⟩ := hd _ (List.mem_cons_of_mem _ hy)
    obtain ⟨_, _, _, _, _, k1, _⟩ := vkey_rp e r l1
    obtain ⟨_, _, _, _, _, k2, _⟩ := vkey_rp e rv l2
    rw [k1, k2] at this
    exact this
theorem key_map {G H : Hp} (e : Same G H) : ∀ {vs : List V} {ds : List D}, RpL G vs ds → (∀ d ∈ ds, ∃ n, tlen d = some n) → vs.map (vkey H) = ds.map tkey
  | _, _, .nil, _ => rfl
  | _, _, .cons r t, hd => by
    obtain ⟨n, l⟩ := hd _ List.mem_cons_self
    obtain ⟨_, _, _, _, _, k, _⟩ := vkey_rp e r l
    rw [List.map_cons, List.map_cons, k, key_map e t fun d h => hd d (List.mem_cons_of_mem _ h)]
theorem nodup_inj {α β : Type} {f : α → β} : ∀ {l : List α}, (l.map f).Nodup → ∀ x ∈ l, ∀ y ∈ l, f x = f y → x = y
  | [], _, x, hx, _, _, _ => by cases hx
  | a :: l, h, x, hx, y, hy, e => by
    rw [List.map_cons, List.nodup_cons] at h
    rcases List.mem_cons.mp hx with hx | hx <;> rcases List.mem_cons.mp hy with hy | hy
    · rw [hx, hy]
    · exact absurd (List.mem_map.mpr ⟨y, hy, by rw [← e, hx]⟩) h.1
    · exact absurd (List.mem_map.mpr ⟨x, hx, by rw [e, hy]⟩) h.1
    · exact nodup_inj h.2 x hx y hy e
theorem intPre_all : ∀ {ds : List D}, (intPre ds).length = ds.length → ds = (intPre ds).map .int
  | [], _ => rfl
  | d :: ds, h => by
    cases d with
    | int i =>
      simp only [intPre, List.length_cons, Nat.add_right_cancel_iff] at h
      simp only [intPre, List.map_cons]
      rw [← intPre_all h]
    | _ => simp [intPre] at h
theorem tupsOk_inj {n m : Nat} {xs : List D} (h : tupsOk n m xs = true) : ∀ x ∈ xs, ∀ y ∈ xs, tkey x = tkey y → x = y := by
  unfold tupsOk at h
  simp only [Bool.and_eq_true, Bool.or_eq_true, List.all_eq_true, decide_eq_true_eq] at h
  obtain ⟨h1, h2, h3⟩ := h
  rcases h3 with h3 | h3
  · subst h3
    have key : ∀ x ∈ xs, x = .tuple ((tkey x).map .int) := fun x hx => by
      obtain ⟨a, b⟩ := h1 x hx
      cases x with
      | tuple ds =>
        simp only [tlen, Option.some.injEq] at a
        simp only [tkey] at b ⊢
        rw [← intPre_all (by rw [a, b])]
      | _ => cases a
    intro x hx y hy e
    rw [key x hx, key y hy, e]
  · exact nodup_inj h3
theorem b_sortT {X : Cx} {pins : List (Addr × Obj)} {s : Shared} {σ : St} {H G : Hp} {us : List Value} {Q : VK} {p : Addr} {ws : List V} {ds : List D} {W : WX} {cl : Nat → Value} {σ' : St} (I : Inv X pins σ H s) (eg : Same G H) (h1 : H p = some (.lst ws)) (q : RpL G ws ds) (r : Vals [V.ref p] us)
    (o : Out rhE W cl σ' G H (sortD ds) Q) : wpAny (model X.prog X.w) X.A (PySem.call (.builtin "sorted") us) (EP X pins σ Q) X.xe s := by
  have gen : ∀ n m, tupsOk n m ds = true → (∀ v G' H', Step G H G' H' → Rp G' v (.list (sortK ds)) → Q v H') → wpAny (model X.prog X.w) X.A (PySem.call (.builtin "sorted") us) (EP X pins σ Q) X.xe s := by
    intro n m h fin
    have hx := h
    unfold tupsOk at hx
    simp only [Bool.and_eq_true, Bool.or_eq_true, List.all_eq_true, decide_eq_true_eq] at hx
    obtain ⟨a1, a2, a3⟩ := hx
    have hl : ∀ d ∈ ds, ∃ n, tlen d = some n := fun d hd => ⟨n, (a1 d hd).1⟩
    refine cr_sortK pins s σ H _ us Q I r ⟨p, ws, vkey H, n - m, m, rfl, SqL.of h1, fun x hx => ?_, a2, ?_, fun ys l pm ps hn => ?_⟩
    · obtain ⟨d, hd, rx⟩ := q.mem hx
      obtain ⟨b1, b2⟩ := a1 d hd
      obtain ⟨t, xs, rfl, c1, c2, c3, c4⟩ := vkey_rp eg rx b1
      obtain ⟨rr, e1, e2⟩ := vInts_split xs
      rw [c4] at e1 e2
      refine ⟨⟨t, rr, rfl, ?_, by rw [e2, c2, b2]⟩, by rw [c3, b2]⟩
      rw [c3, ← e1]
      exact SqT.of c1
    · rcases a3 with a3 | a3
      · left; omega
      · right
        have := key_map eg q hl
        rw [← this] at a3
        exact nodup_inj a3
    · obtain ⟨es, pe, qe⟩ := q.perm pm
      have se : SrtK es := srtK_of eg qe (fun d hd => hl d (pe.mem_iff.mp hd)) ps
      have ee : es = sortK ds := srtK_eq (pe.trans (sortK_perm ds).symm) se (sortK_sorted ds) fun x hx y hy => tupsOk_inj h x (pe.mem_iff.mp hx) y (pe.mem_iff.mp hy)
      rw [← ee] at fin
      exact fin _ _ _ (Step.alloc eg hn) (.lst upd_same (qe.ext (same_upd (eg.free hn))))
  cases ds with
  | nil =>
    have o : Out rhE W cl σ' G H (.ok (.list [])) Q := o
    cases q
    refine cr_sortK pins s σ H _ us Q I r ⟨p, [], fun _ => [], 0, 1, rfl, SqL.of h1, (fun x hx => nomatch hx), by omega, .inl rfl, fun ys l pm ps hn => ?_⟩
    cases List.perm_nil.mp pm
    exact o.ok (Step.alloc eg hn) (.lst upd_same .nil)
  | cons d ds =>
    simp only [sortD] at o
    split at o
    · rename_i h
      exact gen _ _ h fun v G' H' st rr => o v G' H' st rr
    · exact False.elim o
end M

set_option Elab.async false
set_option linter.all false
set_option maxRecDepth 100000
set_option maxHeartbeats 4000000
namespace M
open PySem PySem.Spec L2
open PyProof.Rows hiding St
/-! ### built-in functions and methods -/
section
variable {G H : Hp}
theorem RpL.ints : ∀ {vs : List V} {ds : List D} {ns : List Int}, RpL G vs ds → intsOf ds = some ns → vs = ns.map V.int
  | _, _, ns, .nil, h => by simp [intsOf] at h; subst h; rfl
  | _, _, ns, .cons (d := d) (ds := ds) r t, h => by
    cases d <;> first | (simp [intsOf] at h; done) | skip
    simp only [intsOf] at h
    cases hi : intsOf ds with
    | none => rw [hi] at h; cases h
    | some ms =>
      rw [hi] at h
      simp only [Option.map_some, Option.some.injEq] at h
      subst h
      cases r
      rw [RpL.ints t hi]; rfl
theorem rp_ints : ∀ ns : List Int, RpL G (ns.map V.int) (ns.map PyData.int)
  | [] => .nil
  | n :: ns => .cons (.int n) (rp_ints ns)
theorem RpL.texts : ∀ {vs : List V} {ds : List D} {ns : List Str}, RpL G vs ds → strsOf ds = some ns → vs = ns.map V.str
  | _, _, ns, .nil, h => by simp [strsOf] at h; subst h; rfl
  | _, _, ns, .cons (d := d) (ds := ds) r t, h => by
    cases d <;> first | (simp [strsOf] at h; done) | skip
    simp only [strsOf] at h
    cases hi : strsOf ds with
    | none => rw [hi] at h; cases h
    | some ms =>
      rw [hi] at h
      simp only [Option.map_some, Option.some.injEq] at h
      subst h
      cases r
      rw [RpL.texts t hi]; rfl
theorem rp_texts : ∀ ns : List Str, RpL G (ns.map V.str) (ns.map PyData.str)
  | [] => .nil
  | n :: ns => .cons (.str n) (rp_texts ns)
end
theorem insI_perm (x : Int) : ∀ ys : List Int, (insI x ys).Perm (x :: ys)
  | [] => .refl _
  | y :: ys => by
    unfold insI
    split
    · exact .refl _
    · exact ((insI_perm x ys).cons y).trans (.swap x y ys)
theorem sortI_perm : ∀ xs : List Int, (sortI xs).Perm xs
  | [] => .refl _
  | x :: xs => (insI_perm x (sortI xs)).trans ((sortI_perm xs).cons x)
theorem insI_sorted (x : Int) : ∀ {ys : List Int}, ys.Pairwise (· ≤ ·) → (insI x ys).Pairwise (· ≤ ·)
  | [], _ => by simp [insI]
  | y :: ys, h => by
    unfold insI
    rw [List.pairwise_cons] at h
    split
    · rename_i hxy
      rw [List.pairwise_cons, List.pairwise_cons]
      refine ⟨fun z hz => ?_, h⟩
      rcases List.mem_cons.mp hz with rfl | hz
      · exact hxy
      · exact Int.le_trans hxy (h.1 z hz)
    · rename_i hxy
      rw [List.pairwise_cons]
      refine ⟨fun z hz => ?_, insI_sorted x h.2⟩
      rcases List.mem_cons.mp ((insI_perm x ys).mem_iff.mp hz) with rfl | hz
      · omega
      · exact h.1 z hz
theorem sortI_sorted : ∀ xs : List Int, (sortI xs).Pairwise (· ≤ ·)
  | [] => .nil
  | x :: xs => insI_sorted x (sortI_sorted xs)
theorem sorted_eq : ∀ {a b : List Int}, a.Perm b → a.Pairwise (· ≤ ·) → b.Pairwise (· ≤ ·) → a = b
  | [], b, p, _, _ => by simpa using p
  | x :: a, [], p, _, _ => by simpa using p.length_eq
  | x :: a, y :: b, p, ha, hb => by
    rw [List.pairwise_cons] at ha hb
    have e : x = y := by
      have h1 : x ∈ y :: b := p.mem_iff.mp List.mem_cons_self
      have h2 : y ∈ x :: a := p.mem_iff.mpr List.mem_cons_self
      rcases List.mem_cons.mp h1 with h1 | h1
      · exact h1
      · rcases List.mem_cons.mp h2 with h2 | h2
        · exact h2.symm
        · have := ha.1 y h2
          have := hb.1 x h1
          omega
    subst e
    rw [sorted_eq p.cons_inv ha.2 hb.2]
theorem foldl_least : ∀ (xs : List Int) (x : Int), (xs.foldl (fun a b => if b < a then b else a) x) ∈ x :: xs ∧ ∀ y ∈ x :: xs, (xs.foldl (fun a b => if b < a then b else a) x) ≤ y
  | [], x => by simp
  | z :: xs, x => by
    obtain ⟨h1, h2⟩ := foldl_least xs (if z < x then z else x)
    rw [List.foldl_cons]
    refine ⟨?_, fun y hy => ?_⟩
    · rcases List.mem_cons.mp h1 with h | h
      · rw [h]; split <;> simp
      · simp [h]
    · have hm := h2 _ List.mem_cons_self
      have hk : (if z < x then z else x) ≤ x ∧ (if z < x then z else x) ≤ z := by split <;> omega
      rcases List.mem_cons.mp hy with rfl | hy
      · exact Int.le_trans hm hk.1
      · rcases List.mem_cons.mp hy with rfl | hy
        · exact Int.le_trans hm hk.2
        · exact h2 y (List.mem_cons_of_mem _ hy)
theorem least_uniq {ns : List Int} {m n : Int} (h : leastI ns = some m) (hn : n ∈ ns) (hle : ∀ y ∈ ns, n ≤ y) : n = m := by
  cases ns with
  | nil => cases h
  | cons x xs =>
    simp only [leastI, Option.some.injEq] at h
    obtain ⟨h1, h2⟩ := foldl_least xs x
    rw [h] at h1 h2
    have := h2 n hn
    have := hle m h1
    omega
/-- a built-in by its meaning -/
def rB (φ : List D → R D) : List V → Hp → VK → Prop := fun vs H Q => ∃ G ds W cl σ, Same G H ∧ Paired (Rq G H) vs ds ∧ Out rhE W cl σ G H (φ ds) Q
section
variable {X : Cx}
theorem one_of {G H : Hp} {vs : List V} {d : D} (h : Paired (Rq G H) vs [d]) : ∃ v, vs = [v] ∧ Rq G H v d := by
  cases h with
  | cons r t => cases t; exact ⟨_, rfl, r⟩
theorem two_of {G H : Hp} {vs : List V} {d e : D} (h : Paired (Rq G H) vs [d, e]) : ∃ v u, vs = [v, u] ∧ Rq G H v d ∧ Rq G H u e := by
  cases h with
  | cons r t => cases t with
    | cons r' t => cases t; exact ⟨_, _, rfl, r, r'⟩
theorem b_len : CallR X (.builtin "len") (rB (biD .len)) := by
  intro pins s σ H vs us Q I r h
  obtain ⟨G, ds, W, cl, σ', eg, q, o⟩ := h
  unfold biD at o
  split at o <;> first | exact False.elim o | skip
  all_goals (rename_i e; first | (cases e; done) | skip)
  · obtain ⟨v, rfl, q1⟩ := one_of q
    obtain ⟨p, ws, rfl, h1, q2⟩ := q1.list eg
    exact call_len pins s σ H _ us Q I r ⟨_, _, rfl, .inl ⟨ws, SqL.of h1, q2.len.symm⟩, o.ok (Step.refl eg) (.int _)⟩
  · obtain ⟨v, rfl, q1⟩ := one_of q
    obtain ⟨p, ws, rfl, g1, h1, q2⟩ := q1.tuple eg
    exact call_len pins s σ H _ us Q I r ⟨_, _, rfl, .inr ⟨ws, SqT.of h1, q2.len.symm⟩, o.ok (Step.refl eg) (.int _)⟩
  · split at o
    · rename_i hl
      obtain ⟨v, rfl, q1⟩ := one_of q
      cases q1.str
      exact call_len pins s σ H _ us Q I r ⟨_, _, rfl, ⟨Nat.le_trans hl lim_le, rfl⟩, o.ok (Step.refl eg) (.int _)⟩
    · exact False.elim o
  · obtain ⟨v, rfl, q1⟩ := one_of q
    obtain ⟨p, ns, ob, rfl, h1, rfl⟩ := q1.scr eg
    exact call_len pins s σ H _ us Q I r ⟨_, _, rfl, .inl ⟨_, .inl (.inr ⟨ob, h1⟩), by simp⟩, o.ok (Step.refl eg) (.int _)⟩
theorem b_toInt : CallR X (.type "int") (rB (biD .toInt)) := by
  intro pins s σ H vs us Q I r h
  obtain ⟨G, ds, W, cl, σ', eg, q, o⟩ := h
  unfold biD at o
  split at o <;> first | exact False.elim o | skip
  all_goals (rename_i e; first | (cases e; done) | skip)
  · obtain ⟨v, rfl, q1⟩ := one_of q
    cases q1.bl
    exact call_int1 pins s σ H _ us Q I r (.inr ⟨_, rfl, o.ok (Step.refl eg) (.int _)⟩)
  · obtain ⟨v, rfl, q1⟩ := one_of q
    cases q1.int
    exact call_int1 pins s σ H _ us Q I r (.inl ⟨_, rfl, o.ok (Step.refl eg) (.int _)⟩)
theorem b_tuple : CallR X (.type "tuple") (rB (biD .tuple)) := by
  intro pins s σ H vs us Q I r h
  obtain ⟨G, ds, W, cl, σ', eg, q, o⟩ := h
  unfold biD at o
  split at o <;> first | exact False.elim o | skip
  all_goals (rename_i e; first | (cases e; done) | skip)
  · obtain ⟨v, rfl, q1⟩ := one_of q
    obtain ⟨p, ws, rfl, h1, q2⟩ := q1.list eg
    exact call_tuple_of pins s σ H _ us Q I r ⟨p, ws, rfl, .inl ⟨SqL.of h1, fun l hn => o.ok (Step.alloc eg hn) (.tup upd_same (q2.ext (same_upd (eg.free hn))))⟩⟩
  · obtain ⟨v, rfl, q1⟩ := one_of q
    obtain ⟨p, ws, rfl, g1, h1, q2⟩ := q1.tuple eg
    exact call_tuple_of pins s σ H _ us Q I r ⟨p, ws, rfl, .inr ⟨SqT.of h1, o.ok (Step.refl eg) (.tup g1 q2)⟩⟩
theorem b_list : CallR X (.type "list") (rB (biD .list)) := by
  intro pins s σ H vs us Q I r h
  obtain ⟨G, ds, W, cl, σ', eg, q, o⟩ := h
  unfold biD at o
  split at o <;> first | exact False.elim o | skip
  all_goals (rename_i e; first | (cases e; done) | skip)
  · obtain ⟨v, rfl, q1⟩ := one_of q
    obtain ⟨p, ws, rfl, h1, q2⟩ := q1.list eg
    exact call_list_of pins s σ H _ us Q I r ⟨p, ws, rfl, .inl (SqL.of h1), fun l hn => o.ok (Step.alloc eg hn) (.lst upd_same (q2.ext (same_upd (eg.free hn))))⟩
  · obtain ⟨v, rfl, q1⟩ := one_of q
    obtain ⟨p, ws, rfl, g1, h1, q2⟩ := q1.tuple eg
    exact call_list_of pins s σ H _ us Q I r ⟨p, ws, rfl, .inr (SqT.of h1), fun l hn => o.ok (Step.alloc eg hn) (.lst upd_same (q2.ext (same_upd (eg.free hn))))⟩
theorem b_sum (hc : X.calm = true) : CallR X (.builtin "sum") (rB (biD .sum)) := by
  intro pins s σ H vs us Q I r h
  obtain ⟨G, ds, W, cl, σ', eg, q, o⟩ := h
  unfold biD at o
  split at o <;> first | exact False.elim o | skip
  all_goals (rename_i e; first | (cases e; done) | skip)
  split at o
  · rename_i ns hn
    obtain ⟨v, rfl, q1⟩ := one_of q
    obtain ⟨p, ws, rfl, h1, q2⟩ := q1.list eg
    cases q2.ints hn
    exact cr_sum hc pins s σ H _ us Q I r ⟨p, ns, rfl, SqL.of h1, o.ok (Step.refl eg) (.int _)⟩
  · exact False.elim o
theorem b_sorted : CallR X (.builtin "sorted") (rB (biD .sorted)) := by
  intro pins s σ H vs us Q I r h
  obtain ⟨G, ds, W, cl, σ', eg, q, o⟩ := h
  unfold biD at o
  split at o <;> first | exact False.elim o | skip
  all_goals (rename_i e; first | (cases e; done) | skip)
  split at o
  · rename_i ns hn
    obtain ⟨v, rfl, q1⟩ := one_of q
    obtain ⟨p, ws, rfl, h1, q2⟩ := q1.list eg
    cases q2.ints hn
    refine cr_sortedI pins s σ H _ us Q I r ⟨p, ns, rfl, SqL.of h1, fun ns' l pm ps hl => ?_⟩
    have e : ns' = sortI ns := sorted_eq (pm.trans (sortI_perm ns).symm) ps (sortI_sorted ns)
    rw [e]
    exact o.ok (Step.alloc eg hl) (.lst upd_same (rp_ints _))
  · obtain ⟨v, rfl, q1⟩ := one_of q
    obtain ⟨p, ws, rfl, h1, q2⟩ := q1.list eg
    exact b_sortT I eg h1 q2 r o
theorem b_min (hc : X.calm = true) : CallR X (.builtin "min") (rB (biD .min)) := by
  intro pins s σ H vs us Q I r h
  obtain ⟨G, ds, W, cl, σ', eg, q, o⟩ := h
  unfold biD at o
  split at o <;> first | exact False.elim o | skip
  all_goals (rename_i e; first | (cases e; done) | skip)
  · split at o
    · rename_i ns hn
      split at o
      · rename_i m hm
        obtain ⟨v, rfl, q1⟩ := one_of q
        obtain ⟨p, ws, rfl, h1, q2⟩ := q1.list eg
        cases q2.ints hn
        refine cr_min hc pins s σ H _ us Q I r ⟨p, ns, rfl, SqL.of h1, ?_, fun n h1 h2 => ?_⟩
        · cases ns with
          | nil => cases hm
          | cons _ _ => simp
        · rw [least_uniq hm h1 h2]
          exact o.ok (Step.refl eg) (.int _)
      · exact False.elim o
    · exact False.elim o
  · obtain ⟨v, u, rfl, q1, q2⟩ := two_of q
    cases q1.int; cases q2.int
    exact call_min2 hc pins s σ H _ us Q I r ⟨_, _, rfl, o.ok (Step.refl eg) (.int _)⟩
theorem b_max (hc : X.calm = true) : CallR X (.builtin "max") (rB (biD .max)) := by
  intro pins s σ H vs us Q I r h
  obtain ⟨G, ds, W, cl, σ', eg, q, o⟩ := h
  unfold biD at o
  split at o <;> first | exact False.elim o | skip
  all_goals (rename_i e; first | (cases e; done) | skip)
  obtain ⟨v, u, rfl, q1, q2⟩ := two_of q
  cases q1.int; cases q2.int
  exact call_max2 hc pins s σ H _ us Q I r ⟨_, _, rfl, o.ok (Step.refl eg) (.int _)⟩
def Bi.name : Bi → Str
  | .len => "len"
  | .toInt => "int"
  | .tuple => "tuple"
  | .list => "list"
  | .sum => "sum"
  | .sorted => "sorted"
  | .min => "min"
  | .max => "max"
variable {W : WX} {cl : Nat → Value} {a b c e : Expr} {es rest : List Expr} {f g k : Env → R D} {fs : Env → R (List D)} {pos : Pos}
theorem t_bi {φ : List D → R D} {σ : St} {H : Hp} {Q : VK} (h : tE W cl (fun env => do let xs ← fs env; φ xs) σ H Q) : tCB (rB φ) (tX rhQL W cl fs) σ H Q :=
  tX.mono (tX.bind (ρ := rhQL) h) fun vs H1 ⟨H0, G, env, xs, rel, q1, o⟩ => ⟨G, xs, W, cl, σ, rel.gh, q1, o⟩
theorem p_bi (bi : Bi) {p : Pos} (hc : X.calm = true) (hg : Gl X bi.name) (hm : X.mg bi.name = none) (hn : (e :: es).all nst = true) (ha : PA X (e :: es) (tX rhQL W cl fs)) :
    PE X (.Call (.Name bi.name p) (e :: es) [] pos) (tE W cl fun env => do let xs ← fs env; biD bi xs) := by
  have h1 : nst e = true ∧ es.all nst = true := by simpa using hn
  have s1 := starEach_cons h1.1 es X.env
  have s2 := star_any h1.2 X.env pos
  cases bi with
  | len => exact PE.mono (pe_callB b_len hg hm boot_len ha (by decide) (by decide) s1 s2) fun σ H Q h => t_bi h
  | toInt => exact PE.mono (pe_callTy b_toInt hg hm (by decide +kernel) ha (by decide) (by decide) s1 s2) fun σ H Q h => t_bi h
  | tuple => exact PE.mono (pe_callTy b_tuple hg hm (by decide +kernel) ha (by decide) (by decide) s1 s2) fun σ H Q h => t_bi h
  | list => exact PE.mono (pe_callTy b_list hg hm (by decide +kernel) ha (by decide) (by decide) s1 s2) fun σ H Q h => t_bi h
  | sum => exact PE.mono (pe_callB (b_sum hc) hg hm (by decide +kernel) ha (by decide) (by decide) s1 s2) fun σ H Q h => t_bi h
  | sorted => exact PE.mono (pe_callB b_sorted hg hm (by decide +kernel) ha (by decide) (by decide) s1 s2) fun σ H Q h => t_bi h
  | min => exact PE.mono (pe_callB (b_min hc) hg hm (by decide +kernel) ha (by decide) (by decide) s1 s2) fun σ H Q h => t_bi h
  | max => exact PE.mono (pe_callB (b_max hc) hg hm (by decide +kernel) ha (by decide) (by decide) s1 s2) fun σ H Q h => t_bi h
/-! isinstance -/
def Ty.name : Ty → Str
  | .int => "int"
  | .bool => "bool"
  | .str => "str"
  | .tuple => "tuple"
  | .list => "list"
def Ty.s : Ty → String
  | .int => "int"
  | .bool => "bool"
  | .str => "str"
  | .tuple => "tuple"
  | .list => "list"
def tyS : D → String
  | .none => "NoneType"
  | .bool _ => "bool"
  | .int _ => "int"
  | .str _ => "str"
  | .list _ => "list"
  | .tuple _ => "tuple"
  | .dict _ => "list"
theorem ty_of {K : PySem.W.Frag} {G H : Hp} {v : V} {d : D} (eg : Same G H) (q : Rq G H v d) : TyOf K H v (.type (tyS d)) := by
  cases d with
  | none => cases q.non; exact .non
  | bool b => cases q.bl; exact .bl b
  | int b => cases q.int; exact .int b
  | str b => cases q.str; exact .str b
  | list ds => obtain ⟨p, ws, rfl, h1, q2⟩ := q.list eg; exact .lst h1
  | tuple ds => obtain ⟨p, ws, rfl, g1, h1, q2⟩ := q.tuple eg; exact .tup h1
  | dict kvs => obtain ⟨p, ns, ob, rfl, h1, _⟩ := q.scr eg; exact .frz h1
theorem isT_kit (t : Ty) (d : D) (k : Bool) (h : isT t d = .ok k) : kitB (tyS d) t.s = some k := by
  cases t <;> cases d <;> first | (cases h; done) | (cases h; simp only [tyS, Ty.s]; decide +kernel)
theorem p_isi (t : Ty) {p p2 : Pos} (hg : Gl X "isinstance") (hm : X.mg "isinstance" = none) (hg2 : Gl X t.name) (hm2 : X.mg t.name = none) (hn : nst a = true) (ha : PE X a (tX rhQ W cl f)) :
    PE X (.Call (.Name "isinstance" p) [a, .Name t.name p2] [] pos) (tE W cl fun env => do
      let x ← f env
      let c ← isT t x
      pure (.bool c)) := by
  have hb : PE X (.Name t.name p2) (tC (.ty t.s)) := by
    cases t <;> exact pe_bltn (u := .type _) hg2 hm2 (by decide +kernel) rfl (by decide) (by decide)
  have hPA : PA X [a, .Name t.name p2] (tCons (tX rhQ W cl f) (tCons (tC (.ty t.s)) tNil)) := pa_cons ha (pa_cons hb pa_nil rfl) (starEach_cons hn _ _)
  refine PE.mono (pe_callB call_isi hg hm boot_isinstance hPA (by decide) (by decide) (starEach_cons hn _ _) rfl) fun σ H Q h => tX.mono (tX.bind (ρ := rhQ) h) fun v H1 ⟨H0, G, env, x, rel, q1, o⟩ => ?_
  cases hx : isT t x with
  | exc c => cases t <;> cases x <;> cases hx
  | bad => rw [hx] at o; exact False.elim o
  | ok k =>
    rw [hx] at o
    exact ⟨v, .ty t.s, .type (tyS x), .type t.s, k, rfl, .ty _, .base (ty_of rel.gh q1), kit_ty (isT_kit t x k hx), o.ok (Step.refl rel.gh) (.bl _)⟩
/-! methods of texts -/
def Mt.name : Mt → Str
  | .find => "find"
  | .count => "count"
  | .rfind => "rfind"
  | .split => "split"
  | .join => "join"
  | .lcount => "count"
  | .lindex => "index"
def rM (φ : D → List D → R D) : V → List V → Hp → VK → Prop := fun x vs H Q => ∃ G d ds W cl σ, Same G H ∧ Rq G H x d ∧ Paired (Rq G H) vs ds ∧ Out rhE W cl σ G H (φ d ds) Q
theorem m_find : MtR X "str.find" (rM (mtD .find)) := by
  intro pins s σ H x vs v us Q I rx r h
  obtain ⟨G, d, ds, W, cl, σ', eg, q, qs, o⟩ := h
  unfold mtD at o
  split at o <;> first | exact False.elim o | skip
  all_goals (rename_i e; first | (cases e; done) | skip)
  split at o
  · obtain ⟨w, rfl, q1⟩ := one_of qs
    cases q.str; cases q1.str
    exact mt_find pins s σ H _ _ v us Q I rx r ⟨_, _, rfl, rfl, o.ok (Step.refl eg) (.int _)⟩
  · exact False.elim o
theorem m_count : MtR X "str.count" (rM (mtD .count)) := by
  intro pins s σ H x vs v us Q I rx r h
  obtain ⟨G, d, ds, W, cl, σ', eg, q, qs, o⟩ := h
  unfold mtD at o
  split at o <;> first | exact False.elim o | skip
  all_goals (rename_i e; first | (cases e; done) | skip)
  split at o
  · obtain ⟨w, rfl, q1⟩ := one_of qs
    cases q.str; cases q1.str
    exact mt_count pins s σ H _ _ v us Q I rx r ⟨_, _, rfl, rfl, o.ok (Step.refl eg) (.int _)⟩
  · exact False.elim o
theorem m_rfind : MtR X "str.rfind" (rM (mtD .rfind)) := by
  intro pins s σ H x vs v us Q I rx r h
  obtain ⟨G, d, ds, W, cl, σ', eg, q, qs, o⟩ := h
  unfold mtD at o
  split at o <;> first | exact False.elim o | skip
  all_goals (rename_i e; first | (cases e; done) | skip)
  split at o
  · obtain ⟨w, rfl, q1⟩ := one_of qs
    cases q.str; cases q1.str
    exact mt_rfind pins s σ H _ _ v us Q I rx r ⟨_, _, rfl, rfl, o.ok (Step.refl eg) (.int _)⟩
  · exact False.elim o
theorem m_split : MtR X "str.split" (rM (mtD .split)) := by
  intro pins s σ H x vs v us Q I rx r h
  obtain ⟨G, d, ds, W, cl, σ', eg, q, qs, o⟩ := h
  unfold mtD at o
  split at o <;> first | exact False.elim o | skip
  all_goals (rename_i e; first | (cases e; done) | skip)
  split at o
  · rename_i hl
    simp only [Bool.and_eq_true, decide_eq_true_eq, Bool.not_eq_true'] at hl
    obtain ⟨w, rfl, q1⟩ := one_of qs
    cases q.str; cases q1.str
    refine mt_split pins s σ H _ _ v us Q I rx r ⟨_, _, rfl, rfl, hl.2, ?_, fun p hn => ?_⟩
    · have := hl.1
      have h2 : lim = 100000 := rfl
      rw [sizeLine_eq]; omega
    · have z := o.ok (Step.alloc eg hn) (.lst upd_same (rp_texts _))
      exact z
  · exact False.elim o
theorem m_join : MtR X "str.join" (rM (mtD .join)) := by
  intro pins s σ H x vs v us Q I rx r h
  obtain ⟨G, d, ds, W, cl, σ', eg, q, qs, o⟩ := h
  unfold mtD at o
  split at o <;> first | exact False.elim o | skip
  all_goals (rename_i e; first | (cases e; done) | skip)
  split at o
  · rename_i ys hy
    split at o
    · rename_i hl
      obtain ⟨w, rfl, q1⟩ := one_of qs
      cases q.str
      obtain ⟨p, ws, rfl, h1, q2⟩ := q1.list eg
      cases q2.texts hy
      exact mt_join pins s σ H _ _ v us Q I rx r ⟨_, p, ys, rfl, rfl, .inl (SqL.of h1), Nat.le_trans hl (by decide), o.ok (Step.refl eg) (.str _)⟩
    · exact False.elim o
  · exact False.elim o
theorem p_mt (m : Mt) (hl : m ≠ .lcount) (hl2 : m ≠ .lindex) {ap : Pos} (hline : (ap.endLine == pos.line) = true) (hbase : plbase a = true) (hn : nst b = true) (ha : PE X a (tX rhQ W cl f)) (hb : PA X [b] (tX rhQL W cl fs)) :
    PE X (.Call (.Attribute a m.name ap) [b] [] pos) (tE W cl fun env => do
      let x ← f env
      if mtTy m x then do
        let xs ← fs env
        mtD m x xs
      else .bad) := by
  have s1 := starEach_cons hn [] X.env
  have few : ((backTo pos (starEach [b] X.env)).all (fun x => !x.1) && (backToKw pos (keywordEach [] X.env)).all (fun x => x.1.isSome)
      && decide ([b].length + ([] : List Keyword).length + (if ([] : List Keyword).isEmpty then 0 else 1) < 30)) = true := by
    rw [star_all (es := [b]) (by simpa using hn)]; rfl
  have fin : ∀ σ H Q, tE W cl (fun env => do
      let x ← f env
      if mtTy m x then do
        let xs ← fs env
        mtD m x xs
      else .bad) σ H Q → tBM X.K "str" (rM (mtD m)) (tX rhQ W cl f) (tX rhQL W cl fs) σ H Q := fun σ H Q h => tX.mono (tX.bind (ρ := rhQ) h) fun v H1 ⟨H0, G, env, x, rel, q1, o⟩ => by
    split at o
    · rename_i hty
      have key : Out rhQL W cl σ G H1 (fs env) (fun vs H2 => rM (mtD m) v vs H2 Q) := (Out.bind (ρ := rhQL) o).mono fun vs H2 ⟨xs, G2, st, q2, o2⟩ => ⟨G2, x, xs, W, cl, σ, st.gh, Rq.step q1 st, q2, o2⟩
      have hx : ∃ z, x = .str z := by
        cases m <;> cases x <;> first | exact ⟨_, rfl⟩ | (cases hty; done) | exact absurd rfl hl | exact absurd rfl hl2
      obtain ⟨z, rfl⟩ := hx
      cases q1.str
      exact ⟨rfl, H0, G, env, rel, key⟩
    · exact False.elim o
  have hb0 := plbase_ok hbase m.name X.env (eval a X.env)
  cases m with
  | find => exact PE.mono (pe_bm F.plainAttrs_str F.slot_str_find F.type_str_find m_find ha hb hb0 few hline s1 rfl) fin
  | count => exact PE.mono (pe_bm F.plainAttrs_str F.slot_str_count F.type_str_count m_count ha hb hb0 few hline s1 rfl) fin
  | rfind => exact PE.mono (pe_bm F.plainAttrs_str F.slot_str_rfind F.type_str_rfind m_rfind ha hb hb0 few hline s1 rfl) fin
  | split => exact PE.mono (pe_bm F.plainAttrs_str F.slot_str_split F.type_str_split m_split ha hb hb0 few hline s1 rfl) fin
  | join => exact PE.mono (pe_bm F.plainAttrs_str F.slot_str_join F.type_str_join m_join ha hb hb0 few hline s1 rfl) fin
  | lcount => exact absurd rfl hl
  | lindex => exact absurd rfl hl2
/-! methods of lists -/
theorem mt_countD (hu : X.A.units + 65 < cLine) : MtR X "list.count" (fun x xs H Q => ∃ (a : Addr) (y : V) (d : PyData) (ds : List PyData), x = V.ref a ∧ xs = [y] ∧ Dp X.K H (V.ref a) (.list ds) ∧ Dp X.K H y d ∧
    SeqAt.shaped (.list ds) = true ∧ SeqAt.shaped d = true ∧ Q (.int (ds.countP (fun z => PyData.eqv z d) : Nat)) H) := by
  intro pins s σ H x xs v us Q I rx rxs h
  obtain ⟨a, y, d, ds, rfl, rfl, hl, hy, sl, sd, q⟩ := h
  cases rx
  cases rxs with
  | cons ry rt =>
    rename_i uy ut
    cases rt
    obtain ⟨bs, r1⟩ := Dp.reads I d y uy hy ry
    have hxs : PyData.canLayAll0 ds = true := SeqAt.canLay_of_shaped sl
    have hroom : X.A.units + 1 + min (PyData.depthAll ds) d.depth < cLine := room_in_shaped sd hu
    cases hl with
    | lst hs ha =>
      obtain ⟨its, rv, ⟨⟨cls, dd, data, sls⟩, n, ho, hc, hdn, hdt⟩, hlen⟩ := I.list hs
      simp only at hc hdt
      subst hc hdt
      obtain ⟨as, h4⟩ := Dp.readsAll I ds _ its ha rv
      have hmap : its.map (SeqAt.readOf s.heap) = ds := SeqAt.readsAll_map ds its as hxs h4
      refine call_meets PySem.F.slot_list_count ⟨_, ho, rfl⟩ PySem.F.entry_list_count (PySem.F.args_list_count_2 _ _)
        (SeqAt.list_countAt a its.toArray n dd sls uy (fun u => PyData.eqv (SeqAt.readOf s.heap u) d)) ⟨ho, SeqAt.items_eqAt (vs := its.toArray) (show ReadsAll s.heap its.toArray.toList ds as from h4) r1 hxs (SeqAt.canLay_of_shaped sd) hroom, ?_⟩
      have ec : its.toArray.toList.countP (fun u => PyData.eqv (SeqAt.readOf s.heap u) d) = ds.countP fun z => PyData.eqv z d := by
        rw [← hmap, List.countP_map]; rfl
      refine ⟨.int (ds.countP (fun z => PyData.eqv z d) : Nat), H, I.tok _, ⟨s.toks, ?_⟩, q⟩
      show Value.int ((its.toArray.toList.countP (fun u => PyData.eqv (SeqAt.readOf s.heap u) d) : Nat) : Int) s.toks = Value.int ((ds.countP (fun z => PyData.eqv z d) : Nat) : Int) s.toks
      rw [ec]
theorem m_lcount (hu : X.A.units + 65 < cLine) : MtR X "list.count" (rM (mtD .lcount)) := by
  intro pins s σ H x vs v us Q I rx r h
  obtain ⟨G, d, ds, W, cl, σ', eg, q, qs, o⟩ := h
  unfold mtD at o
  split at o <;> first | exact False.elim o | skip
  all_goals (rename_i e; first | (cases e; done) | skip)
  split at o
  · rename_i hs
    obtain ⟨s1, s2⟩ := Bool.and_eq_true_iff.mp hs
    obtain ⟨w, rfl, q1⟩ := one_of qs
    have q0 := q
    obtain ⟨p, ws, rfl, h1, q2⟩ := q.list eg
    exact mt_countD hu pins s σ H _ _ v us Q I rx r ⟨p, w, _, _, rfl, rfl, q0.dp eg (sh0 s1), q1.dp eg (sh0 s2), s1, s2, o.ok (Step.refl eg) (.int _)⟩
  · exact False.elim o
theorem m_lindex (hu : X.A.units + 65 < cLine) : MtR X "list.index" (rM (mtD .lindex)) := by
  intro pins s σ H x vs v us Q I rx r h
  obtain ⟨G, d, ds, W, cl, σ', eg, q, qs, o⟩ := h
  unfold mtD at o
  split at o <;> first | exact False.elim o | skip
  all_goals (rename_i e; first | (cases e; done) | skip)
  split at o
  · rename_i hs
    split at o
    · rename_i j hj
      obtain ⟨s1, s2⟩ := Bool.and_eq_true_iff.mp hs
      obtain ⟨w, rfl, q1⟩ := one_of qs
      have q0 := q
      obtain ⟨p, ws, rfl, h1, q2⟩ := q.list eg
      obtain ⟨hjl, hj1, hj2⟩ := List.findIdx?_eq_some_iff_getElem.mp hj
      refine mt_indexD hu pins s σ H _ _ v us Q I rx r ⟨p, w, _, _, j, _, rfl, rfl, q0.dp eg (sh0 s1), q1.dp eg (sh0 s2), s1, s2, List.getElem?_eq_getElem hjl, hj1, fun m z hm hz => ?_, o.ok (Step.refl eg) (.int _)⟩
      obtain ⟨hml, rfl⟩ := List.getElem?_eq_some_iff.mp hz
      simpa using hj2 m hm
    · exact False.elim o
  · exact False.elim o
theorem p_mtL (m : Mt) (hl : m = .lcount ∨ m = .lindex) (hu : X.A.units + 65 < cLine) {ap : Pos} (hline : (ap.endLine == pos.line) = true) (hbase : plbase a = true) (hn : nst b = true) (ha : PE X a (tX rhQ W cl f)) (hb : PA X [b] (tX rhQL W cl fs)) :
    PE X (.Call (.Attribute a m.name ap) [b] [] pos) (tE W cl fun env => do
      let x ← f env
      if mtTy m x then do
        let xs ← fs env
        mtD m x xs
      else .bad) := by
  have s1 := starEach_cons hn [] X.env
  have few : ((backTo pos (starEach [b] X.env)).all (fun x => !x.1) && (backToKw pos (keywordEach [] X.env)).all (fun x => x.1.isSome)
      && decide ([b].length + ([] : List Keyword).length + (if ([] : List Keyword).isEmpty then 0 else 1) < 30)) = true := by
    rw [star_all (es := [b]) (by simpa using hn)]; rfl
  have fin : ∀ σ H Q, tE W cl (fun env => do
      let x ← f env
      if mtTy m x then do
        let xs ← fs env
        mtD m x xs
      else .bad) σ H Q → tBM X.K "list" (rM (mtD m)) (tX rhQ W cl f) (tX rhQL W cl fs) σ H Q := fun σ H Q h => tX.mono (tX.bind (ρ := rhQ) h) fun v H1 ⟨H0, G, env, x, rel, q1, o⟩ => by
    split at o
    · rename_i hty
      have key : Out rhQL W cl σ G H1 (fs env) (fun vs H2 => rM (mtD m) v vs H2 Q) := (Out.bind (ρ := rhQL) o).mono fun vs H2 ⟨xs, G2, st, q2, o2⟩ => ⟨G2, x, xs, W, cl, σ, st.gh, Rq.step q1 st, q2, o2⟩
      have hx : ∃ z, x = .list z := by
        rcases hl with rfl | rfl <;> cases x <;> first | exact ⟨_, rfl⟩ | (cases hty; done)
      obtain ⟨z, rfl⟩ := hx
      obtain ⟨p, ws, rfl, h1, q2⟩ := q1.list rel.gh
      exact ⟨.inl ⟨rfl, ws, SqL.of h1⟩, H0, G, env, rel, key⟩
    · exact False.elim o
  have hb0 := plbase_ok hbase m.name X.env (eval a X.env)
  rcases hl with rfl | rfl
  · exact PE.mono (pe_bm F.plainAttrs_list F.slot_list_count F.type_list_count (m_lcount hu) ha hb hb0 few hline s1 rfl) fin
  · exact PE.mono (pe_bm F.plainAttrs_list F.slot_list_index F.type_list_index (m_lindex hu) ha hb hb0 few hline s1 rfl) fin
end
theorem RpL.map2 {α : Type} {G : Hp} {f : α → V} {g : α → D} (h : ∀ i, Rp G (f i) (g i)) : ∀ l : List α, RpL G (l.map f) (l.map g)
  | [] => .nil
  | x :: xs => .cons (h x) (RpL.map2 h xs)
theorem p_trng {X : Cx} {W : WX} {cl : Nat → Value} {a : Expr} {f : Env → R D} {p p2 pos pos2 : Pos} (hc : X.calm = true) (hg : Gl X "tuple") (hm : X.mg "tuple" = none) (hg2 : Gl X "range") (hm2 : X.mg "range" = none) (hn : nst a = true) (ha : PE X a (tE W cl f)) :
    PE X (.Call (.Name "tuple" p) [.Call (.Name "range" p2) [a] [] pos2] [] pos) (tE W cl fun env => do let x ← f env; trngD x) :=
  PE.mono (pe_tupRg hc hg hm (prg_1 hg2 hm2 ha (starEach_cons hn [] X.env)) (starEach_cons rfl [] X.env)) fun σ H Q h => tX.mono (tX.bind (ρ := rhE) h) fun v H1 ⟨H0, G, env, x, rel, q1, o⟩ => by
    cases q1 <;> first | exact False.elim o | skip
    simp only [trngD] at o
    split at o
    · rename_i hj
      simp only [Bool.and_eq_true, decide_eq_true_eq] at hj
      have hl : lim = 100000 := rfl
      rw [hl] at hj
      refine ⟨_, rfl, ⟨by omega, by omega, by omega, by omega, by omega⟩, fun q hn => o.ok (Step.alloc rel.gh hn) (.tup upd_same ?_)⟩
      unfold rgV
      rw [Int.sub_zero]
      exact RpL.map2 (fun i => by rw [Int.zero_add]; exact .int _) _
    · exact False.elim o
end M

set_option Elab.async false
set_option linter.all false
set_option maxRecDepth 100000
set_option maxHeartbeats 4000000
namespace M
open PySem PySem.Spec L2
open PyProof.Rows hiding St
/-! ### sorted(set(..)) of tuples of ints -/
theorem RpL.tups {G H : Hp} (e : Same G H) : ∀ {vs : List V} {ds : List D} {ts : List (List Int)}, RpL G vs ds → tupsOf ds = some ts → ∃ ks : List (Addr × List Int), vs = ks.map (fun p => V.ref p.1) ∧ ts = ks.map (·.2) ∧ ∀ p ∈ ks, G p.1 = some (.tup (p.2.map V.int))
  | _, _, ts, .nil, h => by
    simp only [tupsOf, Option.some.injEq] at h
    subst h
    exact ⟨[], rfl, rfl, fun p hp => by cases hp⟩
  | _, _, ts, .cons (d := d) (ds := ds) r t, h => by
    cases d <;> first | (simp [tupsOf] at h; done) | skip
    simp only [tupsOf] at h
    split at h
    · rename_i es ns rs h1 h2
      cases h
      obtain ⟨ks, e1, e2, e3⟩ := RpL.tups e t h2
      cases r with
      | tup ha ql =>
        rename_i a xs
        refine ⟨(a, ns) :: ks, by rw [e1]; rfl, by rw [e2]; rfl, fun p hp => ?_⟩
        rcases List.mem_cons.mp hp with rfl | hp
        · rw [ha, ql.ints h1]
        · exact e3 p hp
    · cases h
theorem insT_perm (x : List Int) : ∀ ys : List (List Int), (insT x ys).Perm (x :: ys)
  | [] => .refl _
  | y :: ys => by
    unfold insT
    split
    · exact .refl _
    · exact ((insT_perm x ys).cons y).trans (.swap x y ys)
theorem sortT_perm : ∀ xs : List (List Int), (sortT xs).Perm xs
  | [] => .refl _
  | x :: xs => (insT_perm x (sortT xs)).trans ((sortT_perm xs).cons x)
abbrev ltT (x y : List Int) : Bool := HT.lexLt x y
theorem ltT_swo : SrtO.Swo ltT := NtL.swo_lexL id
abbrev SrtT (xs : List (List Int)) : Prop := xs.Pairwise fun x y => HT.lexLt y x = false
theorem insT_sorted (x : List Int) : ∀ {ys : List (List Int)}, SrtT ys → SrtT (insT x ys)
  | [], _ => by simp [insT, SrtT]
  | y :: ys, h => by
    unfold insT
    have h := List.pairwise_cons.mp h
    split
    · rename_i hxy
      rw [lexLe_eq, Bool.not_eq_true'] at hxy
      refine List.pairwise_cons.mpr ⟨fun z hz => ?_, List.pairwise_cons.mpr h⟩
      rcases List.mem_cons.mp hz with rfl | hz
      · exact hxy
      · cases hc : HT.lexLt z x with
        | false => rfl
        | true =>
          have := ltT_swo.ltle (x := z) (y := x) (z := y) hc hxy
          rw [show ltT z y = HT.lexLt z y from rfl, h.1 z hz] at this
          cases this
    · rename_i hxy
      rw [lexLe_eq, Bool.not_eq_true', Bool.not_eq_false] at hxy
      refine List.pairwise_cons.mpr ⟨fun z hz => ?_, insT_sorted x h.2⟩
      rcases List.mem_cons.mp ((insT_perm x ys).mem_iff.mp hz) with rfl | hz
      · exact ltT_swo.asym _ _ hxy
      · exact h.1 z hz
theorem sortT_sorted : ∀ xs : List (List Int), SrtT (sortT xs)
  | [] => .nil
  | x :: xs => insT_sorted x (sortT_sorted xs)
theorem srtT_eq : ∀ {a b : List (List Int)}, a.Perm b → SrtT a → SrtT b → a = b
  | [], b, p, _, _ => by simpa using p
  | x :: a, [], p, _, _ => by simpa using p.length_eq
  | x :: a, y :: b, p, ha, hb => by
    have ha := List.pairwise_cons.mp ha
    have hb := List.pairwise_cons.mp hb
    have e : x = y := by
      have h1 : x ∈ y :: b := p.mem_iff.mp List.mem_cons_self
      have h2 : y ∈ x :: a := p.mem_iff.mpr List.mem_cons_self
      rcases List.mem_cons.mp h1 with h1 | h1
      · exact h1
      · rcases List.mem_cons.mp h2 with h2' | h2'
        · exact h2'.symm
        · exact lex_eq (hb.1 x h1) (ha.1 y h2')
    subst e
    rw [srtT_eq p.cons_inv ha.2 hb.2]
theorem code_lex {B : Int} : ∀ {a b : List Int}, a.length = b.length → TS.Bd B a → TS.Bd B b → HT.lexLt a b = true → TS.code B a < TS.code B b
  | [], [], _, _, _, h => by cases h
  | [], _ :: _, h, _, _, _ => by simp at h
  | _ :: _, [], h, _, _, _ => by simp at h
  | x :: xs, y :: ys, hl, ha, hb, h => by
    simp only [HT.lexLt] at h
    have hl' : xs.length = ys.length := by simpa using hl
    by_cases e : x = y
    · subst e
      simp only [if_true] at h
      exact (TS.code_same hl').mpr (code_lex hl' ha.tail hb.tail h)
    · simp only [e, if_false, decide_eq_true_eq] at h
      exact TS.code_lt hl' ha.tail hb.tail h
theorem nodup_perm {α : Type} [DecidableEq α] : ∀ {a b : List α}, a.Nodup → b.Nodup → (∀ x, x ∈ a ↔ x ∈ b) → a.Perm b
  | [], b, _, _, h => by
    cases b with
    | nil => exact .refl _
    | cons y b => exact absurd ((h y).mpr List.mem_cons_self) (by simp)
  | x :: a, b, ha, hb, h => by
    rw [List.nodup_cons] at ha
    have hx : x ∈ b := (h x).mp List.mem_cons_self
    have p : (x :: b.erase x).Perm b := (List.perm_cons_erase hx).symm
    refine List.Perm.trans (List.Perm.cons x (nodup_perm ha.2 (hb.erase x) fun y => ?_)) p
    constructor
    · intro hy
      have ne : y ≠ x := fun z => ha.1 (by rw [← z]; exact hy)
      exact (List.mem_erase_of_ne ne).mpr ((h y).mp (List.mem_cons_of_mem _ hy))
    · intro hy
      have ne : y ≠ x := fun z => by subst z; exact (List.Nodup.not_mem_erase hb) hy
      rcases List.mem_cons.mp ((h y).mpr (List.mem_of_mem_erase hy)) with z | z
      · exact absurd z ne
      · exact z
theorem rp_tups {G : Hp} : ∀ {ks : List (Addr × List Int)}, (∀ p ∈ ks, G p.1 = some (.tup (p.2.map V.int))) → RpL G (ks.map fun p => V.ref p.1) (ks.map fun p => .tuple (p.2.map .int))
  | [], _ => .nil
  | p :: ks, h => .cons (.tup (h p List.mem_cons_self) (rp_ints p.2)) (rp_tups fun q hq => h q (List.mem_cons_of_mem _ hq))
theorem eraseDups_mem {a : List (List Int)} {x : List Int} : x ∈ a.eraseDups ↔ x ∈ a := List.mem_eraseDups
theorem nodup_erD {α : Type} [BEq α] [LawfulBEq α] : ∀ (n : Nat) (l : List α), l.length ≤ n → l.eraseDups.Nodup
  | _, [], _ => by simp
  | 0, _ :: _, h => by simp at h
  | n + 1, a :: l, h => by
    rw [List.eraseDups_cons, List.nodup_cons]
    refine ⟨fun hm => ?_, nodup_erD n _ (Nat.le_trans (List.length_filter_le _ _) (by simpa using h))⟩
    have := (List.mem_filter.mp (List.mem_eraseDups.mp hm)).2
    simp at this
theorem p_sset {X : Cx} {W : WX} {cl : Nat → Value} {a : Expr} {f : Env → R D} {p p2 q pos : Pos} (hc : X.calm = true) (hu : X.A.units + 65 < cLine) (hg : Gl X "sorted") (hm : X.mg "sorted" = none) (hg2 : Gl X "set") (hm2 : X.mg "set" = none) (hn : nst a = true) (ha : PE X a (tX rhQ W cl f)) :
    PE X (.Call (.Name "sorted" p) [.Call (.Name "set" p2) [a] [] q] [] pos) (tE W cl fun env => do let x ← f env; ssetD x) := by
  have s1 := starEach_cons hn [] X.env
  refine PE.mono (pe_callB (Ts.cr_srt hc) hg hm (by decide +kernel) (pa_cons (pe_callTy (Ts.cr_set hc (by omega)) hg2 hm2 (by decide +kernel) (pa_cons ha pa_nil s1) (by decide) (by decide) s1 rfl) pa_nil rfl) (by decide) (by decide) rfl rfl) fun σ H Q h => tX.mono (tX.bind (ρ := rhQ) h) fun v H1 ⟨H0, G, env, x, rel, q1, o⟩ => ?_
  cases x <;> first | exact False.elim o | skip
  rename_i ds
  simp only [ssetD] at o
  split at o
  rotate_left
  · exact False.elim o
  rename_i ts hts
  split at o
  rotate_left
  · exact False.elim o
  rename_i hok
  simp only [Bool.and_eq_true, List.all_eq_true, decide_eq_true_eq] at hok
  obtain ⟨hlen, hall⟩ := hok
  obtain ⟨l, vs, rfl, hl, ql⟩ := q1.list rel.gh
  obtain ⟨ks, rfl, rfl, hk⟩ := ql.tups rel.gh hts
  have hkT : ∀ p ∈ ks, SqT X.K H1 p.1 (p.2.map V.int) := fun p hp => SqT.of (rel.gh _ _ (hk p hp))
  refine ⟨l, ks, rfl, SqL.of hl, hkT, by simpa using hlen, fun a1 L hn1 hL1 hL2 => ?_⟩
  have ne : ∀ {b : Addr} {u : HO}, H1 b = some u → b ≠ a1 := fun hb => ne_of_none hb hn1
  have hLk : ∀ p ∈ L, H1 p.1 = some (.tup (p.2.map V.int)) := fun p hp => rel.gh _ _ (hk p (hL1 p hp))
  refine ⟨a1, L, ((ks.map (·.2)).headD [0]).length, rfl, upd_same, fun p hp => SqT.of (by rw [upd_ne (ne (hLk p hp))]; exact hLk p hp), ?_, fun p hp => ?_, fun L' b pm nd pw hnb => ?_⟩
  · cases ks with
    | nil => simp
    | cons k ks =>
      have := (hall k.2 (by simp)).2
      simpa using this
  · exact (hall p.2 (List.mem_map.mpr ⟨p, hL1 p hp, rfl⟩)).1
  · have hb1 : b ≠ a1 := fun z => by rw [z, upd_same] at hnb; cases hnb
    have hnb1 : H1 b = none := by rw [upd_ne hb1] at hnb; exact hnb
    -- the order
    have srt : SrtT (L'.map (·.2)) := List.pairwise_map.mpr pw
    have pe : (L'.map (·.2)).Perm (ks.map (·.2)).eraseDups := by
      refine nodup_perm nd (nodup_erD _ _ (Nat.le_refl _)) fun x => ?_
      rw [eraseDups_mem]
      constructor
      · intro hx
        obtain ⟨y, hy, rfl⟩ := List.mem_map.mp hx
        exact List.mem_map.mpr ⟨y, hL1 y (pm.mem_iff.mp hy), rfl⟩
      · intro hx
        obtain ⟨y, hy, rfl⟩ := List.mem_map.mp hx
        obtain ⟨z, hz, e⟩ := List.mem_map.mp (hL2 y hy)
        exact List.mem_map.mpr ⟨z, pm.mem_iff.mpr hz, e⟩
    have es : L'.map (·.2) = sortT (ks.map (·.2)).eraseDups := srtT_eq (pe.trans (sortT_perm _).symm) srt (sortT_sorted _)
    rw [← es, List.map_map] at o
    have gL : ∀ p ∈ L', G p.1 = some (.tup (p.2.map V.int)) := fun p hp => hk p (hL1 p (pm.mem_iff.mp hp))
    have gb : G b = none := rel.gh.free hnb1
    refine o.ok (G' := upd G b (.lst (L'.map fun q => V.ref q.1))) ⟨same_upd gb, fun c u hc => ?_, fun c u hc => ?_, fun c u hc _ k => ?_⟩ (.lst upd_same (RpL.ext (same_upd gb) (rp_tups gL)))
    · by_cases e : c = b
      · subst e; rw [upd_same] at hc ⊢; exact hc
      · rw [upd_ne e] at hc ⊢
        rw [upd_ne (ne (rel.gh _ _ hc))]
        exact rel.gh _ _ hc
    · rw [upd_ne (ne_of_none hc hnb1), upd_ne (ne hc)]; exact hc
    · rw [upd_ne (ne_of_none hc hnb1)]; exact k
/-! ### dict(pairs).get(k, d) -/
theorem RpL.pairs {G : Hp} : ∀ {vs : List V} {ds : List D} {ps : List (Int × D)}, RpL G vs ds → pairsOf ds = some ps → ∃ (as : List Addr) (kvs : List (Key × V)), vs = as.map V.ref ∧ RpK G (Sum.inl : Int → Key) kvs ps ∧ Paired (fun p kv => G p = some (.tup [kV kv.1, kv.2])) as kvs
  | _, _, ps, .nil, h => by
    simp only [pairsOf, Option.some.injEq] at h
    subst h
    exact ⟨[], [], rfl, .nil, .nil⟩
  | _, _, ps, .cons (d := d) (ds := ds) r t, h => by
    unfold pairsOf at h
    split at h
    · rename_i heq; cases heq
    · rename_i k v rr heq
      cases heq
      cases hp : pairsOf ds with
      | none => rw [hp] at h; cases h
      | some qs =>
        rw [hp] at h
        simp only [Option.map_some, Option.some.injEq] at h
        subst h
        obtain ⟨as, kvs, e1, e2, e3⟩ := RpL.pairs t hp
        cases r with
        | tup ha ql =>
          cases ql with
          | cons r1 ql => cases ql with
            | cons r2 ql =>
              cases ql
              cases r1
              exact ⟨_ :: as, (Sum.inl k, _) :: kvs, by rw [e1]; rfl, .cons r2 e2, .cons ha e3⟩
    · cases h
end M

set_option Elab.async false
set_option linter.all false
set_option maxRecDepth 100000
set_option maxHeartbeats 4000000
namespace M
open PySem PySem.Spec L2
open PyProof.Rows hiding St
/-! ### slots stored -/
section
variable {H0 G H : Hp} {env : Env} {σ : St}
theorem Rel.set {i : Nat} {v : V} {d : D} (r : Rel H0 G env σ H) (q : Rp G v d) : Rel H0 G (env.set i (some (.val d))) (σ.set i (some v)) H := by
  refine ⟨r.gh, r.h0, by simp [r.len], fun j w h => ?_, fun j k wj wk u hjk h1 h2 o1 o2 h3 => ?_⟩
  · by_cases hj : i = j
    · subst hj
      by_cases hl : i < env.length
      · rw [List.getElem?_set_self hl] at h
        cases h
        exact ⟨v, by rw [List.getElem?_set_self (by rw [← r.len]; exact hl)], q⟩
      · rw [List.getElem?_eq_none (by simpa using hl)] at h; cases h
    · rw [List.getElem?_set_ne hj] at h ⊢
      exact r.at_ j w h
  · have e1 : i ≠ j := fun e => by
      subst e
      by_cases hl : i < env.length
      · rw [List.getElem?_set_self hl] at h1; cases h1; cases o1
      · rw [List.getElem?_eq_none (by simpa using hl)] at h1; cases h1
    have e2 : i ≠ k := fun e => by
      subst e
      by_cases hl : i < env.length
      · rw [List.getElem?_set_self hl] at h2; cases h2; cases o2
      · rw [List.getElem?_eq_none (by simpa using hl)] at h2; cases h2
    rw [List.getElem?_set_ne e1] at h1 h3
    rw [List.getElem?_set_ne e2] at h2 ⊢
    exact r.sep j k wj wk u hjk h1 h2 o1 o2 h3
/-- a slot forgotten -/
theorem Rel.drop {i : Nat} (r : Rel H0 G env σ H) : Rel H0 G (env.set i none) (σ.set i none) H := by
  have ne : ∀ {j : Nat} {w : W}, (env.set i none)[j]? = some (some w) → i ≠ j := fun {j w} h e => by
    subst e
    by_cases hl : i < env.length
    · rw [List.getElem?_set_self hl] at h; cases h
    · rw [List.getElem?_eq_none (by simpa using hl)] at h; cases h
  refine ⟨r.gh, r.h0, by simp [r.len], fun j w h => ?_, fun j k wj wk u hjk h1 h2 o1 o2 h3 => ?_⟩
  · have e := ne h
    rw [List.getElem?_set_ne e] at h ⊢
    exact r.at_ j w h
  · have e1 := ne h1
    have e2 := ne h2
    rw [List.getElem?_set_ne e1] at h1 h3
    rw [List.getElem?_set_ne e2] at h2 ⊢
    exact r.sep j k wj wk u hjk h1 h2 o1 o2 h3
theorem Rel.wipe (r : Rel H0 G env σ H) : ∀ vs : List Nat, Rel H0 G (wipeE env vs) (L2.wipe σ vs) H
  | [] => r
  | v :: vs => (Rel.wipe r vs).drop
/-- a slot that holds a thing of its own: new, or the one that was there -/
theorem Rel.setOwn {H' : Hp} {i : Nat} {p : Addr} {w : W} (r : Rel H0 G env σ H) (hi : i < env.length) (hw : w.isOwn = true) (gh : Same G H') (h0 : Same H0 H') (new : RW H0 G H' (.ref p) w)
    (keep : ∀ q o, q ≠ p → H q = some o → H' q = some o) (apart : ∀ (j : Nat) (wj : W), j ≠ i → env[j]? = some (some wj) → wj.isOwn = true → σ[j]? ≠ some (some (.ref p))) :
    Rel H0 G (env.set i (some w)) (σ.set i (some (.ref p))) H' := by
  have hs : i < σ.length := by rw [← r.len]; exact hi
  refine ⟨gh, h0, by simp [r.len], fun j wj h => ?_, fun j k wj wk u hjk h1 h2 o1 o2 h3 => ?_⟩
  · by_cases hj : i = j
    · subst hj
      rw [List.getElem?_set_self hi] at h
      cases h
      exact ⟨_, by rw [List.getElem?_set_self hs], new⟩
    · rw [List.getElem?_set_ne hj] at h ⊢
      obtain ⟨v, h1, h2⟩ := r.at_ j wj h
      refine ⟨v, h1, ?_⟩
      cases wj with
      | val d => exact h2
      | own ds =>
        obtain ⟨q, vs, e, a, b, c, d⟩ := h2
        refine ⟨q, vs, e, a, b, keep q _ (fun z => ?_) c, d⟩
        subst z; subst e
        exact apart j _ (Ne.symm hj) h rfl h1
      | dk ds =>
        obtain ⟨q, vs, e, a, b, c, d⟩ := h2
        refine ⟨q, vs, e, a, b, keep q _ (fun z => ?_) c, d⟩
        subst z; subst e
        exact apart j _ (Ne.symm hj) h rfl h1
      | dt ds =>
        obtain ⟨q, vs, e, a, b, c, d⟩ := h2
        refine ⟨q, vs, e, a, b, keep q _ (fun z => ?_) c, d⟩
        subst z; subst e
        exact apart j _ (Ne.symm hj) h rfl h1
      | dtf ds => exact h2
  · by_cases e1 : i = j
    · subst e1
      have e2 : i ≠ k := hjk
      rw [List.getElem?_set_self hs] at h3
      cases h3
      rw [List.getElem?_set_ne e2] at h2 ⊢
      exact apart k wk (Ne.symm e2) h2 o2
    · rw [List.getElem?_set_ne e1] at h1 h3
      by_cases e2 : i = k
      · subst e2
        rw [List.getElem?_set_self hs]
        intro z
        cases z
        exact apart j wj (Ne.symm e1) h1 o1 h3
      · rw [List.getElem?_set_ne e2] at h2 ⊢
        exact r.sep j k wj wk u hjk h1 h2 o1 o2 h3
/-- other things of its own stand elsewhere -/
theorem Rel.apart {i j : Nat} {p : Addr} {w wj : W} (r : Rel H0 G env σ H) (hij : j ≠ i) (h : env[i]? = some (some w)) (hw : w.isOwn = true) (hs : σ[i]? = some (some (.ref p))) (h2 : env[j]? = some (some wj)) (hw2 : wj.isOwn = true) : σ[j]? ≠ some (some (.ref p)) :=
  r.sep i j w wj _ (Ne.symm hij) h h2 hw hw2 hs
theorem Rel.apartNew {j : Nat} {p : Addr} {wj : W} (r : Rel H0 G env σ H) (hn : H p = none) (h2 : env[j]? = some (some wj)) (hw2 : wj.isOwn = true) : σ[j]? ≠ some (some (.ref p)) := fun z => by
  obtain ⟨v, h1, h3⟩ := r.at_ j wj h2
  rw [z] at h1
  cases h1
  cases wj with
  | val d => cases hw2
  | own ds => obtain ⟨q, vs, e, a, b, c, d⟩ := h3; cases e; rw [hn] at c; cases c
  | dk ds => obtain ⟨q, vs, e, a, b, c, d⟩ := h3; cases e; rw [hn] at c; cases c
  | dt ds => obtain ⟨q, vs, e, a, b, c, d⟩ := h3; cases e; rw [hn] at c; cases c
  | dtf ds => cases hw2
end

/-! ### targets -/
def tG (t : Tg) : TG := fun v σ H Q => ∃ H0 G env d env', Rel H0 G env σ H ∧ Rp G v d ∧ asgn t d env = some env' ∧
  ∀ σ', Rel H0 G env' σ' H → (∀ j, j ∉ t.slots → σ'[j]? = σ[j]?) → Q σ' H
theorem PG.mono {X : Cx} {e : Expr} {t t' : TG} (h : PG X e t) (k : ∀ v σ H Q, t' v σ H Q → t v σ H Q) : PG X e t' := ⟨fun pins s σ H v u Q I r q => h.run pins s σ H v u Q I r (k v σ H Q q)⟩
section
variable {X : Cx} {a b c d : Expr} {pos : Pos}
theorem g_name {i : Nat} (h : PG X a (gName i)) : PG X a (tG (.name i)) := PG.mono h fun v σ H Q ⟨H0, G, env, d, env', rel, q, e, k⟩ => by
  simp only [asgn] at e
  split at e
  · cases e
    refine k _ (rel.set q) fun j hj => ?_
    have : i ≠ j := fun z => hj (by simp [Tg.slots, z])
    rw [List.getElem?_set_ne this]
  · cases e
/-- a plain target in a row of targets -/
def nstT : Expr → Bool
  | .Starred _ _ => false
  | _ => true
theorem asgEach_cons {e : Expr} (h : nstT e = true) (es : List Expr) (env : PySem.Env) : assignEach (e :: es) env = (false, assign e env) :: assignEach es env := by
  cases e <;> first | (simp [nstT] at h; done) | rfl
theorem g_t2 {k : Nat} {ta tb : Tg} (hc : X.calm = true) (na : nstT a = true) (nb : nstT b = true) (ha : PG X a (tG ta)) (hb : PG X b (tG tb)) : PG X (.Tuple [a, b] k pos) (tG (.t2 ta tb)) := by
  have e2 : assignEach [b] X.env = [(false, assign b X.env)] := asgEach_cons nb [] X.env
  have e1 : assignEach [a, b] X.env = [(false, assign a X.env), (false, assign b X.env)] := by rw [asgEach_cons na, e2]
  refine PG.mono (pg_tup (n := 2) hc (pgs_cons ha (pgs_cons hb pgs_nil (by rw [e2]; rfl)) (by rw [e1, e2]; rfl)) (by rw [e1]; rfl) (by rw [e1]; rfl)) fun v σ H Q ⟨H0, G, env, d, env', rel, q, e, k⟩ => ?_
  cases q with
  | tup h0 ql =>
    cases ql with
    | nil => simp [asgn] at e
    | @cons v1 vs1 x ds1 q1 ql =>
      cases ql with
      | nil => simp [asgn] at e
      | @cons v2 vs2 y ds2 q2 ql =>
        cases ql with
        | cons _ _ => simp [asgn] at e
        | nil =>
          simp only [asgn] at e
          cases hx : asgn ta x env with
          | none => rw [hx] at e; cases e
          | some env1 =>
            rw [hx] at e
            refine ⟨_, _, rfl, SqT.of (rel.gh _ _ h0), rfl, _, _, rfl, H0, G, env, x, env1, rel, q1, hx, fun σ1 r1 k1 => ?_⟩
            refine ⟨_, _, rfl, H0, G, env1, y, env', r1, q2, e, fun σ2 r2 k2 => ⟨rfl, k σ2 r2 fun j hj => ?_⟩⟩
            simp only [Tg.slots, List.mem_append, not_or] at hj
            rw [k2 j hj.2, k1 j hj.1]
  | _ => simp [asgn] at e
theorem asgn_t3x {ta tb tc : Tg} {d : D} {env env' : Env} (e : asgn (.t3 ta tb tc) d env = some env') : (∃ x y z, d = .tuple [x, y, z] ∧ ((asgn ta x env).bind fun e => (asgn tb y e).bind fun e => asgn tc z e) = some env') ∨ ∃ x y z, d = .list [x, y, z] ∧ ((asgn ta x env).bind fun e => (asgn tb y e).bind fun e => asgn tc z e) = some env' := by
  cases d with
  | tuple ds =>
    rcases ds with _ | ⟨x, _ | ⟨y, _ | ⟨z, _ | ⟨w, r⟩⟩⟩⟩ <;> first | (simp [asgn] at e; done) | skip
    exact .inl ⟨x, y, z, rfl, by simpa only [asgn] using e⟩
  | list ds =>
    rcases ds with _ | ⟨x, _ | ⟨y, _ | ⟨z, _ | ⟨w, r⟩⟩⟩⟩ <;> first | (simp [asgn] at e; done) | skip
    exact .inr ⟨x, y, z, rfl, by simpa only [asgn] using e⟩
  | _ => simp [asgn] at e
theorem PG.or {e : Expr} {t1 t2 : TG} (h1 : PG X e t1) (h2 : PG X e t2) : PG X e (fun v σ H Q => t1 v σ H Q ∨ t2 v σ H Q) :=
  ⟨fun pins s σ H v u Q I r q => q.elim (h1.run pins s σ H v u Q I r) (h2.run pins s σ H v u Q I r)⟩
theorem g_t3 {k : Nat} {ta tb tc : Tg} (hc : X.calm = true) (na : nstT a = true) (nb : nstT b = true) (nc : nstT c = true) (ha : PG X a (tG ta)) (hb : PG X b (tG tb)) (hcc : PG X c (tG tc)) : PG X (.Tuple [a, b, c] k pos) (tG (.t3 ta tb tc)) := by
  have e3 : assignEach [c] X.env = [(false, assign c X.env)] := asgEach_cons nc [] X.env
  have e2 : assignEach [b, c] X.env = [(false, assign b X.env), (false, assign c X.env)] := by rw [asgEach_cons nb, e3]
  have e1 : assignEach [a, b, c] X.env = [(false, assign a X.env), (false, assign b X.env), (false, assign c X.env)] := by rw [asgEach_cons na, e2]
  have pgs := pgs_cons ha (pgs_cons hb (pgs_cons hcc pgs_nil (by rw [e3]; rfl)) (by rw [e2, e3]; rfl)) (by rw [e1, e2]; rfl)
  refine PG.mono (PG.or (pg_tup (n := 3) (k := k) (pos := pos) hc pgs (by rw [e1]; rfl) (by rw [e1]; rfl)) (pg_lst (n := 3) (k := k) (pos := pos) hc pgs (by rw [e1]; rfl) (by rw [e1]; rfl))) fun v σ H Q ⟨H0, G, env, d, env', rel, q, e, k⟩ => ?_
  have key : ∀ {vs : List V} {x y z : D}, RpL G vs [x, y, z] → ((asgn ta x env).bind fun e => (asgn tb y e).bind fun e => asgn tc z e) = some env' → vs.length = 3 ∧ (gCons (tG ta) (gCons (tG tb) (gCons (tG tc) gNil))) vs σ H Q := by
    intro vs x y z ql e
    cases ql with
    | @cons v1 vs1 _ ds1 q1 ql =>
      cases ql with
      | @cons v2 vs2 _ ds2 q2 ql =>
        cases ql with
        | @cons v3 vs3 _ ds3 q3 ql =>
          cases ql
          cases hx : asgn ta x env with
          | none => rw [hx] at e; cases e
          | some env1 =>
            rw [hx] at e
            cases hy : asgn tb y env1 with
            | none => simp only [Option.bind_some, hy] at e; cases e
            | some env2 =>
              simp only [Option.bind_some, hy] at e
              refine ⟨rfl, _, _, rfl, H0, G, env, x, env1, rel, q1, hx, fun σ1 r1 k1 => ?_⟩
              refine ⟨_, _, rfl, H0, G, env1, y, env2, r1, q2, hy, fun σ2 r2 k2 => ?_⟩
              refine ⟨_, _, rfl, H0, G, env2, z, env', r2, q3, e, fun σ3 r3 k3 => ⟨rfl, k σ3 r3 fun j hj => ?_⟩⟩
              simp only [Tg.slots, List.mem_append, not_or] at hj
              rw [k3 j hj.2.2, k2 j hj.2.1, k1 j hj.1]
  rcases asgn_t3x e with ⟨x, y, z, rfl, e⟩ | ⟨x, y, z, rfl, e⟩
  · cases q with
    | tup h0 ql => exact .inl ⟨_, _, rfl, SqT.of (rel.gh _ _ h0), key ql e⟩
  · cases q with
    | lst h0 ql => exact .inr ⟨_, _, rfl, SqL.of (rel.gh _ _ h0), key ql e⟩
theorem g_t4 {k : Nat} {ta tb tc td : Tg} (hc : X.calm = true) (na : nstT a = true) (nb : nstT b = true) (nc : nstT c = true) (nd : nstT d = true) (ha : PG X a (tG ta)) (hb : PG X b (tG tb)) (hcc : PG X c (tG tc)) (hd : PG X d (tG td)) : PG X (.Tuple [a, b, c, d] k pos) (tG (.t4 ta tb tc td)) := by
  have e4 : assignEach [d] X.env = [(false, assign d X.env)] := asgEach_cons nd [] X.env
  have e3 : assignEach [c, d] X.env = [(false, assign c X.env), (false, assign d X.env)] := by rw [asgEach_cons nc, e4]
  have e2 : assignEach [b, c, d] X.env = [(false, assign b X.env), (false, assign c X.env), (false, assign d X.env)] := by rw [asgEach_cons nb, e3]
  have e1 : assignEach [a, b, c, d] X.env = [(false, assign a X.env), (false, assign b X.env), (false, assign c X.env), (false, assign d X.env)] := by rw [asgEach_cons na, e2]
  refine PG.mono (pg_tup (n := 4) hc (pgs_cons ha (pgs_cons hb (pgs_cons hcc (pgs_cons hd pgs_nil (by rw [e4]; rfl)) (by rw [e3, e4]; rfl)) (by rw [e2, e3]; rfl)) (by rw [e1, e2]; rfl)) (by rw [e1]; rfl) (by rw [e1]; rfl)) fun v σ H Q ⟨H0, G, env, d, env', rel, q, e, k⟩ => ?_
  cases q with
  | tup h0 ql =>
    cases ql with
    | nil => simp [asgn] at e
    | @cons v1 vs1 x ds1 q1 ql =>
      cases ql with
      | nil => simp [asgn] at e
      | @cons v2 vs2 y ds2 q2 ql =>
        cases ql with
        | nil => simp [asgn] at e
        | @cons v3 vs3 z ds3 q3 ql =>
          cases ql with
          | nil => simp [asgn] at e
          | @cons v4 vs4 w ds4 q4 ql =>
            cases ql with
            | cons _ _ => simp [asgn] at e
            | nil =>
              simp only [asgn] at e
              cases hx : asgn ta x env with
              | none => rw [hx] at e; cases e
              | some env1 =>
                rw [hx] at e
                cases hy : asgn tb y env1 with
                | none => simp only [Option.bind_some, hy] at e; cases e
                | some env2 =>
                  simp only [Option.bind_some, hy] at e
                  cases hz : asgn tc z env2 with
                  | none => simp only [hz] at e; cases e
                  | some env3 =>
                    simp only [Option.bind_some, hz] at e
                    refine ⟨_, _, rfl, SqT.of (rel.gh _ _ h0), rfl, _, _, rfl, H0, G, env, x, env1, rel, q1, hx, fun σ1 r1 k1 => ?_⟩
                    refine ⟨_, _, rfl, H0, G, env1, y, env2, r1, q2, hy, fun σ2 r2 k2 => ?_⟩
                    refine ⟨_, _, rfl, H0, G, env2, z, env3, r2, q3, hz, fun σ3 r3 k3 => ?_⟩
                    refine ⟨_, _, rfl, H0, G, env3, w, env', r3, q4, e, fun σ4 r4 k4 => ⟨rfl, k σ4 r4 fun j hj => ?_⟩⟩
                    simp only [Tg.slots, List.mem_append, not_or] at hj
                    rw [k4 j hj.2.2.2, k3 j hj.2.2.1, k2 j hj.2.1, k1 j hj.1]
  | _ => simp [asgn] at e
end

/-! ### what is walked -/
/-- what is given at turn i: the i-th of items; the heap may grow -/
def YD (items : List D) (G1 : Hp) : Nat → Hp → V → Hp → Prop := fun i H x H' => ∀ G, Same G1 G → Same G H → ∀ d, items[i]? = some d → ∃ G', Step G H G' H' ∧ Rp G' x d
def WalkD (J : It) (items : List D) (G1 : Hp) : Prop := Walk J items.length (fun H => Same G1 H) (YD items G1)
abbrev rhI : Hp → Hp → It → List D → Prop := fun G _ J items => WalkD J items G
abbrev tIt (W : WX) (cl : Nat → Value) (f : Env → R (List D)) : TI := tX rhI W cl f
theorem PI.mono {X : Cx} {tg e : Expr} {t t' : TI} (h : PI X tg e t) (k : ∀ σ H Q, t' σ H Q → t σ H Q) : PI X tg e t' := ⟨fun pins s σ H Q I q => h.run pins s σ H Q I (k σ H Q q)⟩
theorem walk_same {J : It} {n : Nat} {G : Hp → Prop} {Y : Nat → Hp → V → Hp → Prop} {items : List D} {G1 : Hp} (w : Walk J n G Y) (hn : n = items.length) (hG : ∀ H, Same G1 H → G H)
    (hY : ∀ i H x H', i < n → Same G1 H → Y i H x H' → H' = H ∧ ∀ d, items[i]? = some d → Rp G1 x d) : WalkD J items G1 := by
  subst hn
  refine w.mono hG fun i H x H' hi hs y => ?_
  obtain ⟨rfl, q⟩ := hY i H x H' hi hs y
  exact fun G g1 g2 d hd => ⟨G, Step.refl g2, Rp.ext g1 (q d hd)⟩
section
variable {X : Cx} {tg : Expr}
/-- a list, a tuple, a text: whatever it is -/
def iAny (K : PySem.W.Frag) (tl : TE) : TI := fun σ H R => tl σ H fun x H1 => (∃ a xs, x = .ref a ∧ SqL K H1 a xs ∧ R (Itl K a) H1) ∨ (∃ a xs, x = .ref a ∧ SqT K H1 a xs ∧ R (Itt K a) H1) ∨ ∃ z, x = .str z ∧ R (Its z) H1
theorem pi_any {l : Expr} {tl : TE} (hl : PE X l tl) : PI X tg l (iAny X.K tl) := by
  refine ⟨fun pins s σ H R I h => ?_⟩
  refine thn (hl.run pins s σ H _ I h) fun v s1 ⟨x, H1, I1, r1, q1⟩ => ?_
  rcases q1 with ⟨a, xs, e, hq, q⟩ | ⟨a, xs, e, hq, q⟩ | ⟨z, e, q⟩
  · subst e
    cases r1
    obtain ⟨its, rv, p, hz⟩ := I1.list hq
    refine wpAny_pyIter_list p.isList ?_
    refine ⟨s1.heap.objs.size, [s1.heap.objs.size], _, _, H1, rfl, I1.kept (t' := s1.toks) fun b o e => Heap.get?_push_of_some _ e, turn_list a _, ⟨_, Heap.get?_push_size _ rfl, rfl, rfl⟩, fun b hb => ?_, q⟩
    have e : b = s1.heap.objs.size := by simpa using hb
    subst e
    exact I1.fpOk (Nat.le_refl _) (I1.hok.fresh (Nat.le_refl _))
  · subst e
    cases r1
    obtain ⟨its, rv, p, hz⟩ := I1.tuple hq
    refine wpAny_pyIter_tuple (show s1.heap.IsTuple a its.toArray from p) ?_
    refine ⟨s1.heap.objs.size, [s1.heap.objs.size], _, _, H1, rfl, I1.kept (t' := s1.toks) fun b o e => Heap.get?_push_of_some _ e, turn_tuple a _, ⟨_, Heap.get?_push_size _ rfl, rfl, rfl⟩, fun b hb => ?_, q⟩
    have e : b = s1.heap.objs.size := by simpa using hb
    subst e
    exact I1.fpOk (Nat.le_refl _) (I1.hok.fresh (Nat.le_refl _))
  · subst e
    obtain ⟨t, rfl⟩ := r1
    cases ha : z.cps.all (· < 128)
    · exact wpAny_pyIter_wide ha (pi_one (tk := s1.toks) I1 _ (turn_str _ z t "str_iterator" (.inr rfl)) ⟨_, Heap.get?_push_size _ rfl, rfl, rfl⟩ q)
    · exact wpAny_pyIter_ascii ha (pi_one (tk := s1.toks) I1 _ (turn_str _ z t "str_ascii_iterator" (.inl rfl)) ⟨_, Heap.get?_push_size _ rfl, rfl, rfl⟩ q)
variable {W : WX} {cl : Nat → Value} {a b e : Expr} {f g : Env → R D} {pos p : Pos}
theorem i_seq (ha : PE X a (tE W cl f)) : PI X tg a (tIt W cl fun env => do let x ← f env; seqD x) := PI.mono (pi_any ha) fun σ H R h => tX.mono (tX.bind (ρ := rhE) h) fun v H1 ⟨H0, G, env, x, rel, q1, o⟩ => by
  have r0 := Step.refl rel.gh
  cases q1 with
  | non => exact False.elim o
  | bl b => exact False.elim o
  | int i => exact False.elim o
  | str z =>
    refine .inr (.inr ⟨z, rfl, o.ok r0 ?_⟩)
    refine walk_same walk_str (by simp) (fun _ _ => trivial) fun i H x H' hi hs y => ?_
    obtain ⟨e, c, hc, rfl⟩ := y
    refine ⟨e, fun d hd => ?_⟩
    rw [List.getElem?_map, Array.getElem?_toList, hc] at hd
    cases hd
    exact .str _
  | lst h ql =>
    refine .inl ⟨_, _, rfl, SqL.of (rel.gh _ _ h), o.ok r0 ?_⟩
    refine walk_same walk_list ql.len (fun _ hs => SqL.of (hs _ _ h)) fun i H x H' hi hs y => ⟨y.1, fun d hd => ?_⟩
    obtain ⟨v, hv, q⟩ := ql.get hd
    rw [y.2] at hv
    cases hv
    exact q
  | tup h ql =>
    refine .inr (.inl ⟨_, _, rfl, SqT.of (rel.gh _ _ h), o.ok r0 ?_⟩)
    refine walk_same walk_tup ql.len (fun _ hs => SqT.of (hs _ _ h)) fun i H x H' hi hs y => ⟨y.1, fun d hd => ?_⟩
    obtain ⟨v, hv, q⟩ := ql.get hd
    rw [y.2] at hv
    cases hv
    exact q
  | @scr a' ob ns h =>
    refine .inl ⟨_, _, rfl, .inl (.inr ⟨ob, rel.gh _ _ h⟩), o.ok r0 ?_⟩
    refine walk_same (walk_list (xs := ns.map V.int)) (by simp) (fun _ hs => .inl (.inr ⟨ob, hs _ _ h⟩)) fun i H x H' hi hs y => ⟨y.1, fun d hd => ?_⟩
    have y2 := y.2
    rw [List.getElem?_map] at y2
    simp only [List.map_map, List.getElem?_map] at hd
    cases hn : ns[i]? with
    | none => rw [hn] at y2; cases y2
    | some n => rw [hn] at y2 hd; cases y2; cases hd; exact .int n
theorem i_rng1 (hg : Gl X "range") (hm : X.mg "range" = none) (hn : nst a = true) (ha : PE X a (tE W cl f)) : PI X tg (.Call (.Name "range" p) [a] [] pos) (tIt W cl fun env => do
    let x ← f env
    match x with
    | .int j => if decide (-(2 ^ 62) ≤ j) && decide (j ≤ lim) then .ok ((List.range j.toNat).map fun (k : Nat) => .int (k : Int)) else .bad
    | _ => .bad) := by
  have hs := starEach_cons hn [] X.env
  refine PI.mono (pi_range1 hg hm (pa_cons ha pa_nil hs) hs) fun σ H R h => tX.mono (tX.bind (ρ := rhE) h) fun v H1 ⟨H0, G, env, x, rel, q1, o⟩ => ?_
  cases q1 <;> first | exact False.elim o | skip
  dsimp only at o
  split at o
  · rename_i hj
    simp only [Bool.and_eq_true, decide_eq_true_eq] at hj
    have hl : lim = 100000 := rfl
    refine ⟨_, rfl, hj.1, by omega, o.ok (Step.refl rel.gh) ?_⟩
    refine walk_same walk_range (by simp) (fun _ _ => trivial) fun i H x H' hi hs y => ?_
    obtain ⟨e, rfl⟩ := y
    refine ⟨e, fun d hd => ?_⟩
    rw [List.getElem?_map, List.getElem?_range hi] at hd
    cases hd
    dsimp only
    rw [Int.zero_add]
    exact .int _
  · exact False.elim o
theorem i_rng2 (hg : Gl X "range") (hm : X.mg "range" = none) (hn : nst a = true) (hn2 : nst b = true) (ha : PE X a (tE W cl f)) (hb : PE X b (tE W cl g)) : PI X tg (.Call (.Name "range" p) [a, b] [] pos) (tIt W cl fun env => do
    let x ← f env
    let y ← g env
    match x, y with
    | .int i, .int j => if decide (-(2 ^ 61) ≤ i) && decide (i < 2 ^ 61) && decide (-(2 ^ 61) ≤ j) && decide (j < 2 ^ 61) then .ok ((List.range (j - i).toNat).map fun (k : Nat) => .int (i + (k : Int))) else .bad
    | _, _ => .bad) := by
  have hs2 := starEach_cons hn2 [] X.env
  have hs : starEach [a, b] X.env = [(false, eval a X.env), (false, eval b X.env)] := by rw [starEach_cons hn, hs2]; rfl
  refine PI.mono (pi_range2 hg hm (pa_cons ha (pa_cons hb pa_nil hs2) (starEach_cons hn _ _)) hs hs2) fun σ H R h => tX.mono (tX.bind (ρ := rhE) h) fun v H1 ⟨H0, G, env, x, rel, q1, o⟩ => ?_
  refine ⟨H0, G, env, rel, (Out.bind (ρ := rhE) o).mono fun u H2 ⟨y, G2, st, q2, o2⟩ => ?_⟩
  cases q1 <;> first | exact False.elim o2 | skip
  cases q2 <;> first | exact False.elim o2 | skip
  dsimp only at o2
  split at o2
  · rename_i hj
    simp only [Bool.and_eq_true, decide_eq_true_eq] at hj
    refine ⟨_, _, rfl, ⟨by omega, by omega, by omega, by omega⟩, o2.ok (Step.refl st.gh) ?_⟩
    refine walk_same walk_range (by simp) (fun _ _ => trivial) fun i H x H' hi hs y => ?_
    obtain ⟨e, rfl⟩ := y
    refine ⟨e, fun d hd => ?_⟩
    rw [List.getElem?_map, List.getElem?_range hi] at hd
    cases hd
    exact .int _
  · exact False.elim o2
end
end M

set_option Elab.async false
set_option linter.all false
set_option maxRecDepth 100000
set_option maxHeartbeats 4000000
namespace PySem
theorem meets_enumerate_newB1 {v : Value} {o : Obj} {H : Heap → Prop} (B : Begins v o H) :
    Meets (Builtin.«enumerate.__new__» ⟨[.type "enumerate", v], []⟩) (fun _ R s => H s.heap ∧
      R (.ok (.ret (.ref (s.heap.push o).objs.size))) { s with heap := (s.heap.push o).push { cls := .type "enumerate", data := .fields #[.none, .bool false, .ref s.heap.objs.size, rawInt 0, .none, .none] } }) :=
  .of_wp fun prog w A R s h => by
    obtain ⟨hp, g, d, tk, os⟩ := s; obtain ⟨h1, h⟩ := h
    have hsub := sub_enumerate
    have q1 : ∀ {A' : Around} {E : Value → Shared → Prop} {Q : Value → Shared → Prop}, Q (.ref hp.objs.size) ⟨hp.push o, g, d, tk, os⟩ → wpAny (model prog w) A' (pyIter v) Q E ⟨hp, g, d, tk, os⟩ :=
      fun q => B.iter prog w _ _ ⟨hp, g, d, tk, os⟩ _ h1 q
    wp_walk using q1
    refine wpAny_stack_any fun st => wpAny_pure ?_
    split
    · rename_i c _ _ _ _ _
      cases (c == Value.type "enumerate")
      · wp_walk using q1
        exact ⟨_, rfl, h⟩
      · wp_walk using q1
        exact ⟨_, rfl, h⟩
    · wp_walk using q1
      exact ⟨_, rfl, h⟩
theorem enum_begins1 {prog : Program} {w : World} {A : Around} {E : Value → Shared → Prop} {s : Shared} {v : Value} {o : Obj} {H : Heap → Prop} {Q : Value → Shared → Prop} (B : Begins v o H) (h1 : H s.heap)
    (h : ∀ h', IsEnum h' (s.heap.objs.size + 1) s.heap.objs.size 0 .none → h'.get? s.heap.objs.size = some o → h'.objs.size = s.heap.objs.size + 2 →
      (∀ b o, s.heap.get? b = some o → h'.get? b = some o) → Q (.ref (s.heap.objs.size + 1)) { s with heap := h' }) :
    wpAny (model prog w) A (call (.type "enumerate") [v]) Q E s := by
  refine callType_new F.called_enumerate (by decide) (F.typeCall_enumerate_1 _) (F.newCall_enumerate_1 _) (fun obj => F.args_object_init_2 obj _) F.entry_enumerate_new
    (meets_enumerate_newB1 B) ⟨h1, ?_⟩
  have hz : (s.heap.push o).objs.size = s.heap.objs.size + 1 := Heap.size_push ..
  show _ ∧ _
  rw [hz]
  have he : IsEnum ((s.heap.push o).push { cls := .type "enumerate", data := .fields #[.none, .bool false, .ref s.heap.objs.size, rawInt 0, .none, .none] }) (s.heap.objs.size + 1) s.heap.objs.size 0 .none := by
    have := Heap.get?_push_size (s.heap.push o) (o := { cls := .type "enumerate", data := .fields #[.none, .bool false, .ref s.heap.objs.size, rawInt 0, .none, .none] }) rfl
    rw [hz] at this; exact this
  refine ⟨⟨_, he, rfl⟩, h _ he (Heap.get?_push_of_some _ (Heap.get?_push_size _ B.free)) (by rw [Heap.size_push, hz]) fun b o x => Heap.get?_push_of_some _ (Heap.get?_push_of_some _ x)⟩
end PySem
namespace M
open PySem PySem.Spec L2
open PyProof.Rows hiding St
/-! ### what enumerate and zip draw from: a list, a tuple, a text -/
inductive Src where
  | list (a : Addr) (xs : List V) | tup (a : Addr) (xs : List V) | str (z : Str)
def Src.items : Src → List V
  | .list _ xs => xs
  | .tup _ xs => xs
  | .str z => z.cps.toList.map fun c => .str ⟨#[c]⟩
def Src.ok (H : Hp) : Src → Prop
  | .list a xs => H a = some (.lst xs)
  | .tup a xs => H a = some (.tup xs)
  | .str _ => True
def Src.val : Src → V
  | .list a _ => .ref a
  | .tup a _ => .ref a
  | .str z => .str z
/-- the iterator's own state -/
def Src.at_ (S : Src) (t : Tok) (it : Addr) (i : Nat) (h : Heap) : Prop := match S with
  | .list a _ => h.IsListIter it a i
  | .tup a _ => h.IsTupleIter it a i
  | .str z => h.IsStrIter it (strIterType z) z t i
theorem Src.obj {S : Src} {t : Tok} {it : Addr} {i : Nat} {h : Heap} (st : S.at_ t it i h) : ∃ o, h.get? it = some o ∧ ∀ v, o.data ≠ .cell v := by
  cases S with
  | list a xs => obtain ⟨o, e, c, d⟩ := st; exact ⟨o, e, fun v z => by rw [d] at z; cases z⟩
  | tup a xs => obtain ⟨o, e, c, d⟩ := st; exact ⟨o, e, fun v z => by rw [d] at z; cases z⟩
  | str z => obtain ⟨o, e, c, d⟩ := st; exact ⟨o, e, fun v z => by rw [d] at z; cases z⟩
theorem Src.keep {S : Src} {t : Tok} {it : Addr} {i : Nat} {h h' : Heap} (st : S.at_ t it i h) (k : ∀ o, h.get? it = some o → h'.get? it = some o) : S.at_ t it i h' := by
  cases S with
  | list a xs => obtain ⟨o, e, r⟩ := st; exact ⟨o, k o e, r⟩
  | tup a xs => obtain ⟨o, e, r⟩ := st; exact ⟨o, k o e, r⟩
  | str z => obtain ⟨o, e, r⟩ := st; exact ⟨o, k o e, r⟩
section
variable {X : Cx} {pins : List (Addr × Obj)} {σ : St} {H : Hp} {s : Shared}
/-- what is drawn while the source stands -/
theorem Src.draws (I : Inv X pins σ H s) (hc : X.calm = true) {S : Src} (ok : S.ok H) (t : Tok) {it : Addr} (hn : H it = none) (hlt : it < s.heap.objs.size ∨ True) :
    ∃ (fp : List Addr) (F : Heap → Prop) (P : Nat → Value → Prop), Draws X.prog X.w X.A.in1 it (it :: fp) S.items.length P (fun i h => S.at_ t it i h ∧ F h) ∧ F s.heap ∧ (∀ b ∈ fp, H b ≠ none) ∧ ∀ i v, P i v → ∃ x, S.items[i]? = some x ∧ L2.RelV x v := by
  have hh : X.A.in1.handled = none := I.ok.hd hc
  cases S with
  | list a xs =>
    have ok : H a = some (.lst xs) := ok
    obtain ⟨its, rv, p, hz⟩ := I.list (SqL.of ok)
    have D := Draws.list (prog := X.prog) (w := X.w) hh it a (fun e => by rw [e, hn] at ok; cases ok) its.toArray
    have hl : its.toArray.size = xs.length := by rw [List.size_toArray]; exact rv.length.symm
    rw [hl] at D
    refine ⟨[a], fun h => h.IsList a its.toArray, _, D, p.isList, fun b hb => ?_, fun i v hv => ?_⟩
    · have : b = a := by simpa using hb
      rw [this, ok]; simp
    · have hv : its[i]? = some v := by simpa using hv
      cases hx : xs[i]? with
      | none => rw [rv.none_of hx] at hv; cases hv
      | some x =>
        obtain ⟨u, h1, h2⟩ := rv.get hx
        rw [hv] at h1; cases h1
        exact ⟨x, hx, h2⟩
  | tup a xs =>
    have ok : H a = some (.tup xs) := ok
    obtain ⟨its, rv, p, hz⟩ := I.tuple (SqT.of ok)
    have D := Draws.tuple (prog := X.prog) (w := X.w) hh it a (fun e => by rw [e, hn] at ok; cases ok) its.toArray
    have hl : its.toArray.size = xs.length := by rw [List.size_toArray]; exact rv.length.symm
    rw [hl] at D
    refine ⟨[a], fun h => h.IsTuple a its.toArray, _, D, p, fun b hb => ?_, fun i v hv => ?_⟩
    · have : b = a := by simpa using hb
      rw [this, ok]; simp
    · have hv : its[i]? = some v := by simpa using hv
      cases hx : xs[i]? with
      | none => rw [rv.none_of hx] at hv; cases hv
      | some x =>
        obtain ⟨u, h1, h2⟩ := rv.get hx
        rw [hv] at h1; cases h1
        exact ⟨x, hx, h2⟩
  | str z =>
    have D := Draws.text (prog := X.prog) (w := X.w) hh it z t
    refine ⟨[], fun _ => True, fun i v => ∃ c u, z.cps[i]? = some c ∧ v = .str ⟨#[c]⟩ u, ?_, trivial, fun b hb => by simp at hb, fun i v ⟨c, u, h1, h2⟩ => ?_⟩
    · have hl : (Src.str z).items.length = z.cps.size := by simp [Src.items]
      rw [hl]
      exact ⟨fun i h st => D.live i h st.1, fun i h h' st k => ⟨D.frame i h h' st.1 k, trivial⟩, fun i s Q E hi st hQ => D.item i s Q E hi st.1 fun x h' tk a b c => hQ x h' tk a ⟨b, trivial⟩ c, fun s Q E st hE => D.done s Q E st.1 hE⟩
    · refine ⟨.str ⟨#[c]⟩, ?_, u, h2⟩
      simp [Src.items, h1]
end
/-! enumerate -/
def ItE (S : Src) : It := ⟨fun i H => i < S.items.length ∧ S.ok H, fun i H v H' => ∃ T x, v = .ref T ∧ H T = none ∧ H' = upd H T (.tup [.int (i : Nat), x]) ∧ S.items[i]? = some x, fun i H => i = S.items.length ∧ S.ok H⟩
theorem turn_enumS {P : Program} {w : World} {K : PySem.W.Frag} {elts : List Expr} {kk : Nat} {tpos : Pos} (S : Src) (t : Tok) (e it : Addr) :
    Turn P w K (.Tuple elts kk tpos) (ItE S) [e, it] e (fun i h => (∃ old, IsEnum h e it ((i : Nat) : Int) old) ∧ S.at_ t it i h ∧ e ≠ it) where
  mem := by simp
  obj := fun i h st b hb => by
    obtain ⟨⟨old, he⟩, h1, _⟩ := st
    have e' : b = e ∨ b = it := by simpa using hb
    rcases e' with z | z
    · rw [z]; exact ⟨_, he, fun v q => nomatch q⟩
    · rw [z]; exact Src.obj (S := S) h1
  keep := fun i h h' st k => let ⟨⟨old, he⟩, hi, hne⟩ := st; ⟨⟨old, k e (by simp) _ he⟩, Src.keep (S := S) hi fun o q => k it (by simp) o q, hne⟩
  item := by
    intro X hP hw hK hc i pins s σ H E I hf st hg
    subst hP hw hK
    obtain ⟨⟨old, he⟩, hit, hne⟩ := st
    obtain ⟨hi, ok⟩ := hg
    obtain ⟨fp, F, P, D, hF, hfp, hP⟩ := Src.draws I hc ok t (it := it) (hf it (by simp)).1 (.inr trivial)
    have hel : e < s.heap.objs.size := Heap.lt_size he
    have hil : it < s.heap.objs.size := by obtain ⟨_, q, _⟩ := Src.obj (S := S) hit; exact Heap.lt_size q
    have hef : e ∉ it :: fp := fun z => by
      rcases List.mem_cons.mp z with z | z
      · exact hne z
      · exact hfp e z (hf e (by simp)).1
    have WT := WalksT.enumFrom 0 D e hne hef (by simp)
    refine WT.item i s _ _ hi ⟨⟨old, by rw [Int.zero_add]; exact he⟩, hit, hF⟩ fun T vals h' tk hPt hT isT mid hk => ?_
    refine ⟨_, rfl, WT.go elts kk tpos i T { s with heap := h', toks := tk } _ _ mid fun h'' st'' hk2 => ?_⟩
    obtain ⟨tt, x, hx, rfl⟩ := hPt
    obtain ⟨y, hy, ry⟩ := hP i x hx
    have kept : ∀ b o, b ∉ [e, it] → s.heap.get? b = some o → h''.get? b = some o := fun b o hb q => hk2 b o hb (hk b o hb q)
    have hTn : T ∉ [e, it] := WT.apart i T h' mid
    have new : ObjOk X.prog X.w (upd H T (.tup [.int (i : Nat), y])) h'' T (.tup [.int (i : Nat), y]) := by
      refine ⟨by show 2 ≤ sizeLine; decide, [.int (0 + (i : Int)) tt, x], .cons ⟨tt, by rw [Int.zero_add]⟩ (.cons ry .nil), ?_⟩
      obtain ⟨o, e1, e2⟩ := isT
      exact ⟨o, hk2 T o hTn e1, e2⟩
    have I1 : Inv X pins σ (upd H T (.tup [.int (i : Nat), y])) { s with heap := h'', toks := tk } := I.turnedNew (ch := [e, it]) kept hf hT new
    obtain ⟨⟨old2, he2⟩, hit2, _⟩ := st''
    refine ⟨.ref T, _, I1, rfl, ⟨T, y, rfl, I.hok.fresh hT, rfl, hy⟩, ⟨⟨old2, ?_⟩, hit2, hne⟩, fun b hb => ?_⟩
    · have e1 : (0 : Int) + ((i + 1 : Nat) : Int) = ((i + 1 : Nat) : Int) := Int.zero_add _
      rw [e1] at he2; exact he2
    · have hb' : b < s.heap.objs.size := by
        have e' : b = e ∨ b = it := by simpa using hb
        rcases e' with z | z
        · rw [z]; exact hel
        · rw [z]; exact hil
      rw [upd_ne (Nat.ne_of_lt (Nat.lt_of_lt_of_le hb' hT))]
      exact (hf b hb).1
  done := by
    intro X hP hw hK hc i pins s σ H E I hf st hg
    subst hP hw hK
    obtain ⟨⟨old, he⟩, hit, hne⟩ := st
    obtain ⟨rfl, ok⟩ := hg
    obtain ⟨fp, F, P, D, hF, hfp, hP⟩ := Src.draws I hc ok t (it := it) (hf it (by simp)).1 (.inr trivial)
    have hef : e ∉ it :: fp := fun z => by
      rcases List.mem_cons.mp z with z | z
      · exact hne z
      · exact hfp e z (hf e (by simp)).1
    have WT := WalksT.enumFrom 0 D e hne hef (by simp)
    exact WT.done s _ _ ⟨⟨old, by rw [Int.zero_add]; exact he⟩, hit, hF⟩ fun h' tk hk => ⟨rfl, I.turnedL (t' := tk) (ch := [e, it]) hk hf⟩
  self := fun A i s Q E st h => let ⟨⟨_, he⟩, _⟩ := st; wpAny_pyIter_enum he h
def Src.is (v : V) (S : Src) (H : Hp) : Prop := v = S.val ∧ S.ok H
def iEnumS (ta : TA) : TI := fun σ H R => ta σ H fun vs H1 => ∃ (v : V) (S : Src), vs = [v] ∧ S.is v H1 ∧ R (ItE S) H1
theorem src_begins {X : Cx} {pins : List (Addr × Obj)} {σ : St} {H : Hp} {s : Shared} (I : Inv X pins σ H s) {S : Src} {v : V} {u : Value} (hs : S.is v H) (r : L2.RelV v u) :
    ∃ (o : Obj) (t : Tok) (B : Heap → Prop), Begins u o B ∧ B s.heap ∧ ∀ (h' : Heap) (it : Addr), h'.get? it = some o → S.at_ t it 0 h' := by
  obtain ⟨rfl, ok⟩ := hs
  cases S with
  | list a xs =>
    cases r
    obtain ⟨its, rv, p, hz⟩ := I.list (SqL.of ok)
    exact ⟨_, 0, _, begins_list a its.toArray, p.isList, fun h' it e => ⟨_, e, rfl, rfl⟩⟩
  | tup a xs =>
    cases r
    obtain ⟨its, rv, p, hz⟩ := I.tuple (SqT.of ok)
    exact ⟨_, 0, _, begins_tuple a its.toArray, p, fun h' it e => ⟨_, e, rfl, rfl⟩⟩
  | str z =>
    obtain ⟨t, rfl⟩ := r
    exact ⟨_, t, _, begins_text z t, trivial, fun h' it e => ⟨_, e, rfl, rfl⟩⟩
theorem pi_enumS {X : Cx} {e : Expr} {ta : TA} {p pos tpos : Pos} {elts : List Expr} {kk : Nat} (hg : Gl X "enumerate") (hm : X.mg "enumerate" = none) (ha : PA X [e] ta) (hs : starEach [e] X.env = [(false, eval e X.env)]) :
    PI X (.Tuple elts kk tpos) (.Call (.Name "enumerate" p) [e] [] pos) (iEnumS ta) := by
  refine ⟨fun pins s σ H R I h => ?_⟩
  refine Call_ (ld_blt I hg hm boot_enumerate (PyProof.Rows.callWith_type1 (thn (ha.run pos pins s σ H _ I h) fun us s1 ⟨vs, H1, I1, r1, q1⟩ => ?_) hs rfl))
  · obtain ⟨v, S, rfl, hS, q⟩ := q1
    obtain ⟨u, rfl, ru⟩ := vals1 r1
    obtain ⟨o, t, B, hB, hB1, hat⟩ := src_begins I1 hS ru
    refine enum_begins1 hB hB1 fun h' hE hit hsz hk => wpAny_pyIter_enum hE ?_
    have I2 : Inv X pins σ H1 { s1 with heap := h' } := I1.kept (t' := s1.toks) hk
    refine ⟨s1.heap.objs.size + 1, [s1.heap.objs.size + 1, s1.heap.objs.size], _, _, H1, rfl, I2, turn_enumS S t (s1.heap.objs.size + 1) s1.heap.objs.size, ⟨⟨.none, hE⟩, hat h' _ hit, Nat.succ_ne_self _⟩, fun b hb => ?_, q⟩
    have e' : b = s1.heap.objs.size + 1 ∨ b = s1.heap.objs.size := by simpa using hb
    have hle : s1.heap.objs.size ≤ b := by
      rcases e' with z | z
      · rw [z]; exact Nat.le_add_right _ _
      · rw [z]; exact Nat.le_refl _
    exact I1.fpOk hle (I1.hok.fresh hle)
/-! zip -/
def ItZ (S T : Src) : It := ⟨fun i H => i < min S.items.length T.items.length ∧ S.ok H ∧ T.ok H, fun i H v H' => ∃ A x y, v = .ref A ∧ H A = none ∧ H' = upd H A (.tup [x, y]) ∧ S.items[i]? = some x ∧ T.items[i]? = some y, fun i H => i = min S.items.length T.items.length ∧ S.ok H ∧ T.ok H⟩
structure ZAp (z TI TO i1 i2 : Addr) : Prop where
  a1 : TI ≠ z
  a2 : TO ≠ z
  a3 : TI ≠ TO
  a4 : TI ≠ i1
  a5 : TI ≠ i2
  a6 : z ≠ i1
  a7 : z ≠ i2
  a8 : TO ≠ i1
  a9 : TO ≠ i2
  a10 : i1 ≠ i2
theorem zsep {H : Hp} {z TI TO i1 i2 : Addr} {fp1 fp2 : List Addr} (D : ZAp z TI TO i1 i2) (h1 : ∀ b ∈ fp1, H b ≠ none) (h2 : ∀ b ∈ fp2, H b ≠ none) (hf : ∀ c, c ∈ [z, TI, TO, i1, i2] → H c = none) : ZipSep2 z TI TO i1 i2 (i1 :: fp1) (i2 :: fp2) := by
  have no1 : ∀ c, c ∈ [z, TI, TO, i1, i2] → c ∉ fp1 := fun c hc q => h1 c q (hf c hc)
  have no2 : ∀ c, c ∈ [z, TI, TO, i1, i2] → c ∉ fp2 := fun c hc q => h2 c q (hf c hc)
  have m : ∀ {c d : Addr} {l : List Addr}, c ≠ d → c ∉ l → c ∉ d :: l := fun h1 h2 q => by
    rcases List.mem_cons.mp q with q | q
    · exact h1 q
    · exact h2 q
  exact { TIz := D.a1, TOz := D.a2, TITO := D.a3, TIi1 := D.a4, mem1 := by simp, zf1 := m D.a6 (no1 _ (by simp)), Tf1 := m D.a8 (no1 _ (by simp)), TIi2 := D.a5, mem2 := by simp, zf2 := m D.a7 (no2 _ (by simp)), Tf2 := m D.a9 (no2 _ (by simp)), sep1_2 := m D.a10 (no2 _ (by simp)), sep2_1 := m D.a10.symm (no1 _ (by simp)) }
theorem turn_zipS {P : Program} {w : World} {K : PySem.W.Frag} {elts : List Expr} {kk : Nat} {tpos : Pos} (S T : Src) (t u : Tok) {z TI TO i1 i2 : Addr} (D : ZAp z TI TO i1 i2) :
    Turn P w K (.Tuple elts kk tpos) (ItZ S T) [z, TI, TO, i1, i2] z (fun i h => IsZip h z TI TO .none ∧ IsTupOf2 h TI (.ref i1) (.ref i2) ∧ (∃ a1 a2, IsTupOf2 h TO a1 a2) ∧ S.at_ t i1 i h ∧ T.at_ u i2 i h) where
  mem := by simp
  obj := fun i h st c hc => by
    obtain ⟨hz, hTI, ⟨x, y, hTO⟩, h1, h2⟩ := st
    have e' : c = z ∨ c = TI ∨ c = TO ∨ c = i1 ∨ c = i2 := by simpa using hc
    rcases e' with q | q | q | q | q
    · rw [q]; exact ⟨_, hz, fun v q => nomatch q⟩
    · rw [q]; exact ⟨_, hTI, fun v q => nomatch q⟩
    · rw [q]; exact ⟨_, hTO, fun v q => nomatch q⟩
    · rw [q]; exact Src.obj (S := S) h1
    · rw [q]; exact Src.obj (S := T) h2
  keep := fun i h h' st k => by
    obtain ⟨hz, hTI, ⟨x, y, hTO⟩, h1, h2⟩ := st
    exact ⟨k z (by simp) _ hz, k TI (by simp) _ hTI, ⟨x, y, k TO (by simp) _ hTO⟩, Src.keep (S := S) h1 fun o q => k i1 (by simp) o q, Src.keep (S := T) h2 fun o q => k i2 (by simp) o q⟩
  item := by
    intro X hP hw hK hc i pins s σ H E I hf st hg
    subst hP hw hK
    obtain ⟨hz, hTI, ⟨x0, y0, hTO⟩, h1, h2⟩ := st
    obtain ⟨hi, ok1, ok2⟩ := hg
    obtain ⟨fp1, F1, P1, D1, hF1, hfp1, hP1⟩ := Src.draws I hc ok1 t (it := i1) (hf i1 (by simp)).1 (.inr trivial)
    obtain ⟨fp2, F2, P2, D2, hF2, hfp2, hP2⟩ := Src.draws I hc ok2 u (it := i2) (hf i2 (by simp)).1 (.inr trivial)
    have WT := WalksT.zipD2 (zsep D hfp1 hfp2 fun c hc => (hf c hc).1) D1 D2
    have hlt : ∀ c, c ∈ [z, TI, TO, i1, i2] → c < s.heap.objs.size := fun c hcm => by
      have e' : c = z ∨ c = TI ∨ c = TO ∨ c = i1 ∨ c = i2 := by simpa using hcm
      rcases e' with q | q | q | q | q
      · rw [q]; exact Heap.lt_size hz
      · rw [q]; exact Heap.lt_size hTI
      · rw [q]; exact Heap.lt_size hTO
      · rw [q]; obtain ⟨_, e1, _⟩ := Src.obj (S := S) h1; exact Heap.lt_size e1
      · rw [q]; obtain ⟨_, e2, _⟩ := Src.obj (S := T) h2; exact Heap.lt_size e2
    refine WT.item i s _ _ hi ⟨hz, hTI, ⟨x0, y0, hTO⟩, ⟨h1, hF1⟩, ⟨h2, hF2⟩⟩ fun A vals h' tk hPt hA isT mid hk => ?_
    refine ⟨_, rfl, WT.go elts kk tpos i A { s with heap := h', toks := tk } _ _ mid fun h'' st'' hk2 => ?_⟩
    obtain ⟨x1, x2, hx1, hx2, rfl⟩ := hPt
    obtain ⟨y1, hy1, ry1⟩ := hP1 i x1 hx1
    obtain ⟨y2, hy2, ry2⟩ := hP2 i x2 hx2
    have sub : ∀ b, b ∉ [z, TI, TO, i1, i2] → b ∉ [z, TO, i1, i2] := fun b hb q => hb (by
      have e' : b = z ∨ b = TO ∨ b = i1 ∨ b = i2 := by simpa using q
      rcases e' with q | q | q | q <;> simp [q])
    have kept : ∀ b o, b ∉ [z, TI, TO, i1, i2] → s.heap.get? b = some o → h''.get? b = some o := fun b o hb q => hk2 b o (sub b hb) (hk b o (sub b hb) q)
    have hAn : A ∉ [z, TO, i1, i2] := WT.apart i A h' mid
    have new : ObjOk X.prog X.w (upd H A (.tup [y1, y2])) h'' A (.tup [y1, y2]) := by
      refine ⟨by show 2 ≤ sizeLine; decide, [x1, x2], .cons ry1 (.cons ry2 .nil), ?_⟩
      obtain ⟨o, e1, e2⟩ := isT
      exact ⟨o, hk2 A o hAn e1, e2⟩
    have I1 : Inv X pins σ (upd H A (.tup [y1, y2])) { s with heap := h'', toks := tk } := I.turnedNew (ch := [z, TI, TO, i1, i2]) kept hf hA new
    obtain ⟨hz', hTI', hTO', s1', s2'⟩ := st''
    refine ⟨.ref A, _, I1, rfl, ⟨A, y1, y2, rfl, I.hok.fresh hA, rfl, hy1, hy2⟩, ⟨hz', hTI', hTO', s1'.1, s2'.1⟩, fun b hb => ?_⟩
    rw [upd_ne (Nat.ne_of_lt (Nat.lt_of_lt_of_le (hlt b hb) hA))]
    exact (hf b hb).1
  done := by
    intro X hP hw hK hc i pins s σ H E I hf st hg
    subst hP hw hK
    obtain ⟨hz, hTI, ⟨x0, y0, hTO⟩, h1, h2⟩ := st
    obtain ⟨rfl, ok1, ok2⟩ := hg
    obtain ⟨fp1, F1, P1, D1, hF1, hfp1, hP1⟩ := Src.draws I hc ok1 t (it := i1) (hf i1 (by simp)).1 (.inr trivial)
    obtain ⟨fp2, F2, P2, D2, hF2, hfp2, hP2⟩ := Src.draws I hc ok2 u (it := i2) (hf i2 (by simp)).1 (.inr trivial)
    have WT := WalksT.zipD2 (zsep D hfp1 hfp2 fun c hc => (hf c hc).1) D1 D2
    exact WT.done s _ _ ⟨hz, hTI, ⟨x0, y0, hTO⟩, ⟨h1, hF1⟩, ⟨h2, hF2⟩⟩ fun h' tk hk => ⟨rfl, I.turnedL (t' := tk) (ch := [z, TI, TO, i1, i2]) (fun b o hb q => hk b o (fun q' => hb (by
      have e' : b = z ∨ b = TO ∨ b = i1 ∨ b = i2 := by simpa using q'
      rcases e' with q | q | q | q <;> simp [q])) q) hf⟩
  self := fun A i s Q E st h => wpAny_pyIter_zip st.1 h
def iZipS (ta : TA) : TI := fun σ H R => ta σ H fun vs H1 => ∃ (v v' : V) (S T : Src), vs = [v, v'] ∧ S.is v H1 ∧ T.is v' H1 ∧ R (ItZ S T) H1
theorem zap (N : Nat) : ZAp (N + 4) (N + 2) (N + 3) N (N + 1) := by
  constructor <;> (intro h; have h : (_ : Nat) = _ := h; omega)
theorem pi_zipS {X : Cx} {e e2 : Expr} {ta : TA} {p pos tpos : Pos} {elts : List Expr} {kk : Nat} (hg : Gl X "zip") (hm : X.mg "zip" = none) (ha : PA X [e, e2] ta)
    (hs : starEach [e, e2] X.env = (false, eval e X.env) :: starEach [e2] X.env := by rfl) (hpl : (backTo pos (starEach [e2] X.env)).any (·.1) = false := by rfl) :
    PI X (.Tuple elts kk tpos) (.Call (.Name "zip" p) [e, e2] [] pos) (iZipS ta) := by
  refine ⟨fun pins s σ H R I h => ?_⟩
  refine Call_ (ld_blt I hg hm PyProof.Rows.boot_zip (PyProof.Rows.callWith_type1 (thn (ha.run pos pins s σ H _ I h) fun us s1 ⟨vs, H1, I1, r1, q1⟩ => ?_) hs hpl))
  obtain ⟨v, v', S, T, rfl, hS, hT, q⟩ := q1
  cases r1 with
  | cons r rr =>
    cases rr with
    | cons r' rr =>
      cases rr
      obtain ⟨o, t, B, hB, hB1, hat⟩ := src_begins I1 hS r
      obtain ⟨o', t', B', hB', hB1', hat'⟩ := src_begins I1 hT r'
      refine zip_begins2 hB hB' hB1 hB1' fun h' hz hTI hTO e1 e2 hsz hk => wpAny_pyIter_zip hz ?_
      have I2 : Inv X pins σ H1 { s1 with heap := h' } := I1.kept (t' := s1.toks) hk
      refine ⟨s1.heap.objs.size + 4, [s1.heap.objs.size + 4, s1.heap.objs.size + 2, s1.heap.objs.size + 3, s1.heap.objs.size, s1.heap.objs.size + 1], _, _, H1, rfl, I2, turn_zipS S T t t' (zap s1.heap.objs.size), ⟨hz, hTI, ⟨_, _, hTO⟩, hat h' _ e1, hat' h' _ e2⟩, fun c hcm => ?_, q⟩
      have e' : c = s1.heap.objs.size + 4 ∨ c = s1.heap.objs.size + 2 ∨ c = s1.heap.objs.size + 3 ∨ c = s1.heap.objs.size ∨ c = s1.heap.objs.size + 1 := by simpa using hcm
      have hle : s1.heap.objs.size ≤ c := by
        rcases e' with z | z | z | z | z
        · rw [z]; exact Nat.le_add_right _ _
        · rw [z]; exact Nat.le_add_right _ _
        · rw [z]; exact Nat.le_add_right _ _
        · rw [z]; exact Nat.le_refl _
        · rw [z]; exact Nat.le_add_right _ _
      exact I1.fpOk hle (I1.hok.fresh hle)
/-! the data's side -/
theorem src_of {G H : Hp} (e : Same G H) {v : V} {d : D} (q : Rp G v d) {xs : List D} (h : seqN d = .ok xs) : ∃ S : Src, S.is v H ∧ (∀ H', Same G H' → S.ok H') ∧ RpL G S.items xs := by
  cases q with
  | non => cases h
  | bl b => cases h
  | int i => cases h
  | str z =>
    cases h
    refine ⟨.str z, ⟨rfl, trivial⟩, fun _ _ => trivial, ?_⟩
    show RpL G (z.cps.toList.map fun c => V.str ⟨#[c]⟩) _
    induction z.cps.toList with
    | nil => exact .nil
    | cons c cs ih => exact .cons (.str _) ih
  | @lst a xs ds ha ql => cases h; exact ⟨.list a xs, ⟨rfl, e _ _ ha⟩, fun H' e' => e' _ _ ha, ql⟩
  | @tup a xs ds ha ql => cases h; exact ⟨.tup a xs, ⟨rfl, e _ _ ha⟩, fun H' e' => e' _ _ ha, ql⟩
  | scr _ => cases h
theorem pair_step {G H : Hp} (e : Same G H) {A : Addr} (hA : H A = none) {x y : V} {c d : D} (hx : Rp G x c) (hy : Rp G y d) : ∃ G', Step G H G' (upd H A (.tup [x, y])) ∧ Rp G' (.ref A) (.tuple [c, d]) := by
  have st := Step.alloc (o := .tup [x, y]) e hA
  exact ⟨_, st, .tup (upd_same ..) (.cons (hx.ext st.gg) (.cons (hy.ext st.gg) .nil))⟩
theorem walk_enumD {G : Hp} {S : Src} {xs : List D} (ok : ∀ H', Same G H' → S.ok H') (r : RpL G S.items xs) : WalkD (ItE S) (enumD xs) G := by
  have hl : (enumD xs).length = S.items.length := by simp [enumD, r.len]
  refine ⟨fun i H hi g => ⟨by omega, ok H g⟩, fun H g => ⟨hl, ok H g⟩, fun i H x H' hi g y G' g1 g2 d hd => ?_⟩
  obtain ⟨A, v, rfl, hA, rfl, hv⟩ := y
  have hd' : ∃ c, xs[i]? = some c ∧ d = .tuple [.int (i : Nat), c] := by
    unfold enumD at hd
    rw [List.getElem?_map, List.getElem?_zipIdx] at hd
    cases hx : xs[i]? with
    | none => rw [hx] at hd; cases hd
    | some c => rw [hx] at hd; refine ⟨c, rfl, ?_⟩; simpa using hd.symm
  obtain ⟨c, hc, rfl⟩ := hd'
  obtain ⟨v', hv', q⟩ := r.get hc
  rw [hv] at hv'; cases hv'
  exact pair_step g2 hA (.int _) (q.ext g1)
theorem walk_zipD {G : Hp} {S T : Src} {xs ys : List D} (ok : ∀ H', Same G H' → S.ok H') (ok' : ∀ H', Same G H' → T.ok H') (r : RpL G S.items xs) (r' : RpL G T.items ys) : WalkD (ItZ S T) (List.zipWith (fun p q => .tuple [p, q]) xs ys) G := by
  have hl : (List.zipWith (fun p q => PyData.tuple [p, q]) xs ys).length = min S.items.length T.items.length := by rw [List.length_zipWith, r.len, r'.len]
  refine ⟨fun i H hi g => ⟨by omega, ok H g, ok' H g⟩, fun H g => ⟨hl, ok H g, ok' H g⟩, fun i H x H' hi g y G' g1 g2 d hd => ?_⟩
  obtain ⟨A, v, w, rfl, hA, rfl, hv, hw⟩ := y
  have hd' : ∃ c c', xs[i]? = some c ∧ ys[i]? = some c' ∧ d = .tuple [c, c'] := by
    rw [List.getElem?_zipWith] at hd
    cases hx : xs[i]? with
    | none => rw [hx] at hd; cases hd
    | some c =>
      cases hy : ys[i]? with
      | none => rw [hx, hy] at hd; cases hd
      | some c' => rw [hx, hy] at hd; cases hd; exact ⟨c, c', rfl, rfl, rfl⟩
  obtain ⟨c, c', hc, hc', rfl⟩ := hd'
  obtain ⟨v', hv', q⟩ := r.get hc
  obtain ⟨w', hw', q'⟩ := r'.get hc'
  rw [hv] at hv'; cases hv'
  rw [hw] at hw'; cases hw'
  exact pair_step g2 hA (q.ext g1) (q'.ext g1)
section
variable {X : Cx} {W : WX} {cl : Nat → Value} {a b : Expr} {f g : Env → R D} {pos p tpos : Pos} {elts : List Expr} {kk : Nat}
theorem i_enum (hg : Gl X "enumerate") (hm : X.mg "enumerate" = none) (hn : nst a = true) (ha : PE X a (tE W cl f)) : PI X (.Tuple elts kk tpos) (.Call (.Name "enumerate" p) [a] [] pos) (tIt W cl fun env => do
    let x ← f env
    let xs ← seqN x
    pure (enumD xs)) := by
  have hs := starEach_cons hn [] X.env
  refine PI.mono (pi_enumS hg hm (pa_cons ha pa_nil hs) hs) fun σ H R h => tX.mono (tX.bind (ρ := rhE) h) fun v H1 ⟨H0, G, env, x, rel, q1, o⟩ => ?_
  cases hx : seqN x with
  | exc c => cases x <;> cases hx
  | bad => rw [hx] at o; exact False.elim o
  | ok xs =>
    rw [hx] at o
    obtain ⟨S, hS, ok, r⟩ := src_of rel.gh q1 hx
    exact ⟨v, S, rfl, hS, o.ok (Step.refl rel.gh) (walk_enumD ok r)⟩
theorem i_zip (hg : Gl X "zip") (hm : X.mg "zip" = none) (hn : nst a = true) (hn2 : nst b = true) (ha : PE X a (tE W cl f)) (hb : PE X b (tE W cl g)) : PI X (.Tuple elts kk tpos) (.Call (.Name "zip" p) [a, b] [] pos) (tIt W cl fun env => do
    let x ← f env
    let y ← g env
    let xs ← seqN x
    let ys ← seqN y
    pure (List.zipWith (fun p q => .tuple [p, q]) xs ys)) := by
  have hs2 := starEach_cons hn2 [] X.env
  have hs : starEach [a, b] X.env = (false, eval a X.env) :: starEach [b] X.env := starEach_cons hn _ _
  refine PI.mono (pi_zipS hg hm (pa_cons ha (pa_cons hb pa_nil hs2) (starEach_cons hn _ _)) hs (by rw [hs2]; rfl)) fun σ H R h => tX.mono (tX.bind (ρ := rhE) h) fun v H1 ⟨H0, G, env, x, rel, q1, o⟩ => ?_
  refine ⟨H0, G, env, rel, (Out.bind (ρ := rhE) o).mono fun u H2 ⟨y, G2, st, q2, o2⟩ => ?_⟩
  cases hx : seqN x with
  | exc c => cases x <;> cases hx
  | bad => rw [hx] at o2; exact False.elim o2
  | ok xs =>
    rw [hx] at o2
    cases hy : seqN y with
    | exc c => cases y <;> cases hy
    | bad => rw [ok_bind, hy] at o2; exact False.elim o2
    | ok ys =>
      rw [ok_bind, hy] at o2
      obtain ⟨S, hS, ok, r⟩ := src_of st.gh (q1.ext st.gg) hx
      obtain ⟨T, hT, ok', r'⟩ := src_of st.gh q2 hy
      exact ⟨v, u, S, T, rfl, hS, hT, o2.ok (Step.refl st.gh) (walk_zipD ok ok' r r')⟩
end
end M

set_option Elab.async false
set_option linter.all false
set_option maxRecDepth 100000
set_option maxHeartbeats 4000000
namespace M
open PySem PySem.Spec L2
open PyProof.Rows hiding St
/-! ### list comprehensions -/
theorem compF_get {F : D → R (Option D)} : ∀ {items ys : List D} {i : Nat} {d : D}, compF F items = .ok ys → items[i]? = some d → ∃ o, F d = .ok o
  | [], _, _, _, _, h => by simp at h
  | x :: xs, ys, i, d, h, hi => by
    unfold compF at h
    split at h
    · rename_i o ho
      cases i with
      | zero => simp at hi; subst hi; exact ⟨o, ho⟩
      | succ i =>
        split at h
        · rename_i zs hz
          exact compF_get hz (by simpa using hi)
        · cases h
    · cases h
theorem compF_snoc {F : D → R (Option D)} {d : D} {o : Option D} (hd : F d = .ok o) : ∀ {items zs : List D}, compF F items = .ok zs → compF F (items ++ [d]) = .ok (zs ++ o.toList)
  | [], zs, h => by
    cases h
    simp only [List.nil_append, compF, hd]
    cases o <;> rfl
  | x :: xs, zs, h => by
    unfold compF at h
    split at h
    · rename_i o' ho'
      split at h
      · rename_i ws hw
        cases h
        have := compF_snoc hd hw
        simp only [List.cons_append, compF, ho', this]
        cases o' <;> rfl
      · cases h
    · cases h
theorem compF_len {F : D → R (Option D)} : ∀ {items zs : List D}, compF F items = .ok zs → zs.length ≤ items.length
  | [], zs, h => by cases h; simp
  | x :: xs, zs, h => by
    unfold compF at h
    split at h
    · rename_i o' ho'
      split at h
      · rename_i ws hw
        cases h
        have := compF_len hw
        cases o' <;> simp <;> omega
      · cases h
    · cases h
theorem asgn_t2 {a b : Tg} {d : D} {env env' : Env} (h : asgn (.t2 a b) d env = some env') : ∃ x y e1, d = .tuple [x, y] ∧ asgn a x env = some e1 ∧ asgn b y e1 = some env' := by
  cases d with
  | tuple ds =>
    rcases ds with _ | ⟨x, _ | ⟨y, _ | ⟨z, r⟩⟩⟩
    · simp [asgn] at h
    · simp [asgn] at h
    · simp only [asgn] at h
      cases h1 : asgn a x env with
      | none => rw [h1] at h; cases h
      | some e1 => rw [h1] at h; exact ⟨x, y, e1, rfl, h1, h⟩
    · simp [asgn] at h
  | _ => simp [asgn] at h
theorem asgn_t3 {a b c : Tg} {d : D} {env env' : Env} (h : asgn (.t3 a b c) d env = some env') : ∃ x y z e1 e2, asgn a x env = some e1 ∧ asgn b y e1 = some e2 ∧ asgn c z e2 = some env' := by
  have key : ∀ {x y z : D}, ((asgn a x env).bind fun e => (asgn b y e).bind fun e => asgn c z e) = some env' → ∃ x y z e1 e2, asgn a x env = some e1 ∧ asgn b y e1 = some e2 ∧ asgn c z e2 = some env' := by
    intro x y z h
    cases h1 : asgn a x env with
    | none => rw [h1] at h; cases h
    | some e1 =>
      rw [h1, Option.bind_some] at h
      cases h2 : asgn b y e1 with
      | none => rw [h2] at h; cases h
      | some e2 => rw [h2] at h; exact ⟨x, y, z, e1, e2, h1, h2, h⟩
  rcases asgn_t3x h with ⟨x, y, z, _, e⟩ | ⟨x, y, z, _, e⟩
  · exact key e
  · exact key e
theorem asgn_t4 {a b c k : Tg} {d : D} {env env' : Env} (h : asgn (.t4 a b c k) d env = some env') : ∃ x y z w e1 e2 e3, d = .tuple [x, y, z, w] ∧ asgn a x env = some e1 ∧ asgn b y e1 = some e2 ∧ asgn c z e2 = some e3 ∧ asgn k w e3 = some env' := by
  cases d with
  | tuple ds =>
    rcases ds with _ | ⟨x, _ | ⟨y, _ | ⟨z, _ | ⟨w, _ | ⟨u, r⟩⟩⟩⟩⟩
    · simp [asgn] at h
    · simp [asgn] at h
    · simp [asgn] at h
    · simp [asgn] at h
    · simp only [asgn] at h
      cases h1 : asgn a x env with
      | none => rw [h1] at h; cases h
      | some e1 =>
        rw [h1, Option.bind_some] at h
        cases h2 : asgn b y e1 with
        | none => rw [h2] at h; cases h
        | some e2 =>
          rw [h2, Option.bind_some] at h
          cases h3 : asgn c z e2 with
          | none => rw [h3] at h; cases h
          | some e3 => rw [h3] at h; exact ⟨x, y, z, w, e1, e2, e3, rfl, h1, h2, h3, h⟩
    · simp [asgn] at h
  | _ => simp [asgn] at h
theorem asgn_len : ∀ {t : Tg} {d : D} {env env' : Env}, asgn t d env = some env' → env'.length = env.length
  | .name i, d, env, env', h => by
    simp only [asgn] at h
    split at h
    · cases h; simp
    · cases h
  | .t2 a b, d, env, env', h => by
    obtain ⟨x, y, e1, _, h1, h2⟩ := asgn_t2 h
    exact (asgn_len (t := b) h2).trans (asgn_len (t := a) h1)
  | .t3 a b c, d, env, env', h => by
    obtain ⟨x, y, z, e1, e2, h1, h2, h3⟩ := asgn_t3 h
    exact (asgn_len (t := c) h3).trans ((asgn_len (t := b) h2).trans (asgn_len (t := a) h1))
  | .t4 a b c k, d, env, env', h => by
    obtain ⟨x, y, z, w, e1, e2, e3, _, h1, h2, h3, h4⟩ := asgn_t4 h
    exact (asgn_len (t := k) h4).trans ((asgn_len (t := c) h3).trans ((asgn_len (t := b) h2).trans (asgn_len (t := a) h1)))
theorem wipeE_len (env : Env) : ∀ vs : List Nat, (wipeE env vs).length = env.length
  | [] => rfl
  | v :: vs => by unfold wipeE; rw [List.length_set, wipeE_len env vs]
theorem wipe_in {σ : St} {i : Nat} : ∀ {vs : List Nat}, i ∈ vs → i < σ.length → (L2.wipe σ vs)[i]? = some none
  | [], h, _ => by simp at h
  | v :: vs, h, hl => by
    unfold L2.wipe
    by_cases e : v = i
    · subst e
      rw [List.getElem?_set_self (by rw [wipe_length]; exact hl)]
    · rw [List.getElem?_set_ne e]
      rcases List.mem_cons.mp h with h | h
      · exact absurd h.symm e
      · exact wipe_in h hl
theorem wipe_eq {σ σ2 : St} {vs : List Nat} (hl : σ2.length = σ.length) (h : ∀ j, j ∉ vs → σ2[j]? = (L2.wipe σ vs)[j]?) : L2.wipe σ2 vs = L2.wipe σ vs := by
  apply List.ext_getElem?
  intro j
  by_cases hj : j ∈ vs
  · by_cases hlt : j < σ.length
    · rw [wipe_in hj hlt, wipe_in hj (by rw [hl]; exact hlt)]
    · rw [List.getElem?_eq_none (by rw [wipe_length]; omega), List.getElem?_eq_none (by rw [wipe_length]; omega)]
  · rw [wipe_out hj, h j hj]
abbrev W0 : WX := fun _ _ _ _ => False
theorem PTs.mono {X : Cx} {ifs : List Expr} {t t' : TT} (h : PTs X ifs t) (k : ∀ σ H Q, t' σ H Q → t σ H Q) : PTs X ifs t' := ⟨fun pins s σ H Q I q => h.run pins s σ H Q I (k σ H Q q)⟩
theorem c_none {X : Cx} {W : WX} {cl : Nat → Value} : PTs X [] (tTt W cl fun _ => .ok true) := PTs.mono pts_nil fun σ H Q ⟨H0, G, env, rel, o⟩ => o.ok (Step.refl rel.gh) rfl
/-- one comprehension's meaning -/
def compD (t : Tg) (fi : Env → R (List D)) (fc : Env → R Bool) (fe : Env → R D) (env : Env) : R D := do
  let xs ← fi env
  if xs.length ≤ lim then do
    let ys ← (compF (fun d => match asgn t d (wipeE env t.slots) with
      | none => .bad
      | some env1 => do
        let k ← fc env1
        if k then do
          let y ← fe env1
          pure (some y)
        else pure none) xs)
    pure (.list ys)
  else .bad
/-- one turn's meaning -/
def turnD (t : Tg) (fc : Env → R Bool) (fe : Env → R D) (env : Env) (d : D) : R (Option D) := match asgn t d (wipeE env t.slots) with
  | none => .bad
  | some env1 => do
    let k ← fc env1
    if k then do
      let y ← fe env1
      pure (some y)
    else pure none
theorem compF_noexc {F : D → R (Option D)} : ∀ xs c, compF F xs ≠ .exc c := by
  intro xs
  cases xs with
  | nil => intro c z; cases z
  | cons x xs =>
    intro c z
    unfold compF at z
    split at z
    · split at z <;> cases z
    · cases z
/-- the comprehension's list, as it is made -/
theorem t_compC {cl : Nat → Value} {t : Tg} {fc : Env → R Bool} {fe : Env → R D} {σ : St} {H1 H0 G : Hp} {env : Env} {Q : VK} {J : It} {items ys : List D} (rel : Rel H0 G env σ H1) (wk : WalkD J items G) (hlen : items.length ≤ lim) (hc : compF (turnD t fc fe env) items = .ok ys)
    (fin : ∀ D G' H' vs, H1 D = none → Step G H1 G' H' → G' D = none → H' D = some (.lst vs) → RpL G' vs ys → Q (.ref D) H') :
    tLc (fun _ H R => R J H) (tG t) (tTt W0 cl fc) (tE W0 cl fe) t.slots σ H1 Q := by
  generalize hF : turnD t fc fe env = F at hc
  intro D hD
  have hGD : G D = none := rel.gh.free hD
  refine lc_it wk (fun i H => ∃ G' vs zs, Step G H1 G' H ∧ G' D = none ∧ H D = some (.lst vs) ∧ compF F (items.take i) = .ok zs ∧ RpL G' vs zs) ?_ ?_ ?_ ?_
  · exact ⟨G, [], [], ⟨Same.refl _, fun b u hb => by rw [upd_ne (ne_of_none hb hGD)]; exact rel.gh _ _ hb, same_upd hD, fun _ _ _ _ k => k⟩, hGD, upd_same, rfl, .nil⟩
  · rintro i H hi ⟨G', vs, zs, st, _⟩
    exact st.gg.trans st.gh
  · rintro i x H H' hi ⟨G', vs, zs, st, gD, hHD, hz, ql⟩ yd
    have hd : items[i]? = some items[i] := List.getElem?_eq_getElem hi
    obtain ⟨G2, st2, qx⟩ := yd G' st.gg st.gh _ hd
    obtain ⟨oo, hoo⟩ := compF_get hc hd
    have snoc := compF_snoc hoo hz
    have etake : items.take i ++ [items[i]] = items.take (i + 1) := by rw [List.take_append_getElem hi]
    rw [etake] at snoc
    have stA := st.trans st2
    have relW : Rel H0 G2 (wipeE env t.slots) (L2.wipe σ t.slots) H' := (rel.wipe t.slots).step stA
    have hzl : zs.length ≤ i := Nat.le_trans (compF_len hz) (by rw [List.length_take]; omega)
    rw [← hF] at hoo
    unfold turnD at hoo
    split at hoo
    · cases hoo
    · rename_i env1 hasg
      refine ⟨H0, G2, _, _, env1, relW, qx, hasg, fun σ2 r2 k2 => ⟨?_, ?_⟩⟩
      · refine wipe_eq ?_ k2
        rw [← r2.len, asgn_len hasg, wipeE_len, rel.len]
      · refine ⟨H0, G2, env1, r2, ?_⟩
        cases hk : fc env1 with
        | exc c => rw [hk] at hoo; cases hoo
        | bad => rw [hk] at hoo; cases hoo
        | ok kk =>
          rw [hk] at hoo
          simp only [ok_bind] at hoo
          intro b G3 H3 st3 e
          cases e
          have stB := stA.trans st3
          have D3 : H3 D = some (.lst vs) := st3.hh _ _ (st2.hh _ _ hHD)
          have n2 : G2 D = none := st2.no D _ hHD rfl gD
          have n3 : G3 D = none := st3.no D _ (st2.hh _ _ hHD) rfl n2
          cases kk with
          | true =>
            rw [if_pos rfl]
            refine ⟨H0, G3, env1, r2.step st3, ?_⟩
            cases hy : fe env1 with
            | exc c => rw [hy] at hoo; cases hoo
            | bad => rw [hy] at hoo; cases hoo
            | ok y =>
              rw [hy] at hoo
              simp only [if_true, ok_bind] at hoo
              cases hoo
              intro v G4 H4 st4 qv
              have stC := stB.trans st4
              have D4 : H4 D = some (.lst vs) := st4.hh _ _ D3
              have n4 : G4 D = none := st4.no D _ D3 rfl n3
              refine ⟨vs, D4, ?_, G4, vs ++ [v], zs ++ [y], ⟨stC.gg, fun b u hb => ?_, fun b u hb => ?_, stC.no⟩, n4, upd_same, snoc, RpL.app (RpL.ext (st2.gg.trans (st3.gg.trans st4.gg)) ql) (.cons qv .nil)⟩
              · have := RpL.len ql
                have h1 := lim_le
                omega
              · rw [upd_ne (ne_of_none hb n4)]; exact stC.gh _ _ hb
              · rw [upd_ne (ne_of_none hb hD)]; exact stC.hh _ _ hb
          | false =>
            rw [if_neg (by decide)]
            simp only [Bool.false_eq_true, if_false] at hoo
            cases hoo
            exact ⟨G3, vs, zs, stB, n3, D3, by simpa using snoc, RpL.ext (st2.gg.trans st3.gg) ql⟩
  · rintro H ⟨G', vs, zs, st, gD, hHD, hz, ql⟩
    rw [List.take_length] at hz
    rw [hc] at hz
    cases hz
    exact fin D G' H vs hD st gD hHD ql
theorem t_comp {W : WX} {cl : Nat → Value} {t : Tg} {fi : Env → R (List D)} {fc : Env → R Bool} {fe : Env → R D} {σ : St} {H : Hp} {Q : VK} (h : tE W cl (compD t fi fc fe) σ H Q) :
    tLc (tIt W cl fi) (tG t) (tTt W0 cl fc) (tE W0 cl fe) t.slots σ H Q := by
  refine tX.mono (tX.bind (ρ := rhI) h) fun J H1 ⟨H0, G, env, items, rel, wk, o⟩ => ?_
  split at o
  rotate_left
  · exact False.elim o
  rename_i hlen
  have o : Out rhE W cl σ G H1 (compF (turnD t fc fe env) items >>= fun ys => pure (.list ys)) Q := o
  cases hc : compF (turnD t fc fe env) items with
  | exc c => exact absurd hc (compF_noexc _ _)
  | bad => rw [hc] at o; exact False.elim o
  | ok ys =>
    rw [hc] at o
    have o' : Out rhE W cl σ G H1 (.ok (.list ys)) Q := o
    exact t_compC rel wk hlen hc fun D G' H vs hD st gD hHD ql => by
      have hGD : G D = none := rel.gh.free hD
      refine o'.ok (G' := upd G' D (.lst vs)) ⟨fun b u hb => ?_, fun b u hb => ?_, st.hh, fun p o hp t k => ?_⟩ (.lst upd_same (RpL.ext (same_upd gD) ql))
      · rw [upd_ne (ne_of_none hb hGD)]; exact st.gg _ _ hb
      · by_cases e : b = D
        · subst e; rw [upd_same] at hb; cases hb; exact hHD
        · rw [upd_ne e] at hb; exact st.gh _ _ hb
      · rw [upd_ne (ne_of_none hp hD)]; exact st.no p o hp t k
end M

set_option Elab.async false
set_option linter.all false
set_option maxRecDepth 100000
set_option maxHeartbeats 4000000
namespace M
open PySem PySem.Spec L2
open PyProof.Rows hiding St
/-! ### statements -/
structure Up (H0 G G' : Hp) : Prop where
  gg : Same G G'
  no : ∀ p o, H0 p = some o → notTup o = true → G p = none → G' p = none
theorem Up.refl {H0 G : Hp} : Up H0 G G := ⟨Same.refl _, fun _ _ _ _ h => h⟩
theorem Up.trans {H0 G G1 G2 : Hp} (a : Up H0 G G1) (b : Up H0 G1 G2) : Up H0 G G2 := ⟨a.gg.trans b.gg, fun p o h t n => b.no p o h t (a.no p o h t n)⟩
theorem Rel.up {H0 G G' H H' : Hp} {env : Env} {σ : St} (r : Rel H0 G env σ H) (st : Step G H G' H') : Up H0 G G' := ⟨st.gg, fun p o h t n => st.no p o (r.h0 _ _ h) t n⟩
def Post (H0 : Hp) (W : WX) (cl : Nat → Value) (D : Ends) (G : Hp) (r : Rs) : Prop := match r with
  | .nx env => ∀ σ G' H', Up H0 G G' → Rel H0 G' env σ H' → D.nx σ H'
  | .rt d => ∀ v G' H', Up H0 G G' → Same G' H' → Same H0 H' → Rp G' v d → D.rt v H'
  | .exc c env => ∀ σ G' H', Up H0 G G' → Rel H0 G' env σ H' → W (cl c) none σ H'
  | .bad => False
theorem Post.up {H0 : Hp} {W : WX} {cl : Nat → Value} {D : Ends} {G G' : Hp} {r : Rs} (p : Post H0 W cl D G r) (u : Up H0 G G') : Post H0 W cl D G' r := by
  cases r with
  | nx env => exact fun σ G2 H2 u2 r2 => p σ G2 H2 (u.trans u2) r2
  | rt d => exact fun v G2 H2 u2 => p v G2 H2 (u.trans u2)
  | exc c env => exact fun σ G2 H2 u2 r2 => p σ G2 H2 (u.trans u2) r2
  | bad => exact p
def tSt (W : WX) (cl : Nat → Value) (f : Env → Rs) : TS := fun D σ H => ∃ H0 G env, Rel H0 G env σ H ∧ Post H0 W cl D G (f env)
theorem PSs.eq {X : Cx} {sts : List Stmt} {W : WX} {cl : Nat → Value} {f g : Env → Rs} (h : PSs X sts (tSt W cl f)) (e : ∀ env, g env = f env) : PSs X sts (tSt W cl g) := by
  have : g = f := funext e
  rw [this]; exact h
/-- an expression, then a continuation -/
theorem then_out {α β : Type} {ρ : Hp → Hp → β → α → Prop} {H0 : Hp} {W : WX} {cl : Nat → Value} {D : Ends} {G H : Hp} {env : Env} {σ : St} {r : R α} {k : α → Rs} (rel : Rel H0 G env σ H) (p : Post H0 W cl D G (r.then_ env k)) :
    Out ρ W cl σ G H r fun b H1 => ∃ a G1, Step G H G1 H1 ∧ ρ G1 H1 b a ∧ Rel H0 G1 env σ H1 ∧ Post H0 W cl D G1 (k a) := by
  cases r with
  | ok a => exact fun b G1 H1 st q => ⟨a, G1, st, q, rel.step st, Post.up (r := k a) p (rel.up st)⟩
  | exc c => exact fun G1 H1 st => p σ G1 H1 (rel.up st) (rel.step st)
  | bad => exact p
section
variable {X : Cx} {W : WX} {cl : Nat → Value} {a b c e : Expr} {st : Stmt} {rest sts : List Stmt} {f g k : Env → R D} {F A B : Env → Rs} {pos : Pos}
theorem s_nil : PSs X [] (tSt W cl fun env => .nx env) := PSs.mono pss_nil fun D σ H ⟨H0, G, env, rel, p⟩ => p σ G H Up.refl rel
theorem s_seq (h1 : PS X st (tSt W cl A)) (h2 : PSs X rest (tSt W cl B)) : PSs X (st :: rest) (tSt W cl fun env => (A env).seq B) :=
  PSs.mono (pss_cons h1 h2) fun D σ H ⟨H0, G, env, rel, p⟩ => ⟨H0, G, env, rel, by
    dsimp only at p
    cases hA : A env with
    | nx env' => rw [hA] at p; exact fun σ' G' H' u r => ⟨H0, G', env', r, Post.up (r := B env') p u⟩
    | rt d => rw [hA] at p; exact p
    | exc c env' => rw [hA] at p; exact p
    | bad => rw [hA] at p; exact p⟩
/-- behind a statement that does not go on -/
theorem s_last (h1 : PS X st (tSt W cl A)) (hA : ∀ env env', A env ≠ .nx env') : PSs X (st :: rest) (tSt W cl A) :=
  PSs.mono (pss_cons h1 pss_never) fun D σ H ⟨H0, G, env, rel, p⟩ => ⟨H0, G, env, rel, by
    cases h : A env with
    | nx env' => exact absurd h (hA env env')
    | rt d => rw [h] at p; exact p
    | exc c env' => rw [h] at p; exact p
    | bad => rw [h] at p; exact p⟩
def mAsg (t : Tg) (f : Env → R D) (env : Env) : Rs := (f env).then_ env fun d => match asgn t d env with
  | some env' => .nx env'
  | none => .bad
theorem t_asg {t : Tg} {D : Ends} {σ : St} {H : Hp} (h : tSt W cl (mAsg t f) D σ H) : tAsg (tE W cl f) (tG t) D σ H := by
  obtain ⟨H0, G, env, rel, p⟩ := h
  refine ⟨H0, G, env, rel, (then_out (ρ := rhE) rel p).mono fun v H1 ⟨d, G1, st, q, rel1, p1⟩ => ?_⟩
  cases ha : asgn t d env with
  | none => rw [ha] at p1; exact False.elim p1
  | some env' => rw [ha] at p1; exact ⟨H0, G1, env, d, env', rel1, q, ha, fun σ' r' _ => p1 σ' G1 H1 Up.refl r'⟩
/-- a pair of written tuples is stored otherwise -/
def plstore : Expr → Expr → Bool
  | .Tuple .., .Tuple .. => false
  | .List .., .Tuple .. => false
  | _, _ => true
theorem plstore_ok {t v : Expr} (h : plstore t v = true) (env : PySem.Env) : swappedStores [t] v env = pure none := by
  cases t <;> first | rfl | skip
  · cases v <;> first | (simp [plstore] at h; done) | rfl
  · cases v <;> first | (simp [plstore] at h; done) | rfl
def isTupT : Expr → Bool
  | .Tuple .. => true
  | _ => false
def swpl (tg v : Expr) : Bool := plsw v || isTupT tg
theorem swpl_ok {tg v : Expr} (h : swpl tg v = true) (l : Nat) (env : PySem.Env) : swapsWith v (some tg) l env = pure false := by
  rcases (Bool.or_eq_true _ _).mp h with h | h
  · exact plsw_ok h _ _ _
  · cases tg <;> first | (cases h; done) | skip
    cases v <;> rfl
theorem s_asg {tg : Expr} {t : Tg} (hsw : swpl tg e = true) (hst : plstore tg e = true) (hn : nstT tg = true) (he : PE X e (tE W cl f)) (hg : PG X tg (tG t)) : PS X (.Assign [tg] e pos) (tSt W cl (mAsg t f)) :=
  PS.mono (ps_asg he hg (swpl_ok hsw _ _) (plstore_ok hst _) (by rw [asgEach_cons hn]; rfl)) fun D σ H h => t_asg h
theorem s_ret (he : PE X e (tE W cl f)) : PS X (.Return (some e) pos) (tSt W cl fun env => (f env).then_ env .rt) :=
  PS.mono (ps_ret he) fun D σ H ⟨H0, G, env, rel, p⟩ => ⟨H0, G, env, rel, (then_out (ρ := rhE) rel p).mono fun v H1 ⟨d, G1, st, q, rel1, p1⟩ => p1 v G1 H1 Up.refl rel1.gh rel1.h0 q⟩
theorem s_exp (hsw : plsw e = true) (he : PE X e (tE W cl f)) : PS X (.Expr e pos) (tSt W cl fun env => (f env).then_ env fun _ => .nx env) :=
  PS.mono (ps_expr he (plsw_ok hsw _ _ _)) fun D σ H ⟨H0, G, env, rel, p⟩ => ⟨H0, G, env, rel, (then_out (ρ := rhE) rel p).mono fun v H1 ⟨d, G1, st, q, rel1, p1⟩ => p1 σ G1 H1 Up.refl rel1⟩
theorem s_pass : PS X (.Pass pos) (tSt W cl .nx) := PS.mono ps_pass fun D σ H ⟨H0, G, env, rel, p⟩ => p σ G H Up.refl rel

theorem s_if {aa bb : List Stmt} (hc : PT X c (tTt W cl fun env => do let x ← k env; truth x)) (ha : PSs X aa (tSt W cl A)) (hb : PSs X bb (tSt W cl B)) :
    PS X (.If c aa bb pos) (tSt W cl fun env => (k env).then_ env fun x => (truth x).then_ env fun t => if t then A env else B env) :=
  PS.mono (ps_if hc ha hb) fun D σ H ⟨H0, G, env, rel, p⟩ => ⟨H0, G, env, rel, by
    have e : ((k env).then_ env fun x => (truth x).then_ env fun t => if t then A env else B env) = ((do let x ← k env; truth x : R Bool).then_ env fun t => if t then A env else B env) := by
      cases k env <;> rfl
    dsimp only at p
    rw [e] at p
    refine (then_out (ρ := rhB) rel p).mono fun v H1 ⟨d, G1, st, q, rel1, p1⟩ => ?_
    cases q
    cases v with
    | true => rw [if_pos rfl]; exact ⟨H0, G1, env, rel1, p1⟩
    | false => rw [if_neg (by decide)]; exact ⟨H0, G1, env, rel1, p1⟩⟩
theorem s_while {body : List Stmt} {fc : Env → R Bool} (n : Nat) (hp : PassesOwn (model X.prog X.w) X.A X.env X.xe) (hc : PT X c (tTt W cl fc)) (hb : PSs X body (tSt W cl B)) :
    PS X (.While c body [] pos) (tSt W cl fun env => whileL fc B n env) :=
  PS.mono (ps_while hp hc hb) fun D σ H ⟨H0, G0, env0, rel0, p0⟩ => by
    refine ⟨fun m σ H => ∃ G env, Rel H0 G env σ H ∧ Post H0 W cl D G (whileL fc B m env), ⟨n, G0, env0, rel0, p0⟩, ?_⟩
    rintro m σ H ⟨G, env, rel, p⟩
    cases m with
    | zero => exact False.elim p
    | succ m =>
      refine ⟨H0, G, env, rel, (then_out (ρ := rhB) (r := fc env) (k := fun k => if k then (B env).seq (whileL fc B m) else .nx env) rel p).mono fun v H1 ⟨d, G1, st, q, rel1, p1⟩ => ?_⟩
      cases q
      cases v with
      | true =>
        rw [if_pos rfl]
        refine ⟨fun σ H => ∃ G env, Rel H0 G env σ H ∧ Post H0 W cl D G (whileL fc B m env), fun σ' H' h => ⟨m, Nat.lt_succ_self _, h⟩, H0, G1, env, rel1, ?_⟩
        simp only [if_true] at p1
        cases hB : B env with
        | nx env' => rw [hB] at p1; exact fun σ' G' H' u r => ⟨G', env', r, Post.up (r := whileL fc B m env') p1 u⟩
        | rt d => rw [hB] at p1; exact p1
        | exc c env' => rw [hB] at p1; exact p1
        | bad => rw [hB] at p1; exact p1
      | false =>
        rw [if_neg (by decide)]
        exact p1 σ G1 H1 Up.refl rel1
theorem s_for {tg iter : Expr} {body : List Stmt} {t : Tg} {fi : Env → R (List D)} (hp : PassesOwn (model X.prog X.w) X.A X.env X.xe) (hc : X.calm = true) (hs : plset iter = true) (hi : PI X tg iter (tIt W cl fi)) (hg : PG X tg (tG t)) (hb : PSs X body (tSt W cl B)) :
    PS X (.For tg iter body [] pos) (tSt W cl fun env => (fi env).then_ env fun xs => forL (fun d env => match asgn t d env with
      | some env' => B env'
      | none => .bad) xs env) :=
  PS.mono (ps_for hp hc hi hg hb (plset_it hs X.env)) fun D σ H ⟨H0, G0, env0, rel0, p0⟩ => by
    refine ⟨H0, G0, env0, rel0, (then_out (ρ := rhI) rel0 p0).mono fun J H1 ⟨items, G1, st, wk, rel1, p1⟩ => ?_⟩
    generalize hF : (fun (d : M.D) (env : M.Env) => match asgn t d env with
      | some env' => B env'
      | none => Rs.bad) = F at p1
    refine for_it wk (fun i σ H => ∃ G env, Rel H0 G env σ H ∧ Up H0 G1 G ∧ Post H0 W cl D G (forL F (items.drop i) env)) ⟨G1, env0, rel1, Up.refl, p1⟩ ?_ ?_ ?_
    · rintro i σ H hi ⟨G, env, rel, u, _⟩
      exact u.gg.trans rel.gh
    · rintro i x σ H H' hi ⟨G, env, rel, u, p⟩ yd
      obtain ⟨G2, st2, qx⟩ := yd G u.gg rel.gh _ (List.getElem?_eq_getElem hi)
      rw [List.drop_eq_getElem_cons hi] at p
      have p2 : Post H0 W cl D G ((F items[i] env).seq (forL F (items.drop (i + 1)))) := p
      have rel2 := rel.step st2
      have u2 := rel.up st2
      have p3 := Post.up p2 u2
      rw [← hF] at p3
      dsimp only at p3
      cases ha : asgn t items[i] env with
      | none => rw [ha] at p3; exact False.elim p3
      | some env1 =>
        rw [ha] at p3
        dsimp only at p3
        rw [hF] at p3
        refine ⟨H0, G2, env, _, env1, rel2, qx, ha, fun σ' r' _ => ⟨H0, G2, env1, r', ?_⟩⟩
        cases hB : B env1 with
        | nx env' => rw [hB] at p3; exact fun σ'' G' H'' u3 r3 => ⟨G', env', r3, (u.trans u2).trans u3, Post.up (r := forL F (items.drop (i + 1)) env') p3 u3⟩
        | rt d => rw [hB] at p3; exact p3
        | exc c env' => rw [hB] at p3; exact p3
        | bad => rw [hB] at p3; exact p3
    · rintro σ H ⟨G, env, rel, u, p⟩
      rw [List.drop_length] at p
      exact p σ G H Up.refl rel
/-! things of its own -/
theorem set_same {σ : St} {i : Nat} {v : V} (h : σ[i]? = some (some v)) : σ.set i (some v) = σ := by
  apply List.ext_getElem?
  intro j
  by_cases hj : i = j
  · subst hj
    rw [List.getElem?_set_self (List.getElem?_eq_some_iff.mp h).1, h]
  · rw [List.getElem?_set_ne hj]
/-- the list at slot i changed to other data -/
theorem Rel.write {H0 G H : Hp} {env : Env} {σ : St} {i : Nat} {ds ds' : List D} {p : Addr} {vs' : List V} (r : Rel H0 G env σ H) (h : env[i]? = some (some (.own ds))) (hs : σ[i]? = some (some (.ref p))) (gp : G p = none) (hp : H0 p = none) (q : RpL G vs' ds') :
    Rel H0 G (env.set i (some (.own ds'))) σ (upd H p (.lst vs')) := by
  have := Rel.setOwn (H' := upd H p (.lst vs')) (w := .own ds') r (List.getElem?_eq_some_iff.mp h).1 rfl (fun b u hb => by rw [upd_ne (ne_of_none hb gp)]; exact r.gh _ _ hb) (fun b u hb => by rw [upd_ne (ne_of_none hb hp)]; exact r.h0 _ _ hb)
    ⟨p, vs', rfl, gp, hp, upd_same, q⟩ (fun q o hq ho => by rw [upd_ne hq]; exact ho) fun j wj hj h1 h2 => r.apart hj h rfl hs h1 h2
  rw [set_same hs] at this
  exact this
theorem s_app {i : Nat} {o : Expr} {ap epos : Pos} (hline : (ap.endLine == pos.line) = true) (hbase : plbase o = true) (hn : nst e = true) (hv : PE X o (tVar i)) (he : PE X e (tE W cl f)) :
    PS X (.Expr (.Call (.Attribute o "append" ap) [e] [] pos) epos) (tSt W cl fun env => match env[i]? with
      | some (some (.own ds)) => (f env).then_ env fun d => if ds.length < lim then .nx (env.set i (some (.own (ds ++ [d])))) else .bad
      | _ => .bad) := by
  have s1 := starEach_cons hn [] X.env
  have few : ((backTo pos (starEach [e] X.env)).all (fun x => !x.1) && (backToKw pos (keywordEach [] X.env)).all (fun x => x.1.isSome)
      && decide ([e].length + ([] : List Keyword).length + (if ([] : List Keyword).isEmpty then 0 else 1) < 30)) = true := by
    rw [star_all (es := [e]) (by simpa using hn)]; rfl
  refine PS.mono (ps_expr (pe_bm F.plainAttrs_list F.slot_list_append F.type_list_append mt_append hv (pa_cons he pa_nil s1) (plbase_ok hbase _ _ _) few hline s1 rfl) rfl) fun D σ H ⟨H0, G, env, rel, p⟩ => ?_
  dsimp only at p
  split at p
  · rename_i ds hi
    obtain ⟨v, h1, a, vs, rfl, ga, h0a, ha, ql⟩ := rel.at_ i _ hi
    refine ⟨_, h1, .inl ⟨rfl, vs, SqL.of ha⟩, H0, G, env, rel, (then_out (ρ := rhE) rel p).mono fun u H1 ⟨d, G1, st, q, rel1, p1⟩ => ?_⟩
    split at p1
    · rename_i hl
      refine ⟨a, vs, u, rfl, rfl, st.hh _ _ ha, ?_, ?_⟩
      · have := lim_le; have := ql.len; omega
      · exact p1 σ G1 _ Up.refl (rel1.write hi h1 (st.no a _ ha rfl ga) h0a ((ql.ext st.gg).app (.cons q .nil)))
    · exact False.elim p1
  · exact False.elim p
theorem s_ext {i : Nat} {o : Expr} {ap epos : Pos} (hline : (ap.endLine == pos.line) = true) (hbase : plbase o = true) (hn : nst e = true) (hv : PE X o (tVar i)) (he : PE X e (tE W cl f)) :
    PS X (.Expr (.Call (.Attribute o "extend" ap) [e] [] pos) epos) (tSt W cl fun env => match env[i]? with
      | some (some (.own ds)) => (f env).then_ env fun d => (match d with
        | .list es => if ds.length + es.length ≤ lim then .nx (env.set i (some (.own (ds ++ es)))) else .bad
        | _ => .bad)
      | _ => .bad) := by
  have s1 := starEach_cons hn [] X.env
  have few : ((backTo pos (starEach [e] X.env)).all (fun x => !x.1) && (backToKw pos (keywordEach [] X.env)).all (fun x => x.1.isSome)
      && decide ([e].length + ([] : List Keyword).length + (if ([] : List Keyword).isEmpty then 0 else 1) < 30)) = true := by
    rw [star_all (es := [e]) (by simpa using hn)]; rfl
  refine PS.mono (ps_expr (pe_bm F.plainAttrs_list F.slot_list_extend F.type_list_extend mt_extend hv (pa_cons he pa_nil s1) (plbase_ok hbase _ _ _) few hline s1 rfl) rfl) fun D σ H ⟨H0, G, env, rel, p⟩ => ?_
  dsimp only at p
  split at p
  · rename_i ds hi
    obtain ⟨v, h1, a, vs, rfl, ga, h0a, ha, ql⟩ := rel.at_ i _ hi
    refine ⟨_, h1, .inl ⟨rfl, vs, SqL.of ha⟩, H0, G, env, rel, (then_out (ρ := rhE) rel p).mono fun u H1 ⟨d, G1, st, q, rel1, p1⟩ => ?_⟩
    cases q with
    | lst hb qb =>
      dsimp only at p1
      split at p1
      · rename_i hl
        refine ⟨a, _, vs, _, rfl, rfl, st.hh _ _ ha, st.gh _ _ hb, ?_, ?_⟩
        · have := lim_le; have := ql.len; have := qb.len; omega
        · exact p1 σ G1 _ Up.refl (rel1.write hi h1 (st.no a _ ha rfl ga) h0a ((ql.ext st.gg).app qb))
      · exact False.elim p1
    | _ => exact False.elim p1
  · exact False.elim p
theorem s_seti {i : Nat} {o ix : Expr} {tpos : Pos} {fk : Env → R D} (hsw : plsw e = true) (hv : PE X o (tVar i)) (hk : PE X ix (tE W cl fk)) (he : PE X e (tE W cl f))
    (ha : ∀ v, assign (.Subscript o ix tpos) X.env v = (do
      let ov ← holding [v] (eval o X.env)
      let iv ← holding [v, ov] (eval ix X.env)
      standAt tpos
      holding [v, ov, iv] (setItem ov iv v)
      release [v, ov, iv] [])) :
    PS X (.Assign [.Subscript o ix tpos] e pos) (tSt W cl fun env => match env[i]? with
      | some (some (.own ds)) => (f env).then_ env fun d => (fk env).then_ env fun x => (match x with
        | .int n => (match L2.ixN ds.length n with
          | some j => .nx (env.set i (some (.own (ds.set j d))))
          | none => .bad)
        | _ => .bad)
      | _ => .bad) := by
  refine PS.mono (ps_asg he (pg_sub hv hk set_list ha) (plsw_ok hsw (some (.Subscript o ix tpos)) pos.line X.env) rfl rfl) fun D σ H ⟨H0, G, env, rel, p⟩ => ?_
  dsimp only at p
  split at p
  · rename_i ds hi
    obtain ⟨v, h1, a, vs, rfl, ga, h0a, ha, ql⟩ := rel.at_ i _ hi
    refine ⟨H0, G, env, rel, (then_out (ρ := rhE) rel p).mono fun u H1 ⟨d, G1, st, q, rel1, p1⟩ => ?_⟩
    refine ⟨_, h1, H0, G1, env, rel1, (then_out (ρ := rhE) rel1 p1).mono fun w H2 ⟨x, G2, st2, q2, rel2, p2⟩ => ?_⟩
    cases q2 with
    | int n =>
      dsimp only at p2
      split at p2
      · rename_i j hj
        have stA := st.trans st2
        have qlA := ql.ext stA.gg
        refine ⟨a, vs, n, j, rfl, rfl, stA.hh _ _ ha, by rw [ql.len]; exact hj, ?_⟩
        exact p2 σ G2 _ Up.refl (rel2.write hi h1 (stA.no a _ ha rfl ga) h0a (qlA.set (q.ext st2.gg) j))
      · exact False.elim p2
    | _ => exact False.elim p2
  · exact False.elim p
/-- a new list of its own -/
theorem Rel.newOwn {H0 G H : Hp} {env : Env} {σ : St} {i : Nat} {ds : List D} {p : Addr} {vs : List V} (r : Rel H0 G env σ H) (hi : i < env.length) (hn : H p = none) (q : RpL G vs ds) : Rel H0 G (env.set i (some (.own ds))) (σ.set i (some (.ref p))) (upd H p (.lst vs)) := by
  have gp : G p = none := r.gh.free hn
  have hp : H0 p = none := r.h0.free hn
  exact Rel.setOwn (w := .own ds) r hi rfl (fun b u hb => by rw [upd_ne (ne_of_none hb gp)]; exact r.gh _ _ hb) (fun b u hb => by rw [upd_ne (ne_of_none hb hp)]; exact r.h0 _ _ hb)
    ⟨p, vs, rfl, gp, hp, upd_same, q⟩ (fun q o hq ho => by rw [upd_ne hq]; exact ho) fun j wj hj h1 h2 => r.apartNew hn h1 h2
theorem s_newL {i : Nat} {tg : Expr} {es : List Expr} {lpos : Pos} {fs : Env → R (List D)} (hn : nstT tg = true) (hg : PG X tg (gName i)) (ha : PA X es (tAs W cl fs)) :
    PS X (.Assign [tg] (.List es lpos) pos) (tSt W cl fun env => (do
        let xs ← fs env
        if xs.length ≤ lim then .ok (.list xs) else .bad : R D).then_ env fun d => match d with
      | .list ds => putW env i (.own ds)
      | _ => .bad) := by
  refine PS.mono (ps_asg (pe_lst ha) hg (plsw_ok (e := .List es lpos) rfl (some tg) pos.line X.env) (plstore_ok (by cases tg <;> rfl) _) (by rw [asgEach_cons hn]; rfl)) fun D σ H ⟨H0, G, env, rel, p⟩ => ?_
  have e : ((do
        let xs ← fs env
        if xs.length ≤ lim then .ok (.list xs) else .bad : R M.D).then_ env fun d => match d with
      | .list ds => putW env i (.own ds)
      | _ => .bad) = ((fs env).then_ env fun xs => if xs.length ≤ lim then putW env i (.own xs) else .bad) := by
    cases fs env with
    | ok xs => simp only [ok_bind, ok_then]; split <;> rfl
    | exc c => rfl
    | bad => rfl
  dsimp only at p
  rw [e] at p
  refine ⟨H0, G, env, rel, (then_out (ρ := rhL) rel p).mono fun vs H1 ⟨xs, G1, st, q, rel1, p1⟩ => ?_⟩
  split at p1
  · rename_i hl
    refine ⟨by rw [RpL.len q]; exact Nat.le_trans hl lim_le, fun l hnl => ?_⟩
    unfold putW at p1
    split at p1
    · rename_i hil
      exact p1 _ G1 _ Up.refl (rel1.newOwn hil hnl q)
    · exact False.elim p1
  · exact False.elim p1
theorem s_newAdd {i : Nat} {tg : Expr} {bpos : Pos} (hn : nstT tg = true) (hg : PG X tg (gName i)) (ha : PE X a (tX rhQ W cl f)) (hb : PE X b (tX rhQ W cl g)) :
    PS X (.Assign [tg] (.BinOp a .Add b bpos) pos) (tSt W cl fun env => (do
        let x ← f env
        let y ← g env
        addD x y : R D).then_ env fun d => match d with
      | .list ds => putW env i (.own ds)
      | _ => .bad) := by
  refine PS.mono (ps_asg (pe_op op_cat ha hb) hg (plsw_ok (e := .BinOp a .Add b bpos) rfl (some tg) pos.line X.env) (plstore_ok (by cases tg <;> rfl) _) (by rw [asgEach_cons hn]; rfl)) fun D σ H ⟨H0, G, env, rel, p⟩ => ?_
  have e : ((do
        let x ← f env
        let y ← g env
        addD x y : R M.D).then_ env fun d => match d with
      | .list ds => putW env i (.own ds)
      | _ => .bad) = ((f env).then_ env fun x => (g env).then_ env fun y => match x, y with
        | .list xs, .list ys => if xs.length + ys.length ≤ lim then putW env i (.own (xs ++ ys)) else .bad
        | _, _ => .bad) := by
    cases f env with
    | ok x =>
      cases g env with
      | ok y =>
        simp only [ok_bind, ok_then]
        cases x <;> cases y <;> first | rfl | skip
        all_goals simp only [addD]
        all_goals (split <;> rfl)
      | exc c => rfl
      | bad => rfl
    | exc c => rfl
    | bad => rfl
  dsimp only at p
  rw [e] at p
  refine ⟨H0, G, env, rel, (then_out (ρ := rhQ) rel p).mono fun v H1 ⟨x, G1, st, q, rel1, p1⟩ => ?_⟩
  refine ⟨H0, G1, env, rel1, (then_out (ρ := rhQ) rel1 p1).mono fun u H2 ⟨y, G2, st2, q2, rel2, p2⟩ => ?_⟩
  have q := Rq.step q st2
  cases x <;> first | exact False.elim p2 | skip
  cases y <;> first | exact False.elim p2 | skip
  rename_i xs ys
  obtain ⟨l, vs, rfl, h1, q1⟩ := q.list rel2.gh
  obtain ⟨l2, vs2, rfl, h2, q2⟩ := q2.list rel2.gh
  dsimp only at p2
  split at p2
  · rename_i hl
    refine ⟨l, l2, vs, vs2, rfl, rfl, h1, h2, by rw [q1.len, q2.len]; exact Nat.le_trans hl lim_le, fun k hnl => ?_⟩
    unfold putW at p2
    split at p2
    · rename_i hil
      exact p2 _ G2 _ Up.refl (rel2.newOwn hil hnl (q1.app q2))
    · exact False.elim p2
  · exact False.elim p2
theorem s_frz {i : Nat} (h : PSs X sts (tSt W cl A)) : PSs X sts (tSt W cl fun env => match env[i]? with
    | some (some (.own ds)) => A (env.set i (some (.val (.list ds))))
    | _ => .bad) := PSs.mono h fun D σ H ⟨H0, G, env, rel, p⟩ => by
  dsimp only at p
  split at p
  · rename_i ds hi
    obtain ⟨v, h1, a, vs, rfl, ga, h0a, ha, ql⟩ := rel.at_ i _ hi
    have u : Up H0 G (upd G a (.lst vs)) := ⟨same_upd ga, fun p o h _ n => by rw [upd_ne (ne_of_none h h0a)]; exact n⟩
    refine ⟨H0, upd G a (.lst vs), _, ⟨fun b o hb => ?_, rel.h0, by simp [rel.len], fun j w h => ?_, fun j k wj wk x hjk h2 h3 o1 o2 h4 => ?_⟩, Post.up p u⟩
    · by_cases e : b = a
      · subst e; rw [upd_same] at hb; cases hb; exact ha
      · rw [upd_ne e] at hb; exact rel.gh _ _ hb
    · by_cases hj : i = j
      · subst hj
        rw [List.getElem?_set_self (List.getElem?_eq_some_iff.mp hi).1] at h
        cases h
        exact ⟨_, h1, .lst upd_same (ql.ext (same_upd ga))⟩
      · rw [List.getElem?_set_ne hj] at h
        obtain ⟨v, h2, h3⟩ := rel.at_ j w h
        refine ⟨v, h2, ?_⟩
        cases w with
        | val d => exact Rp.ext (same_upd ga) h3
        | own es =>
          obtain ⟨q, ws, e, a1, b1, c1, d1⟩ := h3
          subst e
          have ne : q ≠ a := fun z => by subst z; exact rel.apart (Ne.symm hj) hi rfl h1 h rfl h2
          exact ⟨q, ws, rfl, by rw [upd_ne ne]; exact a1, b1, c1, d1.ext (same_upd ga)⟩
        | dk es =>
          obtain ⟨q, ws, e, a1, b1, c1, d1⟩ := h3
          subst e
          have ne : q ≠ a := fun z => by subst z; exact rel.apart (Ne.symm hj) hi rfl h1 h rfl h2
          exact ⟨q, ws, rfl, by rw [upd_ne ne]; exact a1, b1, c1, d1.ext (same_upd ga)⟩
        | dt es =>
          obtain ⟨q, ws, e, a1, b1, c1, d1⟩ := h3
          subst e
          have ne : q ≠ a := fun z => by subst z; exact rel.apart (Ne.symm hj) hi rfl h1 h rfl h2
          exact ⟨q, ws, rfl, by rw [upd_ne ne]; exact a1, b1, c1, d1.ext (same_upd ga)⟩
        | dtf es =>
          obtain ⟨q, ws, o, e, a1, d1⟩ := h3
          exact ⟨q, ws, o, e, same_upd ga _ _ a1, d1.ext (same_upd ga)⟩
    · have ej : i ≠ j := fun z => by
        subst z
        rw [List.getElem?_set_self (List.getElem?_eq_some_iff.mp hi).1] at h2
        cases h2; cases o1
      have ek : i ≠ k := fun z => by
        subst z
        rw [List.getElem?_set_self (List.getElem?_eq_some_iff.mp hi).1] at h3
        cases h3; cases o2
      rw [List.getElem?_set_ne ej] at h2
      rw [List.getElem?_set_ne ek] at h3
      exact rel.sep j k wj wk x hjk h2 h3 o1 o2 h4
  · exact False.elim p
theorem s_aug {i : Nat} {op : Operator} {t : PySem.Expr} (hop : op = .Add ∨ op = .Sub) (h : ∀ {ti : TIp}, PIp X op ti → PS X (.AugAssign t op e pos) (tAug i (tE W cl f) ti)) :
    PS X (.AugAssign t op e pos) (tSt W cl fun env => (getV env i).then_ env fun x => (f env).then_ env fun y => (binD op x y).then_ env (augW op env i)) := by
  rcases hop with rfl | rfl
  · refine PS.mono (h ip_add) fun D σ H ⟨H0, G, env, rel, p⟩ => ?_
    dsimp only at p
    cases hv : getV env i with
    | exc c => unfold getV at hv; split at hv <;> cases hv
    | bad => rw [hv] at p; exact False.elim p
    | ok x =>
      rw [hv] at p
      simp only [ok_then] at p
      obtain ⟨v, h1, q⟩ := rel.var hv
      refine ⟨v, h1, H0, G, env, rel, (then_out (ρ := rhE) rel p).mono fun u H1 ⟨y, G1, st, q2, rel1, p1⟩ => ?_⟩
      cases x <;> cases y <;> first | exact False.elim p1 | skip
      · cases q; cases q2
        exact ⟨_, _, rfl, rfl, p1 _ G1 _ Up.refl (rel1.set (.int _))⟩
      all_goals
        simp only [binD, addD] at p1
        split at p1
        · exact False.elim p1
        · exact False.elim p1
  · refine PS.mono (h ip_sub) fun D σ H ⟨H0, G, env, rel, p⟩ => ?_
    dsimp only at p
    cases hv : getV env i with
    | exc c => unfold getV at hv; split at hv <;> cases hv
    | bad => rw [hv] at p; exact False.elim p
    | ok x =>
      rw [hv] at p
      simp only [ok_then] at p
      obtain ⟨v, h1, q⟩ := rel.var hv
      refine ⟨v, h1, H0, G, env, rel, (then_out (ρ := rhE) rel p).mono fun u H1 ⟨y, G1, st, q2, rel1, p1⟩ => ?_⟩
      cases x <;> cases y <;> first | exact False.elim p1 | skip
      cases q; cases q2
      exact ⟨_, _, rfl, rfl, p1 _ G1 _ Up.refl (rel1.set (.int _))⟩
end
end M

set_option Elab.async false
set_option linter.all false
set_option maxRecDepth 100000
set_option maxHeartbeats 4000000
namespace M
open PySem PySem.Spec L2
open PyProof.Rows hiding St
/-! ### dicts of its own -/
theorem RpK.look {G : Hp} (k : Int) : ∀ {vs : List (Key × V)} {kvs : List (Int × D)}, RpK G (Sum.inl : Int → Key) vs kvs →
    (∀ d, lookI k kvs = some d → ∃ v, valV vs (Sum.inl k) = some v ∧ Rp G v d) ∧ (lookI k kvs = none → valV vs (Sum.inl k) = none)
  | _, _, .nil => ⟨fun d h => (by cases h), fun _ => rfl⟩
  | _, _, .cons (k := j) (v := v) (d := d0) (r := r) (s := s) q t => by
    have ih := RpK.look k t
    by_cases e : j = k
    · have e1 : lookI k ((j, d0) :: s) = some d0 := by simp [lookI, e]
      have e2 : valV ((Sum.inl j, v) :: r) (Sum.inl k : Key) = some v := valV_pos (by rw [e])
      rw [e1, e2]
      exact ⟨fun d h => by cases h; exact ⟨v, rfl, q⟩, fun h => by cases h⟩
    · have e1 : lookI k ((j, d0) :: s) = lookI k s := by simp [lookI, e]
      have e2 : valV ((Sum.inl j, v) :: r) (Sum.inl k : Key) = valV r (Sum.inl k) := valV_neg fun z => e (Sum.inl.inj z)
      rw [e1, e2]
      exact ih
theorem inl_inj {a b : List Int} (h : a.map (Sum.inl : Int → Key) = b.map Sum.inl) : a = b := by
  induction a generalizing b with
  | nil => cases b with
    | nil => rfl
    | cons _ _ => cases h
  | cons x xs ih => cases b with
    | nil => cases h
    | cons y ys =>
      rw [List.map_cons, List.map_cons] at h
      rw [Sum.inl.inj (List.cons.inj h).1, ih (List.cons.inj h).2]
theorem RpT.look {G : Hp} (k : List Int) : ∀ {vs : List (List Key × V)} {kvs : List (List Int × D)}, RpT G vs kvs →
    (∀ d, lookT k kvs = some d → ∃ v, valV vs (k.map Sum.inl) = some v ∧ Rp G v d) ∧ (lookT k kvs = none → valV vs (k.map Sum.inl) = none)
  | _, _, .nil => ⟨fun d h => (by cases h), fun _ => rfl⟩
  | _, _, .cons (k := j) (v := v) (d := d0) (r := r) (s := s) q t => by
    have ih := RpT.look k t
    by_cases e : j = k
    · have e1 : lookT k ((j, d0) :: s) = some d0 := by simp [lookT, e]
      have e2 : valV ((j.map Sum.inl, v) :: r) (k.map Sum.inl : List Key) = some v := valV_pos (by rw [e])
      rw [e1, e2]
      exact ⟨fun d h => by cases h; exact ⟨v, rfl, q⟩, fun h => by cases h⟩
    · have e1 : lookT k ((j, d0) :: s) = lookT k s := by simp [lookT, e]
      have e2 : valV ((j.map Sum.inl, v) :: r) (k.map Sum.inl : List Key) = valV r (k.map Sum.inl) := valV_neg fun z => e (inl_inj z)
      rw [e1, e2]
      exact ih
theorem RpK.len {G : Hp} : ∀ {vs : List (Key × V)} {kvs : List (Int × D)}, RpK G (Sum.inl : Int → Key) vs kvs → vs.length = kvs.length
  | _, _, .nil => rfl
  | _, _, .cons _ t => by simp [RpK.len t]
theorem RpT.len {G : Hp} : ∀ {vs : List (List Key × V)} {kvs : List (List Int × D)}, RpT G vs kvs → vs.length = kvs.length
  | _, _, .nil => rfl
  | _, _, .cons _ t => by simp [RpT.len t]
theorem RpK.keys {G : Hp} : ∀ {vs : List (Key × V)} {kvs : List (Int × D)}, RpK G (Sum.inl : Int → Key) vs kvs → vs.map (·.1) = (kvs.map (·.1)).map Sum.inl
  | _, _, .nil => rfl
  | _, _, .cons _ t => by simp [RpK.keys t]
theorem RpK.any {G : Hp} (k : Int) : ∀ {vs : List (Key × V)} {kvs : List (Int × D)}, RpK G (Sum.inl : Int → Key) vs kvs → (vs.any fun kv => decide (kv.1 = Sum.inl k)) = kvs.any fun kv => decide (kv.1 = k)
  | _, _, .nil => rfl
  | _, _, .cons _ t => by simp [RpK.any k t]
theorem RpT.any {G : Hp} (k : List Int) : ∀ {vs : List (List Key × V)} {kvs : List (List Int × D)}, RpT G vs kvs → (vs.any fun kv => decide (kv.1 = k.map Sum.inl)) = kvs.any fun kv => decide (kv.1 = k)
  | _, _, .nil => rfl
  | _, _, .cons (k := j) (r := r) (s := s) _ t => by
    have e : (j.map (Sum.inl : Int → Key) = k.map Sum.inl) ↔ j = k := ⟨inl_inj, fun z => by rw [z]⟩
    rw [List.any_cons, List.any_cons, RpT.any k t]
    simp only [e]
theorem RpK.map {G : Hp} (k : Int) {u : V} {y : D} (q : Rp G u y) : ∀ {vs : List (Key × V)} {kvs : List (Int × D)}, RpK G (Sum.inl : Int → Key) vs kvs →
    RpK G (Sum.inl : Int → Key) (vs.map fun kv => if kv.1 = Sum.inl k then (kv.1, u) else kv) (kvs.map fun kv => if kv.1 = k then (kv.1, y) else kv)
  | _, _, .nil => .nil
  | _, _, .cons (k := j) (v := v) (d := d) r t => by
    have ih := RpK.map k q t
    rw [List.map_cons, List.map_cons]
    by_cases e : j = k
    · rw [if_pos e, if_pos (by rw [e])]; exact .cons q ih
    · rw [if_neg e, if_neg (fun z => e (Sum.inl.inj z))]; exact .cons r ih
theorem RpT.map {G : Hp} (k : List Int) {u : V} {y : D} (q : Rp G u y) : ∀ {vs : List (List Key × V)} {kvs : List (List Int × D)}, RpT G vs kvs →
    RpT G (vs.map fun kv => if kv.1 = k.map Sum.inl then (kv.1, u) else kv) (kvs.map fun kv => if kv.1 = k then (kv.1, y) else kv)
  | _, _, .nil => .nil
  | _, _, .cons (k := j) (v := v) (d := d) r t => by
    have ih := RpT.map k q t
    rw [List.map_cons, List.map_cons]
    by_cases e : j = k
    · rw [if_pos e, if_pos (by rw [e])]; exact .cons q ih
    · rw [if_neg e, if_neg (fun z => e (inl_inj z))]; exact .cons r ih
theorem RpK.app {G : Hp} : ∀ {vs us : List (Key × V)} {kvs js : List (Int × D)}, RpK G (Sum.inl : Int → Key) vs kvs → RpK G (Sum.inl : Int → Key) us js → RpK G (Sum.inl : Int → Key) (vs ++ us) (kvs ++ js)
  | _, _, _, _, .nil, t => t
  | _, _, _, _, .cons r s, t => .cons r (RpK.app s t)
theorem RpT.app {G : Hp} : ∀ {vs us : List (List Key × V)} {kvs js : List (List Int × D)}, RpT G vs kvs → RpT G us js → RpT G (vs ++ us) (kvs ++ js)
  | _, _, _, _, .nil, t => t
  | _, _, _, _, .cons r s, t => .cons r (RpT.app s t)
theorem RpK.put {G : Hp} {k : Int} {u : V} {y : D} {vs : List (Key × V)} {kvs : List (Int × D)} (q : Rp G u y) (r : RpK G (Sum.inl : Int → Key) vs kvs) : RpK G (Sum.inl : Int → Key) (putK vs (Sum.inl k) u) (putI k y kvs) := by
  unfold putK putI
  rw [r.any k]
  split
  · exact r.map k q
  · exact r.app (.cons q .nil)
theorem RpT.put {G : Hp} {k : List Int} {u : V} {y : D} {vs : List (List Key × V)} {kvs : List (List Int × D)} (q : Rp G u y) (r : RpT G vs kvs) : RpT G (putK vs (k.map Sum.inl) u) (putT k y kvs) := by
  unfold putK putT
  rw [r.any k]
  split
  · exact r.map k q
  · exact r.app (.cons q .nil)
theorem ints_kV {G : Hp} {vs : List V} {ds : List D} {ns : List Int} (q : RpL G vs ds) (h : intsOf ds = some ns) : vs = (ns.map (Sum.inl : Int → Key)).map kV := by
  have e := q.ints h
  rw [List.map_map]
  exact e
theorem Rel.dct {H0 G H : Hp} {env : Env} {σ : St} {i : Nat} (r : Rel H0 G env σ H) (h : isDct env i = true) : ∃ a, σ[i]? = some (some (.ref a)) ∧ IsD H a := by
  unfold isDct at h
  split at h
  · rename_i kvs hi
    obtain ⟨v, h1, a, vs, rfl, ga, h0, ha, rk⟩ := r.at_ i _ hi
    exact ⟨a, h1, .inl ⟨vs, .inl ha⟩⟩
  · rename_i kvs hi
    obtain ⟨v, h1, a, vs, rfl, ga, h0, ha, rk⟩ := r.at_ i _ hi
    exact ⟨a, h1, .inr ⟨vs, .inl ha⟩⟩
  · rename_i kvs hi
    obtain ⟨v, h1, a, vs, o, rfl, ha, rk⟩ := r.at_ i _ hi
    exact ⟨a, h1, .inr ⟨vs, .inr ⟨o, r.gh _ _ ha⟩⟩⟩
  · cases h
/-- what the dict at slot i holds -/
theorem Rel.dget {H0 G H : Hp} {env : Env} {σ : St} {i : Nat} {x : D} {v : V} {o : Option D} (r : Rel H0 G env σ H) (q : Rp G v x) (h : dlook env i x = .ok o) :
    ∃ a ov, σ[i]? = some (some (.ref a)) ∧ DGet H a v ov ∧ (∀ d, o = some d → ∃ w, ov = some w ∧ Rp G w d) ∧ (o = none → ov = none) := by
  unfold dlook at h
  split at h
  · rename_i kvs n hi
    cases h
    cases q
    obtain ⟨v, h1, a, vs, rfl, ga, h0, ha, rk⟩ := r.at_ i _ hi
    obtain ⟨l1, l2⟩ := rk.look n
    exact ⟨a, valV vs (Sum.inl n), h1, DGet.k (k := Sum.inl n) ha, l1, l2⟩
  · rename_i kvs ds hi
    split at h
    · rename_i ns hn
      cases h
      cases q with
      | tup hb ql =>
        obtain ⟨v, h1, a, vs, rfl, ga, h0, ha, rk⟩ := r.at_ i _ hi
        obtain ⟨l1, l2⟩ := rk.look ns
        refine ⟨a, valV vs (ns.map Sum.inl), h1, DGet.t ha (k := ns.map Sum.inl) ?_, l1, l2⟩
        rw [r.gh _ _ hb, ints_kV ql hn]
    · cases h
  · rename_i kvs ds hi
    split at h
    · rename_i ns hn
      cases h
      cases q with
      | tup hb ql =>
        obtain ⟨v, h1, a, vs, o, rfl, ha, rk⟩ := r.at_ i _ hi
        obtain ⟨l1, l2⟩ := rk.look ns
        refine ⟨a, valV vs (ns.map Sum.inl), h1, .inr ⟨vs, ns.map Sum.inl, _, .inr ⟨o, r.gh _ _ ha⟩, rfl, ?_, rfl⟩, l1, l2⟩
        rw [r.gh _ _ hb, ints_kV ql hn]
    · cases h
  · cases h
theorem dlook_noexc {env : Env} {i : Nat} {x : D} {c : Nat} : dlook env i x ≠ .exc c := by
  unfold dlook
  intro h
  split at h
  · cases h
  · split at h <;> cases h
  · split at h <;> cases h
  · cases h
section
variable {X : Cx} {W : WX} {cl : Nat → Value} {e o ke de : Expr} {f g : Env → R D} {pos : Pos} {i : Nat}
theorem t_dhas {neg : Bool} {σ : St} {H : Hp} {Q : VK} (h : tE W cl (fun env => do
    let x ← f env
    let c ← dlook env i x
    pure (.bool (if neg then !c.isSome else c.isSome))) σ H Q) : (if neg then tDNotIn (tE W cl f) (tVar i) else tDIn (tE W cl f) (tVar i)) σ H Q := by
  have key : tE W cl f σ H fun y H1 => tVar i σ H1 fun x H2 => ∃ a o, x = .ref a ∧ DGet H2 a y o ∧ Q (.bl (if neg then !o.isSome else o.isSome)) H2 := by
    refine tX.mono (tX.bind (ρ := rhE) h) fun v H1 ⟨H0, G, env, x, rel, q1, o⟩ => ?_
    cases hd : dlook env i x with
    | exc c => exact absurd hd dlook_noexc
    | bad => rw [hd] at o; exact False.elim o
    | ok c =>
      rw [hd] at o
      obtain ⟨a, ov, h1, g, l1, l2⟩ := rel.dget q1 hd
      have e : ov.isSome = c.isSome := by
        cases c with
        | none => rw [l2 rfl]; rfl
        | some d => obtain ⟨w, e, _⟩ := l1 d rfl; rw [e]; rfl
      refine ⟨_, h1, a, ov, rfl, g, ?_⟩
      rw [e]
      exact o.ok (Step.refl rel.gh) (.bl _)
  cases neg <;> exact key
theorem p_dhas {neg : Bool} (hu : X.A.units + 1 < cLine) (hv : PE X o (tVar i)) (hm : plset o = true) (hk : PE X ke (tE W cl f)) : PE X (.Compare ke [if neg then .NotIn else .In] [o] pos) (tE W cl fun env => do
    let x ← f env
    let c ← dlook env i x
    pure (.bool (if neg then !c.isSome else c.isSome))) := by
  cases neg
  · exact PE.mono (pe_cmp (pc_din hu hk hv) (plset_mark hm _)) fun σ H Q h => t_dhas (neg := false) h
  · exact PE.mono (pe_cmp (pc_dnotin hu hk hv) (plset_mark hm _)) fun σ H Q h => t_dhas (neg := true) h
theorem q_dhas {neg : Bool} (hu : X.A.units + 1 < cLine) (hv : PE X o (tVar i)) (hm : plset o = true) (hk : PE X ke (tE W cl f)) : PT X (.Compare ke [if neg then .NotIn else .In] [o] pos) (tTt W cl fun env => do
    let z ← (do
      let x ← f env
      let c ← dlook env i x
      pure (.bool (if neg then !c.isSome else c.isSome)))
    truth z) := by
  have hb : ∀ env d, (do
      let x ← f env
      let c ← dlook env i x
      pure (.bool (if neg then !c.isSome else c.isSome)) : R D) = .ok d → ∃ k, d = .bool k := by
    intro env d h
    cases hf : f env with
    | ok x =>
      rw [hf, ok_bind] at h
      cases hd : dlook env i x with
      | ok c => rw [hd] at h; cases h; exact ⟨_, rfl⟩
      | exc c => rw [hd] at h; cases h
      | bad => rw [hd] at h; cases h
    | exc c => rw [hf] at h; cases h
    | bad => rw [hf] at h; cases h
  cases neg
  · exact q_bool (t := tDIn (tE W cl f) (tVar i)) (pt_cmp (pc_din hu hk hv) (plset_mark hm _)) (fun σ H Q h => t_dhas (neg := false) h) hb
  · exact q_bool (t := tDNotIn (tE W cl f) (tVar i)) (pt_cmp (pc_dnotin hu hk hv) (plset_mark hm _)) (fun σ H Q h => t_dhas (neg := true) h) hb
theorem p_didx (hu : X.A.units + 1 < cLine) (hv : PE X o (tVar i)) (hs : NoSl ke) (hk : PE X ke (tE W cl f)) : PE X (.Subscript o ke pos) (tE W cl fun env => if isDct env i then do
    let x ← f env
    let c ← dlook env i x
    match c with
    | some d => .ok d
    | none => .bad
    else .bad) := PE.mono (pe_dget hu hv hk hs) fun σ H Q ⟨H0, G, env, rel, o⟩ => by
  dsimp only at o
  split at o
  · rename_i hd
    obtain ⟨a, h1, _⟩ := rel.dct hd
    refine ⟨_, h1, H0, G, env, rel, (Out.bind (ρ := rhE) o).mono fun y H2 ⟨x, G2, st, q2, o2⟩ => ?_⟩
    cases hl : dlook env i x with
    | exc c => exact absurd hl dlook_noexc
    | bad => rw [hl] at o2; exact False.elim o2
    | ok c =>
      rw [hl] at o2
      obtain ⟨a', ov, h1', g, l1, l2⟩ := (rel.step st).dget q2 hl
      rw [h1] at h1'; cases h1'
      cases c with
      | none => exact False.elim o2
      | some d =>
        obtain ⟨w, e, qw⟩ := l1 d rfl
        subst e
        exact ⟨a, w, rfl, g, o2.ok (Step.refl st.gh) qw⟩
  · exact False.elim o
theorem p_dget {ap : Pos} (hu : X.A.units + 1 < cLine) (hv : PE X o (tVar i)) (hbase : plbase o = true) (hline : (ap.endLine == pos.line) = true) (hn : nst ke = true) (hn2 : nst de = true) (hk : PE X ke (tE W cl f)) (hd : PE X de (tE W cl g)) :
    PE X (.Call (.Attribute o "get" ap) [ke, de] [] pos) (tE W cl fun env => if isDct env i then do
      let x ← f env
      let y ← g env
      let c ← dlook env i x
      pure (c.getD y)
      else .bad) := by
  have st2 := starEach_cons hn2 [] X.env
  have st1 : starEach [ke, de] X.env = (false, eval ke X.env) :: starEach [de] X.env := starEach_cons hn _ _
  have few : ((backTo pos (starEach [ke, de] X.env)).all (fun x => !x.1) && (backToKw pos (keywordEach [] X.env)).all (fun x => x.1.isSome)
      && decide ([ke, de].length + ([] : List Keyword).length + (if ([] : List Keyword).isEmpty then 0 else 1) < 30)) = true := by
    rw [star_all (es := [ke, de]) (by simp [hn, hn2])]; rfl
  refine PE.mono (pe_dget2 hu hv hk hd ⟨plbase_ok hbase _ _ _, few, hline, by rw [st1, st2]; rfl⟩) fun σ H Q ⟨H0, G, env, rel, o⟩ => ?_
  dsimp only at o
  split at o
  · rename_i hd
    obtain ⟨a, h1, isd⟩ := rel.dct hd
    refine ⟨_, h1, a, rfl, isd, H0, G, env, rel, (Out.bind (ρ := rhE) o).mono fun y H2 ⟨x, G2, st, q2, o2⟩ => ?_⟩
    refine ⟨H0, G2, env, rel.step st, (Out.bind (ρ := rhE) o2).mono fun z H3 ⟨x3, G3, st3, q3, o3⟩ => ?_⟩
    cases hl : dlook env i x with
    | exc c => exact absurd hl dlook_noexc
    | bad => rw [hl] at o3; exact False.elim o3
    | ok c =>
      rw [hl] at o3
      obtain ⟨a', ov, h1', g, l1, l2⟩ := ((rel.step st).step st3).dget (q2.ext st3.gg) hl
      rw [h1] at h1'; cases h1'
      refine ⟨ov, g, ?_⟩
      cases c with
      | none => rw [l2 rfl]; exact o3.ok (Step.refl st3.gh) q3
      | some d =>
        obtain ⟨w, e, qw⟩ := l1 d rfl
        rw [e]
        exact o3.ok (Step.refl st3.gh) qw
  · exact False.elim o
theorem p_dsorted {p : Pos} (hc : X.calm = true) (hg : Gl X "sorted") (hm : X.mg "sorted" = none) (hn : nst o = true) (hv : PE X o (tVar i)) : PE X (.Call (.Name "sorted" p) [o] [] pos) (tE W cl fun env => dkeys env i) := by
  have hs := starEach_cons hn [] X.env
  refine PE.mono (pe_callB (call_sortedDI hc) hg hm (by decide +kernel) (pa_cons hv pa_nil hs) (by decide) (by decide) hs rfl) fun σ H Q ⟨H0, G, env, rel, ot⟩ => ?_
  dsimp only at ot
  unfold dkeys at ot
  split at ot
  · rename_i kvs hi
    split at ot
    · rename_i hl
      obtain ⟨v, h1, a, vs, rfl, ga, h0, ha, rk⟩ := rel.at_ i _ hi
      refine ⟨_, h1, a, vs, kvs.map (·.1), rfl, .inl ha, rk.keys, by simpa using hl, fun ys q pm ps hq => ?_⟩
      have e : ys = sortI (kvs.map (·.1)) := sorted_eq (pm.trans (sortI_perm _).symm) ps (sortI_sorted _)
      rw [e]
      exact ot.ok (Step.alloc rel.gh hq) (.lst upd_same (rp_ints _))
    · exact False.elim ot
  · exact False.elim ot
theorem p_dlit {k1 v1 k2 v2 : Str} {p : Pos} {j1 j2 j3 j4} {p1 p2 p3 p4 : Pos} (hu : X.A.units + 1 < cLine) (hne : k1 ≠ k2) (hs : NoSl ke) (hk : PE X ke (tE W cl f)) :
    PE X (.Subscript (.Dict [some (.Constant (.str k1) j1 p1), some (.Constant (.str k2) j2 p2)] [.Constant (.str v1) j3 p3, .Constant (.str v2) j4 p4] p) ke pos) (tE W cl fun env => do
      let x ← f env
      dlitD k1 v1 k2 v2 x) := by
  refine PE.mono (pe_dget hu (pe_disp (pps_cons pe_str pe_str (pps_cons pe_str pe_str pps_nil)) rfl rfl (by simp) (by simp)) hk hs) fun σ H Q ⟨H0, G, env, rel, ot⟩ => ?_
  intro p hp
  refine ⟨upd_same, [(Sum.inr k1, .str v1), (Sum.inr k2, .str v2)], rfl, by simp, ?_⟩
  generalize hD : mergeK [] [(Sum.inr k1, V.str v1), (Sum.inr k2, V.str v2)] = kd
  have gp : G p = none := rel.gh.free hp
  have st : Step G H G (upd (upd H p (.dK [])) p (.dK kd)) := ⟨Same.refl _, fun b u hb => by rw [upd_ne (ne_of_none hb gp), upd_ne (ne_of_none hb gp)]; exact rel.gh _ _ hb,
    fun b u hb => by rw [upd_ne (ne_of_none hb hp), upd_ne (ne_of_none hb hp)]; exact hb, fun _ _ _ _ h => h⟩
  refine ⟨H0, G, env, rel.step st, (Out.bind (ρ := rhE) (Out.step ot st)).mono fun y H2 ⟨x, G2, st2, q2, o2⟩ => ?_⟩
  have hp2 : H2 p = some (.dK kd) := st2.hh _ _ upd_same
  have v_1 : valV kd (Sum.inr k1) = some (.str v1) := by
    rw [← hD]; simp [mergeK, putK, valV, hne]
  have v_2 : valV kd (Sum.inr k2) = some (.str v2) := by
    rw [← hD]; simp [mergeK, putK, valV, hne]
  cases q2 <;> first | exact False.elim o2 | skip
  simp only [dlitD] at o2
  split at o2
  · rename_i e
    rw [e]
    refine ⟨p, .str v1, rfl, ?_, o2.ok (Step.refl st2.gh) (.str _)⟩
    have := DGet.k (k := Sum.inr k1) hp2
    rw [v_1] at this
    exact this
  · split at o2
    · rename_i e
      rw [e]
      refine ⟨p, .str v2, rfl, ?_, o2.ok (Step.refl st2.gh) (.str _)⟩
      have := DGet.k (k := Sum.inr k2) hp2
      rw [v_2] at this
      exact this
    · exact False.elim o2
/-! statements -/
theorem s_dnew {tg : Expr} {dpos : Pos} (tp : Bool) (hn : nstT tg = true) (hg : PG X tg (gName i)) : PS X (.Assign [tg] (.Dict [] [] dpos) pos) (tSt W cl fun env => putW env i (if tp then .dt [] else .dk [])) := by
  cases tp
  · refine PS.mono (ps_asg pe_dnewK hg (plsw_ok (e := .Dict [] [] dpos) rfl (some tg) pos.line X.env) (plstore_ok (by cases tg <;> rfl) _) (by rw [asgEach_cons hn]; rfl)) fun D σ H ⟨H0, G, env, rel, p⟩ => ?_
    intro a ha
    dsimp only at p
    unfold putW at p
    split at p
    · rename_i hil
      have gp : G a = none := rel.gh.free ha
      have hp : H0 a = none := rel.h0.free ha
      exact p _ G _ Up.refl (Rel.setOwn (w := .dk []) rel hil rfl (fun b u hb => by rw [upd_ne (ne_of_none hb gp)]; exact rel.gh _ _ hb) (fun b u hb => by rw [upd_ne (ne_of_none hb hp)]; exact rel.h0 _ _ hb)
        ⟨a, [], rfl, gp, hp, upd_same, .nil⟩ (fun q o hq ho => by rw [upd_ne hq]; exact ho) fun j wj hj h1 h2 => rel.apartNew ha h1 h2)
    · exact False.elim p
  · refine PS.mono (ps_asg pe_dnewT hg (plsw_ok (e := .Dict [] [] dpos) rfl (some tg) pos.line X.env) (plstore_ok (by cases tg <;> rfl) _) (by rw [asgEach_cons hn]; rfl)) fun D σ H ⟨H0, G, env, rel, p⟩ => ?_
    intro a ha
    dsimp only at p
    unfold putW at p
    split at p
    · rename_i hil
      have gp : G a = none := rel.gh.free ha
      have hp : H0 a = none := rel.h0.free ha
      exact p _ G _ Up.refl (Rel.setOwn (w := .dt []) rel hil rfl (fun b u hb => by rw [upd_ne (ne_of_none hb gp)]; exact rel.gh _ _ hb) (fun b u hb => by rw [upd_ne (ne_of_none hb hp)]; exact rel.h0 _ _ hb)
        ⟨a, [], rfl, gp, hp, upd_same, .nil⟩ (fun q o hq ho => by rw [upd_ne hq]; exact ho) fun j wj hj h1 h2 => rel.apartNew ha h1 h2)
    · exact False.elim p
theorem Rel.writeK {H0 G H : Hp} {env : Env} {σ : St} {i : Nat} {w w' : M.W} {p : Addr} {ob : HO} (r : Rel H0 G env σ H) (h : env[i]? = some (some w)) (hw : w.isOwn = true) (hw' : w'.isOwn = true) (hs : σ[i]? = some (some (.ref p))) (gp : G p = none) (hp : H0 p = none) (new : RW H0 G (upd H p ob) (.ref p) w') :
    Rel H0 G (env.set i (some w')) σ (upd H p ob) := by
  have := Rel.setOwn (H' := upd H p ob) (w := w') r (List.getElem?_eq_some_iff.mp h).1 hw' (fun b u hb => by rw [upd_ne (ne_of_none hb gp)]; exact r.gh _ _ hb) (fun b u hb => by rw [upd_ne (ne_of_none hb hp)]; exact r.h0 _ _ hb)
    new (fun q o hq ho => by rw [upd_ne hq]; exact ho) fun j wj hj h1 h2 => r.apart hj h hw hs h1 h2
  rw [set_same hs] at this
  exact this
theorem s_dset {tpos : Pos} {fk : Env → R D} (hu : X.A.units + 1 < cLine) (hsw : plsw e = true) (hv : PE X o (tVar i)) (hk : PE X ke (tE W cl fk)) (he : PE X e (tE W cl f)) :
    PS X (.Assign [.Subscript o ke tpos] e pos) (tSt W cl fun env => match env[i]? with
      | some (some (.dk kvs)) => (f env).then_ env fun d => (fk env).then_ env fun x => (match x with
        | .int n => if kvs.length < lim then .nx (env.set i (some (.dk (putI n d kvs)))) else .bad
        | _ => .bad)
      | some (some (.dt kvs)) => (f env).then_ env fun d => (fk env).then_ env fun x => (match x with
        | .tuple ds => (match intsOf ds with
          | some ns => if kvs.length < lim then .nx (env.set i (some (.dt (putT ns d kvs)))) else .bad
          | none => .bad)
        | _ => .bad)
      | _ => .bad) := by
  refine PS.mono (ps_dput hu hv hk he (plsw_ok hsw (some (.Subscript o ke tpos)) pos.line X.env)) fun D σ H ⟨H0, G, env, rel, p⟩ => ?_
  dsimp only at p
  split at p
  · rename_i kvs hi
    obtain ⟨v, h1, a, vs, rfl, ga, h0a, ha, rk⟩ := rel.at_ i _ hi
    refine ⟨H0, G, env, rel, (then_out (ρ := rhE) rel p).mono fun u H1 ⟨d, G1, st, q, rel1, p1⟩ => ?_⟩
    refine ⟨_, h1, H0, G1, env, rel1, (then_out (ρ := rhE) rel1 p1).mono fun w H2 ⟨x, G2, st2, q2, rel2, p2⟩ => ?_⟩
    cases q2 with
    | int n =>
      dsimp only at p2
      split at p2
      · rename_i hl
        have stA := st.trans st2
        have rkA := rk.ext stA.gg
        have haA := stA.hh _ _ ha
        refine ⟨a, _, rfl, DPut.k (k := Sum.inl n) haA (by have := lim_le; have := rk.len; omega), ?_⟩
        have gA := stA.no a _ ha rfl ga
        exact p2 σ G2 _ Up.refl (rel2.writeK hi rfl rfl h1 gA h0a ⟨a, _, rfl, gA, h0a, upd_same, rkA.put (q.ext st2.gg)⟩)
      · exact False.elim p2
    | _ => exact False.elim p2
  · rename_i kvs hi
    obtain ⟨v, h1, a, vs, rfl, ga, h0a, ha, rk⟩ := rel.at_ i _ hi
    refine ⟨H0, G, env, rel, (then_out (ρ := rhE) rel p).mono fun u H1 ⟨d, G1, st, q, rel1, p1⟩ => ?_⟩
    refine ⟨_, h1, H0, G1, env, rel1, (then_out (ρ := rhE) rel1 p1).mono fun w H2 ⟨x, G2, st2, q2, rel2, p2⟩ => ?_⟩
    cases q2 with
    | tup hb ql =>
      dsimp only at p2
      split at p2
      · rename_i ns hn
        split at p2
        · rename_i hl
          have stA := st.trans st2
          have rkA := rk.ext stA.gg
          have haA := stA.hh _ _ ha
          have hbb := st2.gh _ _ hb
          rw [ints_kV ql hn] at hbb
          refine ⟨a, _, rfl, DPut.t haA hbb (by have := lim_le; have := rk.len; omega), ?_⟩
          have gA := stA.no a _ ha rfl ga
          exact p2 σ G2 _ Up.refl (rel2.writeK hi rfl rfl h1 gA h0a ⟨a, _, rfl, gA, h0a, upd_same, rkA.put (q.ext st2.gg)⟩)
        · exact False.elim p2
      · exact False.elim p2
    | _ => exact False.elim p2
  · exact False.elim p
end
end M

set_option Elab.async false
set_option linter.all false
set_option maxRecDepth 100000
set_option maxHeartbeats 4000000
namespace M
open PySem PySem.Spec L2
open PyProof.Rows hiding St
/-! ### a dict walked by its keys -/
theorem RpT.at {G : Hp} : ∀ {vs : List (List Key × V)} {kvs : List (List Int × D)} {j : Nat} {k : List Key} {v : V}, RpT G vs kvs → vs[j]? = some (k, v) → ∃ ns d, kvs[j]? = some (ns, d) ∧ k = ns.map Sum.inl
  | _, _, _, _, _, .nil, h => by simp at h
  | _, _, 0, _, _, .cons (k := n) r t, h => by simp at h; exact ⟨n, _, rfl, h.1.symm⟩
  | _, _, j + 1, _, _, .cons r t, h => by
    obtain ⟨ns, d, h1, h2⟩ := RpT.at (j := j) t (by simpa using h)
    exact ⟨ns, d, by simpa using h1, h2⟩
theorem adopt {G H : Hp} {q : Addr} {xs : List V} (e : Same G H) (h : H q = some (.tup xs)) : ∃ G', Step G H G' H ∧ G' q = some (.tup xs) := by
  cases hq : G q with
  | some u =>
    have := e _ _ hq
    rw [h] at this
    cases this
    exact ⟨G, Step.refl e, hq⟩
  | none =>
    refine ⟨upd G q (.tup xs), ⟨same_upd hq, fun b u hb => ?_, Same.refl _, fun p o hp ht k => ?_⟩, upd_same⟩
    · by_cases eb : b = q
      · subst eb; rw [upd_same] at hb; cases hb; exact h
      · rw [upd_ne eb] at hb; exact e _ _ hb
    · by_cases eb : p = q
      · subst eb; rw [h] at hp; cases hp; cases ht
      · rw [upd_ne eb]; exact k
theorem i_dks {X : Cx} {W : WX} {cl : Nat → Value} {tg e : Expr} {i : Nat} (hv : PE X e (tVar i)) : PI X tg e (tIt W cl fun env => keysT env i) := PI.mono (pi_keys hv) fun σ H R ⟨H0, G, env, rel, o⟩ => by
  dsimp only at o
  unfold keysT at o
  split at o
  · rename_i kvs hi
    obtain ⟨v, h1, p, vs, od, rfl, gp, rk⟩ := rel.at_ i _ hi
    refine ⟨_, h1, p, od, rfl, .inr ⟨vs, rel.gh _ _ gp, o.ok (Step.refl rel.gh) ?_⟩⟩
    have hn : vs.length = (kvs.map fun kv => (.tuple (kv.1.map .int) : D)).length := by rw [List.length_map]; exact rk.len
    show Walk _ (kvs.map fun kv => (.tuple (kv.1.map .int) : D)).length _ _
    rw [← hn]
    refine walk_keysT.mono (fun H hs => hs _ _ gp) fun j H x H' hj hs y => ?_
    obtain ⟨rfl, k, v, q, h2, rfl, h3⟩ := y
    intro G2 g1 g2 d hd
    obtain ⟨ns, dv, h4, rfl⟩ := rk.at h2
    rw [List.getElem?_map, h4] at hd
    cases hd
    obtain ⟨G', st, hq⟩ := adopt g2 h3
    refine ⟨G', st, .tup hq ?_⟩
    rw [List.map_map]
    exact rp_ints ns
  · exact False.elim o
/-! ### .. and not changed the while -/
def del (G : Hp) (p : Addr) : Hp := fun q => if q = p then none else G q
theorem del_ne {G : Hp} {p q : Addr} (h : q ≠ p) : del G p q = G q := if_neg h
mutual
theorem Rp.del {G : Hp} {p : Addr} {o : Obj} {vs : List (List Key × V)} (hp : G p = some (.frz o (.dT vs))) : ∀ {v : V} {d : D}, Rp G v d → Rp (M.del G p) v d
  | _, _, .non => .non
  | _, _, .bl b => .bl b
  | _, _, .int i => .int i
  | _, _, .str x => .str x
  | _, _, .lst h r => .lst (by rw [del_ne (fun z => by subst z; rw [hp] at h; cases h)]; exact h) (RpL.del hp r)
  | _, _, .tup h r => .tup (by rw [del_ne (fun z => by subst z; rw [hp] at h; cases h)]; exact h) (RpL.del hp r)
  | _, _, .scr h => .scr (by rw [del_ne (fun z => by subst z; rw [hp] at h; cases h)]; exact h)
theorem RpL.del {G : Hp} {p : Addr} {o : Obj} {vs : List (List Key × V)} (hp : G p = some (.frz o (.dT vs))) : ∀ {v : List V} {d : List D}, RpL G v d → RpL (M.del G p) v d
  | _, _, .nil => .nil
  | _, _, .cons r t => .cons (Rp.del hp r) (RpL.del hp t)
end
theorem p_lockd {X : Cx} {W : WX} {cl : Nat → Value} {e : Expr} {i : Nat} {f : Env → R D} (h : PE X e (tE W cl f)) : PE X e (tE W cl fun env => match env[i]? with
    | some (some (.dt kvs)) => (f (env.set i (some (.dtf kvs)))).nox
    | _ => .bad) := PE.mono (pe_lock h) fun σ H Q ⟨H0, G, env, rel, o⟩ => by
  dsimp only at o
  split at o
  rotate_left
  · exact False.elim o
  rename_i kvs hi
  obtain ⟨v, h1, p, vs, rfl, gp, h0p, hp, rk⟩ := rel.at_ i _ hi
  have hil := (List.getElem?_eq_some_iff.mp hi).1
  refine ⟨p, .dT vs, hp, trivial, fun od => ?_⟩
  have rel1 : Rel H0 (upd G p (.frz od (.dT vs))) (env.set i (some (.dtf kvs))) σ (upd H p (.frz od (.dT vs))) := by
    refine ⟨same_upd2 rel.gh, fun b u hb => by rw [upd_ne (ne_of_none hb h0p)]; exact rel.h0 _ _ hb, by simp [rel.len], fun j w h => ?_, fun j k wj wk u hjk h2 h3 o1 o2 h4 => ?_⟩
    · by_cases hj : i = j
      · subst hj
        rw [List.getElem?_set_self hil] at h
        cases h
        exact ⟨_, h1, p, vs, od, rfl, upd_same, rk.ext (same_upd gp)⟩
      · rw [List.getElem?_set_ne hj] at h
        obtain ⟨u, h2, h3⟩ := rel.at_ j w h
        refine ⟨u, h2, ?_⟩
        cases w with
        | val d => exact Rp.ext (same_upd gp) h3
        | own es =>
          obtain ⟨q, ws, e, a1, b1, c1, d1⟩ := h3
          subst e
          have ne : q ≠ p := fun z => by subst z; exact rel.apart (Ne.symm hj) hi rfl h1 h rfl h2
          exact ⟨q, ws, rfl, by rw [upd_ne ne]; exact a1, b1, by rw [upd_ne ne]; exact c1, d1.ext (same_upd gp)⟩
        | dk es =>
          obtain ⟨q, ws, e, a1, b1, c1, d1⟩ := h3
          subst e
          have ne : q ≠ p := fun z => by subst z; exact rel.apart (Ne.symm hj) hi rfl h1 h rfl h2
          exact ⟨q, ws, rfl, by rw [upd_ne ne]; exact a1, b1, by rw [upd_ne ne]; exact c1, d1.ext (same_upd gp)⟩
        | dt es =>
          obtain ⟨q, ws, e, a1, b1, c1, d1⟩ := h3
          subst e
          have ne : q ≠ p := fun z => by subst z; exact rel.apart (Ne.symm hj) hi rfl h1 h rfl h2
          exact ⟨q, ws, rfl, by rw [upd_ne ne]; exact a1, b1, by rw [upd_ne ne]; exact c1, d1.ext (same_upd gp)⟩
        | dtf es =>
          obtain ⟨q, ws, o, e, a1, d1⟩ := h3
          exact ⟨q, ws, o, e, same_upd gp _ _ a1, d1.ext (same_upd gp)⟩
    · have ej : i ≠ j := fun z => by
        subst z
        rw [List.getElem?_set_self hil] at h2
        cases h2; cases o1
      have ek : i ≠ k := fun z => by
        subst z
        rw [List.getElem?_set_self hil] at h3
        cases h3; cases o2
      rw [List.getElem?_set_ne ej] at h2
      rw [List.getElem?_set_ne ek] at h3
      exact rel.sep j k wj wk u hjk h2 h3 o1 o2 h4
  refine ⟨H0, _, _, rel1, ?_⟩
  cases hf : f (env.set i (some (.dtf kvs))) with
  | exc c => rw [hf] at o; exact False.elim o
  | bad => rw [hf] at o; exact False.elim o
  | ok d =>
    rw [hf] at o
    have o : Out rhE W cl σ G H (.ok d) Q := o
    intro v G' H' st q
    have h2 : H' p = some (.frz od (.dT vs)) := st.hh _ _ upd_same
    have g2 : G' p = some (.frz od (.dT vs)) := st.gg _ _ upd_same
    refine ⟨h2, o v (M.del G' p) (upd H' p (.dT vs)) ⟨fun b u hb => ?_, fun b u hb => ?_, fun b u hb => ?_, fun b u hb ht k => ?_⟩ (q.del g2)⟩
    · have ne := ne_of_none hb gp
      rw [del_ne ne]
      exact st.gg _ _ (by rw [upd_ne ne]; exact hb)
    · by_cases eb : b = p
      · subst eb; simp [M.del] at hb
      · rw [del_ne eb] at hb; rw [upd_ne eb]; exact st.gh _ _ hb
    · by_cases eb : b = p
      · subst eb; rw [hp] at hb; rw [upd_same]; exact hb
      · rw [upd_ne eb]; exact st.hh _ _ (by rw [upd_ne eb]; exact hb)
    · by_cases eb : b = p
      · subst eb; simp [M.del]
      · rw [del_ne eb]; exact st.no b u (by rw [upd_ne eb]; exact hb) ht (by rw [upd_ne eb]; exact k)
/-! ### dict(pairs).get(k, d) -/
theorem merge_rp {G : Hp} : ∀ {kvs acc : List (Key × V)} {ps qs : List (Int × D)}, RpK G (Sum.inl : Int → Key) kvs ps → RpK G (Sum.inl : Int → Key) acc qs → RpK G (Sum.inl : Int → Key) (mergeK acc kvs) (ps.foldl (fun acc kv => putI kv.1 kv.2 acc) qs)
  | _, _, _, _, .nil, h => h
  | _, acc, _, qs, .cons (k := k) (v := v) (d := d) (r := rr) (s := ss) r t, h => by
    show RpK G _ (mergeK (putK acc (Sum.inl k) v) rr) (ss.foldl (fun acc kv => putI kv.1 kv.2 acc) (putI k d qs))
    exact merge_rp t (RpK.put r h)
theorem p_dctget {X : Cx} {W : WX} {cl : Nat → Value} {a ke de : Expr} {f g k : Env → R D} {p p2 ap pos : Pos} (hc : X.calm = true) (hu : X.A.units + 1 < cLine) (hg : Gl X "dict") (hm : X.mg "dict" = none) (hline : (ap.endLine == pos.line) = true) (hna : nst a = true) (hn : nst ke = true) (hn2 : nst de = true)
    (ha : PE X a (tX rhQ W cl f)) (hk : PE X ke (tE W cl g)) (hd : PE X de (tE W cl k)) :
    PE X (.Call (.Attribute (.Call (.Name "dict" p) [a] [] p2) "get" ap) [ke, de] [] pos) (tE W cl fun env => do
      let x ← f env
      match dctP x with
      | some ps => do
        let y ← g env
        let z ← k env
        dctD ps y z
      | none => .bad) := by
  have s1 := starEach_cons hna [] X.env
  have st2 := starEach_cons hn2 [] X.env
  have st1 : starEach [ke, de] X.env = (false, eval ke X.env) :: starEach [de] X.env := starEach_cons hn _ _
  have few : ((backTo pos (starEach [ke, de] X.env)).all (fun x => !x.1) && (backToKw pos (keywordEach [] X.env)).all (fun x => x.1.isSome)
      && decide ([ke, de].length + ([] : List Keyword).length + (if ([] : List Keyword).isEmpty then 0 else 1) < 30)) = true := by
    rw [star_all (es := [ke, de]) (by simp [hn, hn2])]; rfl
  refine PE.mono (pe_dget2 hu (pe_callTy (call_dictP hc) hg hm (by decide +kernel) (pa_cons ha pa_nil s1) (by decide) (by decide) s1 rfl) hk hd ⟨plbase_ok rfl _ _ _, few, hline, by rw [st1, st2]; rfl⟩) fun σ H Q h => tX.mono (tX.bind (ρ := rhQ) h) fun v H1 ⟨H0, G, env, x, rel, q1, o⟩ => ?_
  cases hp : dctP x with
  | none => rw [hp] at o; exact False.elim o
  | some ps =>
    rw [hp] at o
    cases x <;> first | (cases hp; done) | skip
    rename_i ds
    obtain ⟨l, vs, rfl, hl, ql⟩ := q1.list rel.gh
    obtain ⟨as, kvs, rfl, rk, pr⟩ := ql.pairs hp
    have pr' : Paired (fun p kv => SqT X.K H1 p [kV kv.1, kv.2]) as kvs := by
      clear rk hl ql o
      induction pr with
      | nil => exact .nil
      | cons h t ih => exact .cons (SqT.of (rel.gh _ _ h)) ih
    refine ⟨l, as, kvs, rfl, SqL.of hl, pr', fun d hnd => ?_⟩
    have gd : G d = none := rel.gh.free hnd
    have st : Step G H1 G (upd H1 d (.dK (mergeK [] kvs))) := ⟨Same.refl _, fun b u hb => by rw [upd_ne (ne_of_none hb gd)]; exact rel.gh _ _ hb, same_upd hnd, fun _ _ _ _ h => h⟩
    refine ⟨d, rfl, .inl ⟨_, .inl upd_same⟩, H0, G, env, rel.step st, (Out.bind (ρ := rhE) (Out.step o st)).mono fun y H2 ⟨y', G2, st2, q2, o2⟩ => ?_⟩
    refine ⟨H0, G2, env, (rel.step st).step st2, (Out.bind (ρ := rhE) o2).mono fun z H3 ⟨z', G3, st3, q3, o3⟩ => ?_⟩
    have h3 : H3 d = some (.dK (mergeK [] kvs)) := st3.hh _ _ (st2.hh _ _ upd_same)
    have hy : ∃ n, y' = .int n := by
      cases y' <;> first | exact ⟨_, rfl⟩ | exact False.elim o3
    obtain ⟨n, rfl⟩ := hy
    cases q2
    have rk3 := (merge_rp rk RpK.nil).ext (st2.gg.trans st3.gg)
    obtain ⟨l1, l2⟩ := rk3.look n
    refine ⟨_, DGet.k (k := Sum.inl n) h3, ?_⟩
    simp only [dctD] at o3
    cases hlk : lookI n (ps.foldl (fun acc kv => putI kv.1 kv.2 acc) []) with
    | none =>
      rw [hlk] at o3
      rw [l2 hlk]
      exact o3.ok (Step.refl st3.gh) q3
    | some d =>
      rw [hlk] at o3
      obtain ⟨w, e, qw⟩ := l1 d hlk
      rw [e]
      exact o3.ok (Step.refl st3.gh) qw
/-! ### a, b = x, y -/
def isLoc (sc : Scope) (x : Str) : Bool := decide (sc.names.lookup x = some .local)
/-- two plain names, stored at once -/
def parB (sc : Scope) (x y : Str) (px py : Pos) (a b : Expr) : Bool := isLoc sc x && (isLoc sc y && ((py.line == px.line) && (!(x == y) && (nst a && (nst b && (!([a, b].all (foldedForSure 8)) && !([a, b].all (constantsAlone 8))))))))
theorem any_nst {g : Expr → Bool} {a b : Expr} (hg : ∀ e, nst e = true → g e = false) (ha : nst a = true) (hb : nst b = true) : [a, b].any g = false := by
  simp only [List.any_cons, List.any_nil, hg a ha, hg b hb, Bool.or_false]
theorem sw_par {x y : Str} {px py pt pt2 : Pos} {kt k2 : Nat} {a b : Expr} {env : PySem.Env} (hk : env.scope.kind = .function) (h : parB env.scope x y px py a b = true) :
    swappedStores [.Tuple [.Name x px, .Name y py] kt pt] (.Tuple [a, b] k2 pt2) env = pure (some [x, y]) := by
  unfold parB at h
  simp only [Bool.and_eq_true, Bool.not_eq_true', isLoc, decide_eq_true_eq] at h
  obtain ⟨h1, h2, h3, h4, h5, h6, h7, h8⟩ := h
  have k1 : env.kindOf x = some .local := h1
  have k2 : env.kindOf y = some .local := h2
  have bk : env.blockKind = .function := by
    unfold Env.blockKind
    rw [hk]; rfl
  unfold swappedStores
  simp only [bk, List.length_cons, List.length_nil]
  rw [any_nst (a := a) (b := b) (by intro e he; cases e <;> first | rfl | (cases he; done)) h5 h6]
  simp only [List.head?_cons, Option.map_some, Option.getD_some, Expr.pos, List.filterMap_cons, List.filterMap_nil, k1, k2, h3]
  simp only [h7, h8]
  have e2 : ([x, y] : List Str).eraseDups.length = 2 := by
    have : (y == x) = false := by
      rw [beq_eq_false_iff_ne] at h4 ⊢
      exact fun z => h4 z.symm
    simp [List.eraseDups_cons, this]
  simp [e2]
/-- one of them is a cell: a pair is made -/
def cellB (sc : Scope) : Expr → Expr → Bool
  | .Tuple [.Name x _, .Name y _] _ _, .Tuple [a, b] _ _ => nst a && (nst b && (!isLoc sc x || !isLoc sc y))
  | _, _ => false
theorem sw_cell {tg v : Expr} {env : PySem.Env} (hk : env.scope.kind = .function) (h : cellB env.scope tg v = true) : swappedStores [tg] v env = pure none := by
  unfold cellB at h
  split at h
  · rename_i x px y py kt pt a b k2 pt2
    simp only [Bool.and_eq_true, Bool.or_eq_true, Bool.not_eq_true', isLoc, decide_eq_false_iff_not] at h
    obtain ⟨h1, h2, h3⟩ := h
    have bk : env.blockKind = .function := by
      unfold Env.blockKind
      rw [hk]; rfl
    unfold swappedStores
    simp only [bk, List.length_cons, List.length_nil]
    rw [any_nst (a := a) (b := b) (by intro e he; cases e <;> first | rfl | (cases he; done)) h1 h2]
    simp only [List.head?_cons, Option.map_some, Option.getD_some, Expr.pos, List.filterMap_cons, List.filterMap_nil]
    rcases h3 with h3 | h3
    · have k1 : (env.kindOf x == some .local) = false := by simpa [Env.kindOf] using h3
      simp only [k1, Bool.false_and]
      rcases Bool.eq_false_or_eq_true (env.kindOf y == some NameKind.local && py.line == px.line) with hq | hq <;> simp only [hq] <;> rfl
    · have k1 : (env.kindOf y == some .local) = false := by simpa [Env.kindOf] using h3
      simp only [k1, Bool.false_and]
      rcases Bool.eq_false_or_eq_true (env.kindOf x == some NameKind.local && px.line == px.line) with hq | hq <;> simp only [hq] <;> rfl
  · cases h
section
variable {X : Cx} {W : WX} {cl : Nat → Value} {a b : Expr} {f g : Env → R D} {pos : Pos}
theorem Rel.set2 {H0 G H : Hp} {env : Env} {σ : St} {i j : Nat} {v w : V} {x y : D} (r : Rel H0 G env σ H) (q : Rp G v x) (q2 : Rp G w y) : Rel H0 G ((env.set i (some (.val x))).set j (some (.val y))) ((σ.set i (some v)).set j (some w)) H := (r.set q).set q2
theorem s_par {i j : Nat} {x y : Str} {px py pt pt2 : Pos} {kt k2 : Nat} (hc : X.calm = true) (hN : X.N.Nodup) (hi : X.N[i]? = some x) (hj : X.N[j]? = some y) (hij : i ≠ j) (hk : X.env.scope.kind = .function) (h : parB X.env.scope x y px py a b = true)
    (ha : PE X a (tE W cl f)) (hb : PE X b (tE W cl g)) :
    PS X (.Assign [.Tuple [.Name x px, .Name y py] kt pt] (.Tuple [a, b] k2 pt2) pos) (tSt W cl fun env => (f env).then_ env fun x => (g env).then_ env fun y => if i < env.length ∧ j < env.length then .nx ((env.set i (some (.val x))).set j (some (.val y))) else .bad) := by
  have h0 := h
  unfold parB at h0
  simp only [Bool.and_eq_true, Bool.not_eq_true', isLoc, decide_eq_true_eq] at h0
  obtain ⟨h1, h2, h3, h4, h5, h6, h7, h8⟩ := h0
  refine PS.mono (ps_par hc hN hi hj hij h1 h2 (pa_cons ha (pa_cons hb pa_nil (starEach_cons h6 _ _)) (starEach_cons h5 _ _)) (sw_par hk h) rfl) fun D σ H ⟨H0, G, env, rel, p⟩ => ?_
  refine ⟨H0, G, env, rel, (then_out (ρ := rhE) rel p).mono fun v H1 ⟨x, G1, st, q, rel1, p1⟩ => ?_⟩
  refine ⟨H0, G1, env, rel1, (then_out (ρ := rhE) rel1 p1).mono fun w H2 ⟨y, G2, st2, q2, rel2, p2⟩ => ?_⟩
  split at p2
  · exact ⟨_, _, rfl, p2 _ G2 _ Up.refl (rel2.set2 (q.ext st2.gg) q2)⟩
  · exact False.elim p2
theorem s_asgC {tg e : Expr} {t : Tg} (hk : X.env.scope.kind = .function) (hsw : swpl tg e = true) (hst : cellB X.env.scope tg e = true) (hn : nstT tg = true) (he : PE X e (tE W cl f)) (hg : PG X tg (tG t)) : PS X (.Assign [tg] e pos) (tSt W cl (mAsg t f)) :=
  PS.mono (ps_asg he hg (swpl_ok hsw _ _) (sw_cell hk hst) (by rw [asgEach_cons hn]; rfl)) fun D σ H h => t_asg h
/-- a list of its own, by a comprehension -/
theorem t_newC {t : Tg} {fi : Env → R (List D)} {fc : Env → R Bool} {fe : Env → R D} {i : Nat} {E : Ends} {σ : St} {H : Hp} (h : tSt W cl (fun env => (compD t fi fc fe env).then_ env fun d => match d with
      | .list ds => putW env i (.own ds)
      | _ => .bad) E σ H) : tLc (tIt W cl fi) (tG t) (tTt W0 cl fc) (tE W0 cl fe) t.slots σ H fun v H' => E.nx (σ.set i (some v)) H' := by
  obtain ⟨H0, G, env, rel, p⟩ := h
  have e : ((compD t fi fc fe env).then_ env fun d => match d with
      | .list ds => putW env i (.own ds)
      | _ => .bad) = (fi env).then_ env fun xs => if xs.length ≤ lim then (compF (turnD t fc fe env) xs).then_ env fun ys => putW env i (.own ys) else .bad := by
    unfold compD
    cases fi env with
    | ok xs =>
      simp only [ok_bind, ok_then]
      split
      · show ((compF (turnD t fc fe env) xs >>= fun ys => pure (PyData.list ys)).then_ env _) = _
        cases compF (turnD t fc fe env) xs <;> rfl
      · rfl
    | exc c => rfl
    | bad => rfl
  dsimp only at p
  rw [e] at p
  refine ⟨H0, G, env, rel, (then_out (ρ := rhI) rel p).mono fun J H1 ⟨items, G1, st, wk, rel1, p1⟩ => ?_⟩
  split at p1
  rotate_left
  · exact False.elim p1
  rename_i hlen
  cases hc : compF (turnD t fc fe env) items with
  | exc c => exact absurd hc (compF_noexc _ _)
  | bad => rw [hc] at p1; exact False.elim p1
  | ok ys =>
    rw [hc] at p1
    simp only [ok_then] at p1
    unfold putW at p1
    split at p1
    rotate_left
    · exact False.elim p1
    rename_i hil
    refine t_compC (cl := cl) (Q := fun v H' => E.nx (σ.set i (some v)) H') rel1 wk hlen hc ?_
    intro D G' H' vs hD st' gD hHD ql
    · have rel2 := rel1.step st'
      have h0D : H0 D = none := rel1.h0.free hD
      refine p1 _ G' H' (rel1.up st') (Rel.setOwn (w := .own ys) rel2 hil rfl rel2.gh rel2.h0 ⟨D, vs, rfl, gD, h0D, hHD, ql⟩ (fun q o _ ho => ho) fun j wj hj h1 h2 => ?_)
      exact rel1.apartNew hD h1 h2
end
end M

set_option Elab.async false
set_option linter.all false
set_option maxRecDepth 100000
set_option maxHeartbeats 4000000
namespace M
open PySem PySem.Spec L2
open PyProof.Rows hiding St
/-! ### what is made anew of tuples alone holds no list of others -/
def tups (G : Hp) : Hp := fun p => match G p with
  | some (.tup xs) => some (.tup xs)
  | _ => none
theorem tups_eq {G : Hp} {p : Addr} {u : HO} (h : tups G p = some u) : G p = some u ∧ ∃ xs, u = .tup xs := by
  unfold tups at h
  split at h
  · rename_i xs hx; cases h; exact ⟨hx, xs, rfl⟩
  · cases h
theorem tups_same {G H : Hp} (e : Same G H) : Same (tups G) H := fun b u hb => e _ _ (tups_eq hb).1
theorem tups_tup {G : Hp} {p : Addr} {xs : List V} (h : G p = some (.tup xs)) : tups G p = some (.tup xs) := by unfold tups; rw [h]
mutual
theorem Rp.tupO {G : Hp} : ∀ {v : V} {d : D}, Rp G v d → noLst d = true → Rp (M.tups G) v d
  | _, _, .non, _ => .non
  | _, _, .bl b, _ => .bl b
  | _, _, .int i, _ => .int i
  | _, _, .str x, _ => .str x
  | _, _, .lst h r, c => by rw [noLst] at c; cases c
  | _, _, .tup h r, c => .tup (tups_tup h) (RpL.tupO r (by rw [noLst] at c; exact c))
  | _, _, .scr h, c => by rw [noLst] at c; cases c
theorem RpL.tupO {G : Hp} : ∀ {vs : List V} {ds : List D}, RpL G vs ds → noLstL ds = true → RpL (M.tups G) vs ds
  | _, _, .nil, _ => .nil
  | _, _, .cons r t, c => by
    rw [noLstL, Bool.and_eq_true] at c
    exact .cons (Rp.tupO r c.1) (RpL.tupO t c.2)
end
theorem tupEnv_at {env : Env} {i : Nat} {w : W} (h : (tupEnv env)[i]? = some (some w)) : ∃ d, w = .val d ∧ env[i]? = some (some (.val d)) ∧ noLst d = true := by
  unfold tupEnv at h
  rw [List.getElem?_map] at h
  cases he : env[i]? with
  | none => rw [he] at h; cases h
  | some o =>
    rw [he] at h
    simp only [Option.map_some, Option.some.injEq] at h
    cases o with
    | none => cases h
    | some x =>
      cases x with
      | val d =>
        simp only [tupW] at h
        split at h
        · rename_i hd; cases h; exact ⟨d, rfl, rfl, hd⟩
        · cases h
      | _ => cases h
theorem Rel.tups {H0 G H : Hp} {env : Env} {σ : St} (r : Rel H0 G env σ H) : Rel H0 (M.tups G) (tupEnv env) σ H := by
  refine ⟨tups_same r.gh, r.h0, by unfold tupEnv; rw [List.length_map]; exact r.len, fun i w h => ?_, fun i j wi wj v hij h1 h2 o1 o2 h3 => ?_⟩
  · obtain ⟨d, rfl, h1, h2⟩ := tupEnv_at h
    obtain ⟨v, h3, h4⟩ := r.at_ i _ h1
    exact ⟨v, h3, Rp.tupO h4 h2⟩
  · obtain ⟨d, rfl, _⟩ := tupEnv_at h1
    cases o1
theorem Rel.grow {H0 G H H' : Hp} {env : Env} {σ : St} (r : Rel H0 G env σ H) (hh : Same H H') : Rel H0 G env σ H' := r.step ⟨Same.refl _, r.gh.trans hh, hh, fun _ _ _ _ h => h⟩
theorem Rel.forget {H0 G H : Hp} {env : Env} {σ : St} {i : Nat} {x : Option V} (r : Rel H0 G env σ H) : Rel H0 G (env.set i none) (σ.set i x) H := by
  have ne : ∀ {j : Nat} {w : W}, (env.set i none)[j]? = some (some w) → i ≠ j := fun {j w} h e => by
    subst e
    by_cases hl : i < env.length
    · rw [List.getElem?_set_self hl] at h; cases h
    · rw [List.getElem?_eq_none (by simpa using hl)] at h; cases h
  refine ⟨r.gh, r.h0, by simp [r.len], fun j w h => ?_, fun j k wj wk u hjk h1 h2 o1 o2 h3 => ?_⟩
  · have e := ne h
    rw [List.getElem?_set_ne e] at h ⊢
    exact r.at_ j w h
  · have e1 := ne h1
    have e2 := ne h2
    rw [List.getElem?_set_ne e1] at h1 h3
    rw [List.getElem?_set_ne e2] at h2 ⊢
    exact r.sep j k wj wk u hjk h1 h2 o1 o2 h3
/-- values made one behind the other: each by a heap of its own, its lists new -/
inductive Priv : Hp → List V → List D → Hp → Prop
  | nil (H : Hp) : Priv H [] [] H
  | cons {H H1 H2 Gi : Hp} {v : V} {d : D} {vs : List V} {ds : List D} : Same H H1 → Same Gi H1 → Rp Gi v d → (∀ p xs, Gi p = some (.lst xs) → H p = none) → Priv H1 vs ds H2 → Priv H (v :: vs) (d :: ds) H2
theorem Priv.grow : ∀ {H H2 : Hp} {vs : List V} {ds : List D}, Priv H vs ds H2 → Same H H2
  | _, _, _, _, .nil _ => Same.refl _
  | _, _, _, _, .cons h _ _ _ t => h.trans (Priv.grow t)
theorem Priv.len : ∀ {H H2 : Hp} {vs : List V} {ds : List D}, Priv H vs ds H2 → vs.length = ds.length
  | _, _, _, _, .nil _ => rfl
  | _, _, _, _, .cons _ _ _ _ t => by simp [Priv.len t]
theorem Priv.dps {K : PySem.W.Frag} : ∀ {H H2 H' : Hp} {vs : List V} {ds : List D}, Priv H vs ds H2 → Same H2 H' → PyData.canLayAll0 ds = true → DpAll K H' vs ds
  | _, _, _, _, _, .nil _, _, _ => .nil
  | _, _, _, _, _, .cons _ g r _ t, e, c => by
    simp only [PyData.canLayAll0, Bool.and_eq_true] at c
    exact .cons (r.dp ((g.trans t.grow).trans e) c.1) (Priv.dps t e c.2)
section
variable {X : Cx} {W : WX} {cl : Nat → Value}
/-- fresh lists of what a step made of tuples -/
theorem step_fresh {G H G' H1 : Hp} (e : Same G H) (st : Step (tups G) H G' H1) : ∀ p xs, G' p = some (.lst xs) → H p = none := by
  intro p xs h
  cases hp : H p with
  | none => rfl
  | some o =>
    have h1 := st.hh _ _ hp
    have h2 := st.gh _ _ h
    rw [h1] at h2
    cases h2
    have h3 : tups G p = none := by
      cases ht : tups G p with
      | none => rfl
      | some u =>
        obtain ⟨h4, xs', rfl⟩ := tups_eq ht
        have := e _ _ h4
        rw [hp] at this
        cases this
    rw [st.no p _ hp rfl h3] at h
    cases h
/-- rows of expressions, each evaluated so -/
def tJ (f : Env → R (List D)) : TA := fun σ H Q => ∃ H0 G env ds, Rel H0 G env σ H ∧ f (tupEnv env) = .ok ds ∧ ∀ vs H', Priv H vs ds H' → Q vs H'
theorem j_nil : PA X [] (tJ fun _ => .ok []) := PA.mono pa_nil fun σ H Q ⟨H0, G, env, ds, rel, h, k⟩ => by cases h; exact k [] H (.nil H)
theorem j_cons {e : Expr} {es : List Expr} {f : Env → R D} {fs : Env → R (List D)} (hn : nst e = true) (ha : PE X e (tE W cl f)) (hr : PA X es (tJ fs)) : PA X (e :: es) (tJ fun env => do let x ← f env; let xs ← fs env; pure (x :: xs)) :=
  PA.mono (pa_cons ha hr (starEach_cons hn es X.env)) fun σ H Q ⟨H0, G, env, ds, rel, h, k⟩ => by
    dsimp only at h
    refine ⟨H0, tups G, tupEnv env, rel.tups, ?_⟩
    cases hf : f (tupEnv env) with
    | exc c => rw [hf] at h; cases h
    | bad => rw [hf] at h; cases h
    | ok x =>
      rw [hf] at h
      cases hs : fs (tupEnv env) with
      | exc c => rw [hs] at h; cases h
      | bad => rw [hs] at h; cases h
      | ok xs =>
        rw [hs] at h
        cases h
        intro v G' H1 st q
        exact ⟨H0, G, env, xs, rel.grow st.hh, hs, fun vs H2 pv => k (v :: vs) H2 (.cons st.hh st.gh q (step_fresh rel.gh st) pv)⟩
end

/-! ### lists of what was made are changed; then it is forgotten -/
theorem few0 (pos : Pos) (env : PySem.Env) (e : Expr) (hn : nst e = true) : ((backTo pos (starEach [e] env)).all (fun x => !x.1) && (backToKw pos (keywordEach [] env)).all (fun x => x.1.isSome)
      && decide ([e].length + ([] : List Keyword).length + (if ([] : List Keyword).isEmpty then 0 else 1) < 30)) = true := by
  rw [star_all (es := [e]) (by simpa using hn)]; rfl
theorem at_0 {α : Type} (x : α) (xs : List α) : L2.atI (x :: xs) 0 = some x := by
  unfold L2.atI L2.ixN
  simp
theorem at_1 {α : Type} (x y : α) (xs : List α) : L2.atI (x :: y :: xs) 1 = some y := by
  unfold L2.atI L2.ixN
  rw [if_pos (by decide), if_pos (by simp; omega)]
  rfl
theorem at_2 {α : Type} (x y z : α) (xs : List α) : L2.atI (x :: y :: z :: xs) 2 = some z := by
  unfold L2.atI L2.ixN
  rw [if_pos (by decide), if_pos (by simp; omega)]
  rfl
theorem spoil_shape {ds : List D} (h : spoilK ds true = none) : ∃ a b k z r, ds = .list a :: .list b :: .tuple [.list k, z] :: r ∧ b.length < lim ∧ k.length < lim := by
  unfold spoilK at h
  rw [if_pos rfl] at h
  split at h
  · split at h
    · rename_i hh; exact ⟨_, _, _, _, _, rfl, hh.1, hh.2⟩
    · cases h
  · cases h
section
variable {X : Cx} {W : WX} {cl : Nat → Value}
theorem s_spoil {i y : Nat} {n1 n2 n3 n4 n5 k1 : Str} {es : List Expr} {fs : Env → R (List D)} {B : Env → Rs} {x4 x5 : Str} {rest : List Stmt} {j1 j2 j3 j4 j5 j6 j7 : Nat} {p1 p2 p3 p4 p5 p6 p7 p8 p9 p10 p11 p12 p13 p14 p15 p16 p17 p18 p19 p20 p21 p22 p23 p24 p25 ap3 ap4 ap5 pos3 pos4 pos5 : Pos}
    (hu : X.A.units + 65 < cLine) (hg : PG X (.Name n1 p1) (gName i)) (ha : PA X es (tJ fs)) (hk : PE X (.Name k1 p4) (tVar y)) (h2 : PE X (.Name n2 p5) (tVar i)) (h3 : PE X (.Name n3 p9) (tVar i)) (h4 : PE X (.Name n4 p13) (tVar i)) (h5 : PE X (.Name n5 p18) (tVar i))
    (l3 : (ap3.endLine == pos3.line) = true) (l4 : (ap4.endLine == pos4.line) = true) (l5 : (ap5.endLine == pos5.line) = true) (hr : PSs X rest (tSt W cl B)) :
    PSs X (.Assign [.Name n1 p1] (.List es p2) p3 :: .If (.Compare (.Name k1 p4) [.NotEq] [.Name n2 p5] p6) [.Return (some (.Constant (.bool false) j1 p7)) p8] [] p22 ::
      .Expr (.Call (.Attribute (.Subscript (.Name n3 p9) (.Constant (.int 0) j2 p10) p11) "clear" ap3) [] [] pos3) p12 ::
      .Expr (.Call (.Attribute (.Subscript (.Name n4 p13) (.Constant (.int 1) j3 p14) p15) "append" ap4) [.Constant (.str x4) j4 p16] [] pos4) p17 ::
      .Expr (.Call (.Attribute (.Subscript (.Subscript (.Name n5 p18) (.Constant (.int 2) j5 p19) p20) (.Constant (.int 0) j6 p21) p23) "append" ap5) [.Constant (.str x5) j7 p24] [] pos5) p25 :: rest)
      (tSt W cl fun env => spoilS i y env (fs (tupEnv env)) (getV env y) B) := by
  have r1 : PS X (.Assign [.Name n1 p1] (.List es p2) p3) (tAsg (tLst (tJ fs)) (gName i)) := ps_asg (pe_lst ha) hg (plsw_ok (e := .List es p2) rfl (some (.Name n1 p1)) p3.line X.env) (plstore_ok rfl _) (by rw [asgEach_cons rfl]; rfl)
  have r2 : PS X (.If (.Compare (.Name k1 p4) [.NotEq] [.Name n2 p5] p6) [.Return (some (.Constant (.bool false) j1 p7)) p8] [] p22) _ := ps_if (pt_cmpR (op_neD (by omega)) hk h2 rfl) (pss_cons (ps_ret pe_bl) pss_nil) pss_nil
  have r3 : PS X (.Expr (.Call (.Attribute (.Subscript (.Name n3 p9) (.Constant (.int 0) j2 p10) p11) "clear" ap3) [] [] pos3) p12) _ := ps_expr (pe_bm0 F.plainAttrs_list F.slot_list_clear F.type_list_clear mt_clear (pe_ix ix_list h3 (pe_int (i := 0)) (plix_ok rfl)) rfl l3) rfl
  have r4 : PS X (.Expr (.Call (.Attribute (.Subscript (.Name n4 p13) (.Constant (.int 1) j3 p14) p15) "append" ap4) [.Constant (.str x4) j4 p16] [] pos4) p17) _ := ps_expr (pe_bm F.plainAttrs_list F.slot_list_append F.type_list_append mt_append (pe_ix ix_list h4 (pe_int (i := 1)) (plix_ok rfl)) (pa_cons pe_str pa_nil rfl) rfl (few0 pos4 X.env _ rfl) l4 rfl rfl) rfl
  have r5 : PS X (.Expr (.Call (.Attribute (.Subscript (.Subscript (.Name n5 p18) (.Constant (.int 2) j5 p19) p20) (.Constant (.int 0) j6 p21) p23) "append" ap5) [.Constant (.str x5) j7 p24] [] pos5) p25) _ := ps_expr (pe_bm F.plainAttrs_list F.slot_list_append F.type_list_append mt_append (pe_ix ix_tup (pe_ix ix_list h5 (pe_int (i := 2)) (plix_ok rfl)) (pe_int (i := 0)) (plix_ok rfl)) (pa_cons pe_str pa_nil rfl) rfl (few0 pos5 X.env _ rfl) l5 rfl rfl) rfl
  refine PSs.mono (pss_cons r1 (pss_cons r2 (pss_cons r3 (pss_cons r4 (pss_cons r5 hr))))) fun D σ H ⟨H0, G, env, rel, p⟩ => ?_
  dsimp only at p
  unfold spoilS at p
  cases hds : fs (tupEnv env) with
  | exc c => rw [hds] at p; exact False.elim p
  | bad => rw [hds] at p; exact False.elim p
  | ok ds =>
  rw [hds] at p
  cases hkv : getV env y with
  | exc c => rw [hkv] at p; exact False.elim p
  | bad => rw [hkv] at p; exact False.elim p
  | ok k =>
  rw [hkv] at p
  dsimp only at p
  split at p
  rotate_left
  · exact False.elim p
  rename_i hc0
  obtain ⟨hlen, hil, hiy⟩ := hc0
  obtain ⟨kv, hσy, rk⟩ := rel.var hkv
  refine ⟨H0, G, env, ds, rel, hds, fun vs Hn pv => ⟨by rw [pv.len]; exact Nat.le_trans hlen lim_le, fun a hna => ?_⟩⟩
  have hisl : i < σ.length := by rw [← rel.len]; exact hil
  have gHn : Same H Hn := pv.grow
  have s_a : Same Hn (upd Hn a (.lst vs)) := same_upd hna
  have sy : (σ.set i (some (V.ref a)))[y]? = some (some kv) := by rw [List.getElem?_set_ne hiy]; exact hσy
  have si : (σ.set i (some (V.ref a)))[i]? = some (some (.ref a)) := by rw [List.getElem?_set_self hisl]
  have hHa : H a = none := gHn.free hna
  cases he : eqD k (.list ds) with
  | exc c => rw [he] at p; exact False.elim p
  | bad => rw [he] at p; exact False.elim p
  | ok c =>
  rw [he] at p
  dsimp only at p
  have hsh : SeqAt.shaped k = true ∧ SeqAt.shaped (.list ds) = true ∧ PyData.eqv k (.list ds) = c := by
    unfold eqD at he
    split at he
    · rename_i hs
      cases he
      exact ⟨(Bool.and_eq_true_iff.mp hs).1, (Bool.and_eq_true_iff.mp hs).2, rfl⟩
    · cases he
  obtain ⟨sh1, sh2, heq⟩ := hsh
  have dp1 : Dp X.K (upd Hn a (.lst vs)) kv k := rk.dp ((rel.gh.trans gHn).trans s_a) (sh0 sh1)
  have dp2 : Dp X.K (upd Hn a (.lst vs)) (.ref a) (.list ds) := .lst (SqL.of upd_same) (pv.dps s_a (by simpa [PyData.canLay0] using sh0 sh2))
  refine ⟨kv, sy, .ref a, si, k, .list ds, dp1, dp2, sh1, sh2, _, rfl, ?_⟩
  rw [heq]
  cases c with
  | false =>
    rw [Bool.not_false, if_pos rfl]
    simp only [spoilK, Bool.false_eq_true, if_false] at p
    exact p (.bl false) G _ Up.refl ((rel.gh.trans gHn).trans s_a) ((rel.h0.trans gHn).trans s_a) (.bl false)
  | true =>
    rw [Bool.not_true, if_neg (by decide)]
    cases hsp : spoilK ds true with
    | some x =>
      exfalso
      rw [hsp] at p
      unfold spoilK at hsp
      rw [if_pos rfl] at hsp
      split at hsp
      · split at hsp
        · cases hsp
        · cases hsp; exact p
      · cases hsp; exact p
    | none =>
    rw [hsp] at p
    dsimp only at p
    obtain ⟨xa, xb, xc, z, r, rfl, hb1, hb2⟩ := spoil_shape hsp
    cases pv with
    | @cons _ Ha _ Ga va _ vsa _ sa ga ra fa pv =>
    cases pv with
    | @cons _ Hb _ Gb vb _ vsb _ sb gb rb fb pv =>
    cases pv with
    | @cons _ Hc _ Gc vc _ vsc _ sc gc rc fc pv =>
    have gn := pv.grow
    cases ra with
    | @lst q0 ys0 _ g0 l0 =>
    cases rb with
    | @lst q1 ys1 _ g1 l1 =>
    cases rc with
    | @tup t2 ts _ g2 lt =>
    cases lt with
    | @cons w2 ws _ _ rw2 lt =>
    cases rw2 with
    | @lst q2 ys2 _ g3 l2 =>
    cases lt with
    | @cons w3 ws3 _ _ rw3 lt =>
    cases lt
    -- where they stand
    have f0 := fa _ _ g0
    have f1 := fb _ _ g1
    have f2 := fc _ _ g3
    have m0 : Hn q0 = some (.lst ys0) := gn _ _ (sc _ _ (sb _ _ (ga _ _ g0)))
    have m1 : Hn q1 = some (.lst ys1) := gn _ _ (sc _ _ (gb _ _ g1))
    have m2 : Hn q2 = some (.lst ys2) := gn _ _ (gc _ _ g3)
    have m3 : Hn t2 = some (.tup [.ref q2, w3]) := gn _ _ (gc _ _ g2)
    have n01 : q1 ≠ q0 := fun e => by have := ga _ _ g0; rw [← e, f1] at this; cases this
    have n02 : q2 ≠ q0 := fun e => by have := sb _ _ (ga _ _ g0); rw [← e, f2] at this; cases this
    have n12 : q2 ≠ q1 := fun e => by have := gb _ _ g1; rw [← e, f2] at this; cases this
    have na0 : q0 ≠ a := ne_of_none m0 hna
    have na1 : q1 ≠ a := ne_of_none m1 hna
    have na2 : q2 ≠ a := ne_of_none m2 hna
    have na3 : t2 ≠ a := ne_of_none m3 hna
    have n30 : t2 ≠ q0 := fun e => by rw [e, m0] at m3; cases m3
    have n31 : t2 ≠ q1 := fun e => by rw [e, m1] at m3; cases m3
    have hq0 : H q0 = none := f0
    have hq1 : H q1 = none := sa.free f1
    have hq2 : H q2 = none := sa.free (sb.free f2)
    have ll1 := l1.len
    have ll2 := l2.len
    have lle := lim_le
    -- clear
    refine ⟨.ref a, si, a, _, 0, .ref q0, rfl, rfl, SqL.of upd_same, at_0 _ _, .inl ⟨rfl, ys0, SqL.of (by rw [upd_ne na0]; exact m0)⟩, q0, ys0, rfl, rfl, by rw [upd_ne na0]; exact m0, ?_⟩
    -- append
    refine ⟨.ref a, si, a, _, 1, .ref q1, rfl, rfl, SqL.of (by rw [upd_ne (Ne.symm na0), upd_same]), at_1 _ _ _, .inl ⟨rfl, ys1, SqL.of (by rw [upd_ne n01, upd_ne na1]; exact m1)⟩, q1, ys1, .str x4, rfl, rfl, by rw [upd_ne n01, upd_ne na1]; exact m1, by omega, ?_⟩
    -- append within the pair
    refine ⟨.ref a, si, a, _, 2, .ref t2, rfl, rfl, SqL.of (by rw [upd_ne (Ne.symm na1), upd_ne (Ne.symm na0), upd_same]), at_2 _ _ _ _, ?_⟩
    refine ⟨t2, _, 0, .ref q2, rfl, rfl, SqT.of (by rw [upd_ne n31, upd_ne n30, upd_ne na3]; exact m3), at_0 _ _, .inl ⟨rfl, ys2, SqL.of (by rw [upd_ne n12, upd_ne n02, upd_ne na2]; exact m2)⟩, q2, ys2, .str x5, rfl, rfl, by rw [upd_ne n12, upd_ne n02, upd_ne na2]; exact m2, by omega, ?_⟩
    refine ⟨H0, G, env.set i none, (rel.grow fun b u hb => ?_).forget, p⟩
    rw [upd_ne (ne_of_none hb hq2), upd_ne (ne_of_none hb hq1), upd_ne (ne_of_none hb hq0), upd_ne (ne_of_none hb hHa)]
    exact gHn _ _ hb
end
end M

set_option Elab.async false
set_option linter.all false
set_option maxRecDepth 100000
set_option maxHeartbeats 4000000
namespace M
open PySem PySem.Spec L2
open PyProof.Rows hiding St
section
variable {X : Cx} {W : WX} {cl : Nat → Value} {a b c e : Expr} {st : Stmt} {rest sts : List Stmt} {f g k : Env → R D} {A B : Env → Rs} {pos : Pos}
theorem s_rse {x m : Str} {j n : Nat} {C : Addr} {p p2 pos' : Pos} (hc : X.calm = true) (tk : Takes X W) (q : PySem.W.excIn X.K C He.veBase "ValueError.__new__" = true) (gC : X.mg x = some (.ref C)) (kC : PySem.W.keepIn X.K (.ref C) = true)
    (h1 : PySem.W.subIn X.K (.ref C) (.type "BaseException") = some true) (h2 : PySem.W.typeIn X.K (.ref C) = some (.type "type")) (hg : Gl X x) (hdb : (x == ("__debug__" : Str)) = false) (hcl : cl n = .ref C) :
    PS X (.Raise (some (.Call (.Name x p) [.Constant (.str m) j p2] [] pos)) none pos') (tSt W cl fun env => .exc n env) :=
  PS.mono (ps_raise hc tk (pmk_own F.excBase_ValueError q gC kC (raises_own h1 h2) hg hdb)) fun D σ H ⟨H0, G, env, rel, p⟩ => by
    have := p σ G H Up.refl rel
    rw [hcl] at this
    exact this
/-- what handlers do: their classes, their meanings -/
def evHl : List (Nat × (Env → Rs)) → Nat → Env → Rs
  | [], c, env => .exc c env
  | (c', A) :: r, c, env => if c = c' then (match A env with
    | .exc _ _ => .bad
    | x => x) else evHl r c env
theorem wMany_ok {H0 G H : Hp} {env : Env} {σ : St} {D : Ends} {n : Nat} (rel : Rel H0 G env σ H) : ∀ (hm : List (Nat × (Env → Rs))), (∀ p ∈ hm, PySem.W.exmOne X.K (cl n) (cl p.1) = some (decide (n = p.1))) → Post H0 W cl D G (evHl hm n env) →
    wMany X.K W D (hm.map fun p => (cl p.1, fun _ _ _ => tSt W0 cl p.2)) (cl n) none σ H
  | [], _, p => p σ G H Up.refl rel
  | (c', A) :: r, hx, p => by
    refine ⟨decide (n = c'), hx _ List.mem_cons_self, fun hb a ha => ⟨H0, G, env, rel, ?_⟩, fun hb => ?_⟩
    · have e : n = c' := of_decide_eq_true hb
      simp only [evHl, e, if_true] at p
      show Post H0 W0 cl D G (A env)
      cases hA : A env with
      | nx env' => rw [hA] at p; exact p
      | rt d => rw [hA] at p; exact p
      | exc c env' => rw [hA] at p; exact False.elim p
      | bad => rw [hA] at p; exact p
    · have e : ¬ n = c' := of_decide_eq_false hb
      simp only [evHl, e, if_false] at p
      exact wMany_ok rel r (fun q hq => hx q (List.mem_cons_of_mem _ hq)) p
theorem s_try {body : List Stmt} {h0 : ExceptHandler} {hds : List ExceptHandler} {hm : List (Nat × (Env → Rs))} {ps : List Nat} (hs : X.stack = X.env :: X.outer) (hf : X.env.frame = some X.env.locals) (tk : Takes X W)
    (hb : ∀ (W : WX) (pn : List (Addr × Obj)) (xe : Value → Shared → Prop), Takes (X.tr pn xe) W → PassesOwn (model X.prog X.w) X.A X.env xe → PSs (X.tr pn xe) body (tSt W cl B))
    (hh : HdsOk X (h0 :: hds) (hm.map fun p => (cl p.1, fun _ _ _ => tSt W0 cl p.2))) (hx : ∀ n, ps.contains n = true → ∀ p ∈ hm, PySem.W.exmOne X.K (cl n) (cl p.1) = some (decide (n = p.1))) :
    PS X (.Try body (h0 :: hds) [] [] pos) (tSt W cl fun env => match B env with
      | .exc n env' => if ps.contains n then evHl hm n env' else .bad
      | x => x) :=
  PS.mono (ps_try_many hs hf tk hb hh) fun D σ H ⟨H0, G, env, rel, p⟩ => ⟨H0, G, env, rel, by
    dsimp only at p
    cases hB : B env with
    | nx env' => rw [hB] at p; exact p
    | rt d => rw [hB] at p; exact p
    | bad => rw [hB] at p; exact p
    | exc n env' =>
      rw [hB] at p
      dsimp only at p
      split at p
      · rename_i hps
        exact fun σ' G' H' u r => wMany_ok r hm (hx n hps) (Post.up p u)
      · exact False.elim p⟩
end
end M

set_option Elab.async false
set_option linter.all false
set_option maxRecDepth 100000
set_option maxHeartbeats 4000000
namespace M
open PySem PySem.Spec L2
open PyProof.Rows hiding St
/-! ### a text agrees with a mini text -/
/-- what the top has: built-in names not bound, constants, defs, exception classes -/
structure St0 where
  fr : List Str
  cs : List (Str × D)
  fns : List (Nat × Str)
  exs : List (Nat × Str)
  sup : Option Str
/-- where one stands: names by slot, the scope, names whose cells are one's own, not in an except suite -/
structure Sc where
  N : List Str
  sc : Scope
  fn : Str → Bool
  calm : Bool
def Sc.blk (c : Sc) (scope : Scope) : Sc := { c with sc := relS scope c.sc, fn := fun x => scope.names.lookup x == some .cell }
def nameOk (x : Str) : Bool := !(x == ("__debug__" : Str)) && !(x == ("__classdict__" : Str))
def visB (c : Sc) (x : Str) : Bool := match c.sc.names.lookup x with
  | some .local => true
  | some .cell => true
  | some .free => true
  | _ => false
def slotB (c : Sc) (i : Nat) (x : Str) : Bool := decide (c.N[i]? = some x) && visB c x && nameOk x
def globB (c : Sc) (x : Str) : Bool := decide (c.sc.names.lookup x = some .globalImplicit) && nameOk x
def storeB (c : Sc) (i : Nat) (x : Str) : Bool := decide (c.N[i]? = some x) && (decide (c.sc.names.lookup x = some .local) || (decide (c.sc.names.lookup x = some .cell) && c.fn x))
def freeB (s : St0) (c : Sc) (x : Str) : Bool := s.fr.contains x && globB c x
def cstEq : D → D → Bool
  | .int i, .int j => decide (i = j)
  | .str x, .str y => decide (x = y)
  | _, _ => false
def notIfe : E → Bool
  | .ife _ _ _ => false
  | .lockd _ _ => false
  | _ => true
def isAnd : E → Bool
  | .and _ _ => true
  | .one _ => true
  | _ => false
def isOr : E → Bool
  | .or _ _ => true
  | .one _ => true
  | _ => false
def agT (c : Sc) : Tg → Expr → Bool
  | .name i, e => match e with
    | .Name x _ => storeB c i x
    | _ => false
  | .t2 a b, e => match e with
    | .Tuple [x, y] _ _ => c.calm && (agT c a x && agT c b y)
    | _ => false
  | .t3 a b d, e => match e with
    | .Tuple [x, y, z] _ _ => c.calm && (agT c a x && (agT c b y && agT c d z))
    | _ => false
  | .t4 a b d k, e => match e with
    | .Tuple [x, y, z, w] _ _ => c.calm && (agT c a x && (agT c b y && (agT c d z && agT c k w)))
    | _ => false
/-- the names of a target -/
def Tg.own (N : List Str) (t : Tg) : List (Str × Nat) := t.slots.map fun i => (N.getD i "", i)
mutual
def agE (s : St0) (c : Sc) : Bool → E → Expr → Bool
  | _, .var i, e => match e with
    | .Name x _ => slotB c i x
    | _ => false
  | q, .ow i, e => match e with
    | .Name x _ => q && slotB c i x
    | _ => false
  | _, .non, e => match e with
    | .Constant .none _ _ => true
    | _ => false
  | _, .bl b, e => match e with
    | .Constant (.bool b') _ _ => b == b'
    | _ => false
  | _, .int i, e => match e with
    | .Constant (.int j) _ _ => decide (i = j)
    | _ => false
  | _, .str x, e => match e with
    | .Constant (.str y) _ _ => decide (x = y)
    | _ => false
  | _, .cst x d, e => match e with
    | .Name y _ => decide (x = y) && (globB c x && s.cs.any fun p => decide (p.1 = x) && cstEq p.2 d)
    | _ => false
  | _, .bin o a b, e => match e with
    | .BinOp x o' y _ => decide (o = o') && (agE s c true a x && agE s c true b y)
    | _ => false
  | _, .neg a, e => match e with
    | .UnaryOp .USub x _ => agE s c true a x
    | _ => false
  | _, .not a, e => match e with
    | .UnaryOp .Not x _ => notIfe a && agE s c false a x
    | _ => false
  | _, .and a r, e => match e with
    | .BoolOp .And (x :: y :: rest) pos => notIfe a && (isAnd r && (agE s c false a x && agE s c false r (.BoolOp .And (y :: rest) pos)))
    | _ => false
  | _, .or a r, e => match e with
    | .BoolOp .Or (x :: y :: rest) pos => notIfe a && (isOr r && (agE s c false a x && agE s c false r (.BoolOp .Or (y :: rest) pos)))
    | _ => false
  | _, .one a, e => match e with
    | .BoolOp _ [x] _ => notIfe a && agE s c false a x
    | _ => false
  | _, .cmp o a b, e => match e with
    | .Compare x [o'] [y] _ => c.calm && (decide (o = o') && (plset y && (agE s c true a x && agE s c true b y)))
    | _ => false
  | _, .chain o1 o2 a b d, e => match e with
    | .Compare x [o1', o2'] [y, z] _ => c.calm && (decide (o1 = o1') && (decide (o2 = o2') && (plset z && (agE s c true a x && (agE s c true b y && agE s c true d z)))))
    | _ => false
  | _, .isn a neg, e => match e with
    | .Compare x [o] [.Constant .none _ _] _ => decide (o = if neg then .IsNot else .Is) && agE s c true a x
    | _ => false
  | _, .isb a b neg, e => match e with
    | .Compare x [o] [.Constant (.bool b') _ _] _ => decide (o = if neg then .IsNot else .Is) && (b == b' && agE s c true a x)
    | _ => false
  | _, .ife k a b, e => match e with
    | .IfExp z x y _ => notIfe k && (agE s c false k z && (agE s c false a x && agE s c false b y))
    | _ => false
  | _, .tup es, e => match e with
    | .Tuple xs _ _ => agEs s c false es xs
    | _ => false
  | _, .lst es, e => match e with
    | .List xs _ => agEs s c false es xs
    | _ => false
  | _, .idx a i, e => match e with
    | .Subscript x y _ => plix y && (agE s c true a x && agE s c true i y)
    | _ => false
  | _, .sl a lo hi, e => match e with
    | .Subscript x (.Slice l h none _) _ => agE s c true a x && (agO s c lo l && agO s c hi h)
    | _ => false
  | _, .rev a, e => match e with
    | .Subscript x (.Slice none none (some (.UnaryOp .USub (.Constant (.int i) _ _) _)) _) _ => decide (i = 1) && agE s c true a x
    | _ => false
  | _, .call f es, e => match e with
    | .Call (.Name x _) args [] _ => c.calm && (globB c x && ((s.fns.any fun p => decide (p.1 = f) && decide (p.2 = x)) && (args.all nst && agEs s c false es args)))
    | _ => false
  | _, .bi b es, e => match e with
    | .Call (.Name x _) (y :: args) [] _ => c.calm && (decide (x = b.name) && (freeB s c x && ((y :: args).all nst && agEs s c true es (y :: args))))
    | _ => false
  | _, .isi a t, e => match e with
    | .Call (.Name x _) [y, .Name z _] [] _ => decide (x = "isinstance") && (decide (z = t.name) && (freeB s c "isinstance" && (freeB s c t.name && (nst y && agE s c true a y))))
    | _ => false
  | _, .mt m a es, e => match e with
    | .Call (.Attribute x n ap) [y] [] pos => decide (n = m.name) && ((match m with | .lcount => c.calm | .lindex => c.calm | _ => true) && ((ap.endLine == pos.line) && (plbase x && (nst y && (agE s c true a x && agEs s c true es [y])))))
    | _ => false
  | _, .trng a, e => match e with
    | .Call (.Name x _) [.Call (.Name y _) [z] [] _] [] _ => c.calm && (decide (x = "tuple") && (decide (y = "range") && (freeB s c "tuple" && (freeB s c "range" && (nst z && agE s c false a z)))))
    | _ => false
  | _, .comp x t it k, e => match e with
    | .ListComp y [⟨tg, iter, ifs, 0⟩] scope _ => c.calm && (blkC c.N c.sc scope (t.own c.N) && (plset iter && (agT (c.blk scope) t tg && (agI s c it tg iter && (agC s (c.blk scope) k ifs && agE s (c.blk scope) false x y)))))
    | _ => false
  | _, .sset a, e => match e with
    | .Call (.Name x _) [.Call (.Name y _) [z] [] _] [] _ => c.calm && (decide (x = "sorted") && (decide (y = "set") && (freeB s c "sorted" && (freeB s c "set" && (nst z && agE s c true a z)))))
    | _ => false
  | _, .lockd i a, e => agE s c false a e
  | _, .dctget a k d, e => match e with
    | .Call (.Attribute (.Call (.Name x _) [z] [] _) n ap) [u, v] [] pos => c.calm && (decide (x = "dict") && (decide (n = "get") && (freeB s c "dict" && ((ap.endLine == pos.line) && (nst z && (nst u && (nst v && (agE s c true a z && (agE s c false k u && agE s c false d v)))))))))
    | _ => false
  | _, .dhas i k neg, e => match e with
    | .Compare x [o] [.Name y _] _ => c.calm && (decide (o = if neg then .NotIn else .In) && (slotB c i y && agE s c false k x))
    | _ => false
  | _, .didx i k, e => match e with
    | .Subscript (.Name y _) x _ => c.calm && (plix x && (slotB c i y && agE s c false k x))
    | _ => false
  | _, .dget i k d, e => match e with
    | .Call (.Attribute (.Name y _) n ap) [u, v] [] pos => c.calm && (decide (n = "get") && ((ap.endLine == pos.line) && (nst u && (nst v && (slotB c i y && (agE s c false k u && agE s c false d v))))))
    | _ => false
  | _, .dsorted i, e => match e with
    | .Call (.Name x _) [.Name y _] [] _ => c.calm && (decide (x = "sorted") && (freeB s c "sorted" && slotB c i y))
    | _ => false
  | _, .dlit k1 v1 k2 v2 a, e => match e with
    | .Subscript (.Dict [some (.Constant (.str a1) _ _), some (.Constant (.str a2) _ _)] [.Constant (.str b1) _ _, .Constant (.str b2) _ _] _) x _ => c.calm && (decide (a1 = k1) && (decide (a2 = k2) && (decide (b1 = v1) && (decide (b2 = v2) && (!decide (k1 = k2) && (plix x && agE s c false a x))))))
    | _ => false
  | _, _, _ => false
def agEs (s : St0) (c : Sc) : Bool → Es → List Expr → Bool
  | _, .nil, es => match es with
    | [] => true
    | _ => false
  | q, .cons a r, es => match es with
    | e :: es => nst e && (agE s c q a e && agEs s c q r es)
    | _ => false
def agO (s : St0) (c : Sc) : O → Option Expr → Bool
  | .none, e => match e with
    | none => true
    | _ => false
  | .some a, e => match e with
    | some e => agE s c true a e
    | _ => false
def agC (s : St0) (c : Sc) : O → List Expr → Bool
  | .none, e => match e with
    | [] => true
    | _ => false
  | .some a, e => match e with
    | [e] => notIfe a && agE s c false a e
    | _ => false
def agI (s : St0) (c : Sc) : I → Expr → Expr → Bool
  | .rng1 a, tg, e => match e with
    | .Call (.Name x _) [y] [] _ => decide (x = "range") && (freeB s c "range" && (nst y && agE s c false a y))
    | _ => false
  | .rng2 a b, tg, e => match e with
    | .Call (.Name x _) [y, z] [] _ => decide (x = "range") && (freeB s c "range" && (nst y && (nst z && (agE s c false a y && agE s c false b z))))
    | _ => false
  | .seq a, tg, e => agE s c false a e
  | .dks i, tg, e => match e with
    | .Name y _ => slotB c i y
    | _ => false
  | .enum a, tg, e => match tg, e with
    | .Tuple _ _ _, .Call (.Name x _) [y] [] _ => decide (x = "enumerate") && (freeB s c "enumerate" && (nst y && agE s c false a y))
    | _, _ => false
  | .zip a b, tg, e => match tg, e with
    | .Tuple _ _ _, .Call (.Name x _) [y, z] [] _ => decide (x = "zip") && (freeB s c "zip" && (nst y && (nst z && (agE s c false a y && agE s c false b z))))
    | _, _ => false
end
end M

set_option Elab.async false
set_option linter.all false
set_option maxRecDepth 100000
set_option maxHeartbeats 4000000
namespace M
open PySem PySem.Spec L2
open PyProof.Rows hiding St
/-- what is known of the classes where one asks of which an exception is -/
structure KindOk (s : St0) (K : PySem.W.Frag) (mg : Str → Option Value) (cl : Nat → Value) : Prop where
  sup : ∀ x, s.sup = some x → ∃ S, mg x = some (.ref S) ∧ ∀ p ∈ s.exs, PySem.W.exmOne K (cl p.1) (.ref S) = some true
  knd : ∀ x, s.sup = some x → ∀ p ∈ s.exs, ∃ C, cl p.1 = .ref C ∧ ExcC K C ∧ (∀ q ∈ s.exs, PySem.W.kitOne K (.ref C) (cl q.1) = some (decide (p.1 = q.1))) ∧ PySem.W.kitOne K (.ref C) (.type "ValueError") = some true
structure Ctx (s : St0) (Φ : Nat → List D → R D) (kk : Nat) (cl : Nat → Value) (X : Cx) (c : Sc) : Prop where
  N : X.N = c.N
  nd : c.N.Nodup
  sc : X.env.scope = c.sc
  fn : X.fn = c.fn
  cm : X.calm = c.calm
  rm : c.calm = true → Room kk X.A
  fr : ∀ x, s.fr.contains x = true → X.mg x = none
  cs : ∀ p ∈ s.cs, ∃ v u, X.mg p.1 = some u ∧ RelV v u ∧ ∀ G, Rp G v p.2
  fs : ∀ p ∈ s.fns, ∃ fa fd ps, X.mg p.2 = some (.ref fa) ∧ PySem.W.keepIn X.K (.ref fa) = true ∧ Binds X.K fd ps [] ∧ FnOk X.prog X.w X.K X.mg X.base (L2.CX X.prog X.w) kk fa fd ps (spF cl (Φ p.1))
  ex : ∀ p ∈ s.exs, ∃ C, cl p.1 = .ref C ∧ X.mg p.2 = some (.ref C) ∧ PySem.W.excIn X.K C He.veBase "ValueError.__new__" = true ∧ PySem.W.keepIn X.K (.ref C) = true ∧ PySem.W.subIn X.K (.ref C) (.type "BaseException") = some true ∧ PySem.W.typeIn X.K (.ref C) = some (.type "type")
  exm : ∀ p ∈ s.exs, ∀ q ∈ s.exs, PySem.W.exmOne X.K (cl p.1) (cl q.1) = some (decide (p.1 = q.1))
  kd : KindOk s X.K X.mg cl
section
variable {s : St0} {Φ : Nat → List D → R D} {kk : Nat} {cl : Nat → Value} {X : Cx} {c : Sc}
theorem Ctx.blk (C : Ctx s Φ kk cl X c) (s' : Shared) (H : Hp) (scope : Scope) (cl' : List (Str × Addr)) (a : Addr) (fp : List Addr) : Ctx s Φ kk cl (X.blk s' H scope (compEnvC scope cl' a X.env) fp) (c.blk scope) :=
  ⟨C.N, C.nd, by show relS scope X.env.scope = relS scope c.sc; rw [C.sc], rfl, C.cm, C.rm, C.fr, C.cs, C.fs, C.ex, C.exm, C.kd⟩
theorem Ctx.tr (C : Ctx s Φ kk cl X c) (pn : List (Addr × Obj)) (xe : Value → Shared → Prop) : Ctx s Φ kk cl (X.tr pn xe) c :=
  ⟨C.N, C.nd, C.sc, C.fn, C.cm, C.rm, C.fr, C.cs, C.fs, C.ex, C.exm, C.kd⟩
theorem Ctx.suite (C : Ctx s Φ kk cl X c) (a : Addr) (pn : List (Addr × Obj)) : Ctx s Φ kk cl (X.suite a pn) { c with calm := false } :=
  ⟨C.N, C.nd, C.sc, C.fn, rfl, fun h => (by cases h), C.fr, C.cs, C.fs, C.ex, C.exm, C.kd⟩
theorem cstEq_ok {a b : D} (h : cstEq a b = true) : a = b := by
  cases a <;> cases b <;> first | (cases h; done) | (rw [of_decide_eq_true h])
theorem an {a b : Bool} (h : (a && b) = true) : a = true ∧ b = true := Bool.and_eq_true_iff.mp h
theorem nameOk_ok {x : Str} (h : nameOk x = true) : (x == ("__debug__" : Str)) = false ∧ (x == ("__classdict__" : Str)) = false := by
  obtain ⟨h1, h2⟩ := an h
  simp only [Bool.not_eq_true'] at h1 h2
  exact ⟨h1, h2⟩
theorem Ctx.slot (C : Ctx s Φ kk cl X c) {i : Nat} {x : Str} {pos : Pos} (h : slotB c i x = true) : PE X (.Name x pos) (tVar i) := by
  obtain ⟨h1, h3⟩ := an h
  obtain ⟨h1, h2⟩ := an h1
  obtain ⟨n1, n2⟩ := nameOk_ok h3
  refine pe_var (by rw [C.N]; exact of_decide_eq_true h1) ?_ n1 n2
  unfold visB at h2
  unfold Vis
  rw [C.sc]
  split at h2
  · exact .inl (by assumption)
  · exact .inr (.inl (by assumption))
  · exact .inr (.inr (by assumption))
  · cases h2
theorem Ctx.gl (C : Ctx s Φ kk cl X c) {x : Str} (h : globB c x = true) : Gl X x ∧ (x == ("__debug__" : Str)) = false := by
  obtain ⟨h1, h2⟩ := an h
  refine ⟨?_, (nameOk_ok h2).1⟩
  show X.env.scope.names.lookup x = some .globalImplicit
  rw [C.sc]; exact of_decide_eq_true h1
theorem Ctx.free (C : Ctx s Φ kk cl X c) {x : Str} (h : freeB s c x = true) : Gl X x ∧ X.mg x = none := by
  obtain ⟨h1, h2⟩ := an h
  exact ⟨(C.gl h2).1, C.fr x h1⟩
theorem Ctx.name (C : Ctx s Φ kk cl X c) {i : Nat} {x : Str} {pos : Pos} (h : storeB c i x = true) : PG X (.Name x pos) (gName i) := by
  obtain ⟨h1, h2⟩ := an h
  have hi : X.N[i]? = some x := by rw [C.N]; exact of_decide_eq_true h1
  have nd : X.N.Nodup := by rw [C.N]; exact C.nd
  rcases (Bool.or_eq_true _ _).mp h2 with h2 | h2
  · have hl : X.env.scope.names.lookup x = some .local := by rw [C.sc]; exact of_decide_eq_true h2
    exact pg_name nd hi (.inl hl) (.inr hl)
  · obtain ⟨h2, h3⟩ := an h2
    have hl : X.env.scope.names.lookup x = some .cell := by rw [C.sc]; exact of_decide_eq_true h2
    exact pg_name nd hi (.inr hl) (.inl (by rw [C.fn]; exact h3))
theorem agT_nst {t : Tg} {e : Expr} (h : agT c t e = true) : nstT e = true := by
  cases e <;> first | rfl | skip
  cases t <;> (unfold agT at h; cases h)
theorem soundG (C : Ctx s Φ kk cl X c) : ∀ (t : Tg) (e : Expr), agT c t e = true → PG X e (tG t)
  | .name i, e, h => by
    unfold agT at h
    split at h
    · exact g_name (C.name h)
    · cases h
  | .t2 a b, e, h => by
    unfold agT at h
    split at h
    · obtain ⟨hc, h⟩ := an h
      obtain ⟨h1, h2⟩ := an h
      exact g_t2 (by rw [C.cm]; exact hc) (agT_nst h1) (agT_nst h2) (soundG C a _ h1) (soundG C b _ h2)
    · cases h
  | .t3 a b d, e, h => by
    unfold agT at h
    split at h
    · obtain ⟨hc, h⟩ := an h
      obtain ⟨h1, h2⟩ := an h
      obtain ⟨h2, h3⟩ := an h2
      exact g_t3 (by rw [C.cm]; exact hc) (agT_nst h1) (agT_nst h2) (agT_nst h3) (soundG C a _ h1) (soundG C b _ h2) (soundG C d _ h3)
    · cases h
  | .t4 a b d k, e, h => by
    unfold agT at h
    split at h
    · obtain ⟨hc, h⟩ := an h
      obtain ⟨h1, h2⟩ := an h
      obtain ⟨h2, h3⟩ := an h2
      obtain ⟨h3, h4⟩ := an h3
      exact g_t4 (by rw [C.cm]; exact hc) (agT_nst h1) (agT_nst h2) (agT_nst h3) (agT_nst h4) (soundG C a _ h1) (soundG C b _ h2) (soundG C d _ h3) (soundG C k _ h4)
    · cases h
end
/-- what is shown of an expression -/
structure Snd (X : Cx) (W : WX) (cl : Nat → Value) (m : E) (e : Expr) (f : Env → R D) : Prop where
  pe : PE X e (tE W cl f)
  pt : notIfe m = true → PT X e (tTt W cl fun env => do let x ← f env; truth x)
  pw : (isAnd m || isOr m) = true → PW X e (tTt W cl fun env => do let x ← f env; truth x)
theorem Snd.of {X : Cx} {W : WX} {cl : Nat → Value} {m : E} {e : Expr} {f : Env → R D} (h : PE X e (tE W cl f)) (hp : plt e = true) (hm : (isAnd m || isOr m) = false) : Snd X W cl m e f :=
  ⟨h, fun _ => q_plain hp (PE.q h), fun z => by rw [hm] at z; cases z⟩
theorem Snd.of2 {X : Cx} {W : WX} {cl : Nat → Value} {m : E} {e : Expr} {f : Env → R D} (h : PE X e (tE W cl f)) (ht : PT X e (tTt W cl fun env => do let x ← f env; truth x)) (hm : (isAnd m || isOr m) = false) : Snd X W cl m e f :=
  ⟨h, fun _ => ht, fun z => by rw [hm] at z; cases z⟩
section
variable {s : St0} {Φ : Nat → List D → R D} {kk : Nat} {cl : Nat → Value}
theorem agE_q {c : Sc} {m : E} {e : Expr} (h : agE s c true m e = true) (hm : ∀ i, m ≠ .ow i) : agE s c false m e = true := by
  cases m <;> first | exact h | exact absurd rfl (hm _)
theorem toQ {X : Cx} {c : Sc} {W : WX} (C : Ctx s Φ kk cl X c) (m : E) (hE : ∀ e, agE s c false m e = true → Snd X W cl m e (evE Φ m)) : ∀ e, agE s c true m e = true → PE X e (tX rhQ W cl (evE Φ m)) := by
  intro e h
  by_cases hm : ∃ i, m = .ow i
  · obtain ⟨i, rfl⟩ := hm
    unfold agE at h
    split at h
    · exact p_ow (C.slot (an h).2)
    · cases h
  · exact PE.q (hE e (agE_q h fun i z => hm ⟨i, z⟩)).pe
theorem hu_ok {X : Cx} {c : Sc} (C : Ctx s Φ kk cl X c) (h : c.calm = true) : X.A.units + 65 < cLine := by have := (C.rm h).un; omega
mutual
theorem soundE : ∀ (m : E) (X : Cx) (c : Sc) (W : WX) (C : Ctx s Φ kk cl X c) (tk : Takes X W) (e : Expr), agE s c false m e = true → Snd X W cl m e (evE Φ m)
  | .var i, X, c, W, C, tk, e, h => by
    unfold agE at h
    split at h
    · exact .of (p_var (C.slot h)) rfl rfl
    · cases h
  | .ow i, X, c, W, C, tk, e, h => by
    unfold agE at h
    split at h <;> cases h
  | .non, X, c, W, C, tk, e, h => by
    unfold agE at h
    split at h
    · exact .of (p_const pe_non fun _ => .non) rfl rfl
    · cases h
  | .bl b, X, c, W, C, tk, e, h => by
    unfold agE at h
    split at h
    · cases eq_of_beq h
      exact .of (p_const pe_bl fun _ => .bl b) rfl rfl
    · cases h
  | .int i, X, c, W, C, tk, e, h => by
    unfold agE at h
    split at h
    · cases of_decide_eq_true h
      exact .of (p_const pe_int fun _ => .int i) rfl rfl
    · cases h
  | .str x, X, c, W, C, tk, e, h => by
    unfold agE at h
    split at h
    · cases of_decide_eq_true h
      exact .of (p_const pe_str fun _ => .str x) rfl rfl
    · cases h
  | .cst x d, X, c, W, C, tk, e, h => by
    unfold agE at h
    split at h
    · obtain ⟨h1, h⟩ := an h
      obtain ⟨h2, h3⟩ := an h
      cases of_decide_eq_true h1
      obtain ⟨p, hp, h4⟩ := List.any_eq_true.mp h3
      obtain ⟨h4, h5⟩ := an h4
      obtain ⟨v, u, m1, m2, m3⟩ := C.cs p hp
      rw [of_decide_eq_true h4] at m1
      have ed : p.2 = d := cstEq_ok h5
      rw [ed] at m3
      exact .of (p_const (pe_glob (C.gl h2).1 m1 m2 (C.gl h2).2) m3) rfl rfl
    · cases h
  | .bin o a b, X, c, W, C, tk, e, h => by
    unfold agE at h
    split at h
    · obtain ⟨h1, h⟩ := an h
      obtain ⟨h2, h3⟩ := an h
      cases of_decide_eq_true h1
      exact .of (p_bin (toQ C a (soundE a X c W C tk) _ h2) (toQ C b (soundE b X c W C tk) _ h3)) rfl rfl
    · cases h
  | .neg a, X, c, W, C, tk, e, h => by
    unfold agE at h
    split at h
    · exact .of (p_neg (toQ C a (soundE a X c W C tk) _ h)) rfl rfl
    · cases h
  | .not a, X, c, W, C, tk, e, h => by
    unfold agE at h
    split at h
    · obtain ⟨h1, h2⟩ := an h
      have ia := soundE a X c W C tk _ h2
      exact .of2 (p_not (PE.q ia.pe)) (q_not (ia.pt h1)) rfl
    · cases h
  | .and a r, X, c, W, C, tk, e, h => by
    unfold agE at h
    split at h
    · obtain ⟨h1, h⟩ := an h
      obtain ⟨h2, h⟩ := an h
      obtain ⟨h3, h4⟩ := an h
      have ia := soundE a X c W C tk _ h3
      have ir := soundE r X c W C tk _ h4
      have pw := w_and (ia.pt h1) (ir.pw (by rw [h2]; rfl))
      exact ⟨p_and ia.pe ir.pe, fun _ => pw.pt, fun _ => pw⟩
    · cases h
  | .or a r, X, c, W, C, tk, e, h => by
    unfold agE at h
    split at h
    · obtain ⟨h1, h⟩ := an h
      obtain ⟨h2, h⟩ := an h
      obtain ⟨h3, h4⟩ := an h
      have ia := soundE a X c W C tk _ h3
      have ir := soundE r X c W C tk _ h4
      have pw := w_or (ia.pt h1) (ir.pw (by rw [h2, Bool.or_true]))
      exact ⟨p_or ia.pe ir.pe, fun _ => pw.pt, fun _ => pw⟩
    · cases h
  | .one a, X, c, W, C, tk, e, h => by
    unfold agE at h
    split at h
    · rename_i op x pos
      obtain ⟨h1, h2⟩ := an h
      have ia := soundE a X c W C tk _ h2
      have pw : PW X (.BoolOp op [x] pos) (tTt W cl fun env => do let x ← evE Φ a env; truth x) := by
        cases op
        · exact pw_and1 (ia.pt h1)
        · exact pw_or1 (ia.pt h1)
      exact ⟨pe_one ia.pe, fun _ => pw.pt, fun _ => pw⟩
    · cases h
  | .cmp o a b, X, c, W, C, tk, e, h => by
    unfold agE at h
    split at h
    · obtain ⟨hc, h⟩ := an h
      obtain ⟨h1, h⟩ := an h
      obtain ⟨h2, h⟩ := an h
      obtain ⟨h3, h4⟩ := an h
      cases of_decide_eq_true h1
      have ia := toQ C a (soundE a X c W C tk) _ h3
      have ib := toQ C b (soundE b X c W C tk) _ h4
      exact .of2 (p_cmp (hu_ok C hc) h2 ia ib) (q_cmp (hu_ok C hc) h2 ia ib) rfl
    · cases h
  | .chain o1 o2 a b d, X, c, W, C, tk, e, h => by
    unfold agE at h
    split at h
    · obtain ⟨hc, h⟩ := an h
      obtain ⟨h1, h⟩ := an h
      obtain ⟨h1', h⟩ := an h
      obtain ⟨h2, h⟩ := an h
      obtain ⟨h3, h⟩ := an h
      obtain ⟨h4, h5⟩ := an h
      cases of_decide_eq_true h1
      cases of_decide_eq_true h1'
      have ia := toQ C a (soundE a X c W C tk) _ h3
      have ib := toQ C b (soundE b X c W C tk) _ h4
      have id := toQ C d (soundE d X c W C tk) _ h5
      exact .of2 (p_chain (hu_ok C hc) h2 ia ib id) (q_chain (hu_ok C hc) h2 ia ib id) rfl
    · cases h
  | .isn a neg, X, c, W, C, tk, e, h => by
    unfold agE at h
    split at h
    · obtain ⟨h1, h2⟩ := an h
      cases of_decide_eq_true h1
      have ia := toQ C a (soundE a X c W C tk) _ h2
      exact .of2 (p_isn ia) (q_isn ia) rfl
    · cases h
  | .isb a b neg, X, c, W, C, tk, e, h => by
    unfold agE at h
    split at h
    · obtain ⟨h1, h⟩ := an h
      obtain ⟨h2, h3⟩ := an h
      cases of_decide_eq_true h1
      cases eq_of_beq h2
      have ia := toQ C a (soundE a X c W C tk) _ h3
      exact .of2 (p_isb ia) (q_isb ia) rfl
    · cases h
  | .ife k a b, X, c, W, C, tk, e, h => by
    unfold agE at h
    split at h
    · obtain ⟨h1, h⟩ := an h
      obtain ⟨h2, h⟩ := an h
      obtain ⟨h3, h4⟩ := an h
      exact ⟨p_ife ((soundE k X c W C tk _ h2).pt h1) (soundE a X c W C tk _ h3).pe (soundE b X c W C tk _ h4).pe, fun z => (by cases z), fun z => (by cases z)⟩
    · cases h
  | .tup es, X, c, W, C, tk, e, h => by
    unfold agE at h
    split at h
    · exact .of (p_tup (soundEs es X c W C tk _ h)) rfl rfl
    · cases h
  | .lst es, X, c, W, C, tk, e, h => by
    unfold agE at h
    split at h
    · exact .of (p_lst (soundEs es X c W C tk _ h)) rfl rfl
    · cases h
  | .idx a i, X, c, W, C, tk, e, h => by
    unfold agE at h
    split at h
    · obtain ⟨h1, h⟩ := an h
      obtain ⟨h2, h3⟩ := an h
      exact .of (p_idx h1 (toQ C a (soundE a X c W C tk) _ h2) (toQ C i (soundE i X c W C tk) _ h3)) rfl rfl
    · cases h
  | .sl a lo hi, X, c, W, C, tk, e, h => by
    unfold agE at h
    split at h
    · obtain ⟨h1, h⟩ := an h
      obtain ⟨h2, h3⟩ := an h
      exact .of (p_sl (toQ C a (soundE a X c W C tk) _ h1) (soundO lo X c W C tk _ h2) (soundO hi X c W C tk _ h3)) rfl rfl
    · cases h
  | .rev a, X, c, W, C, tk, e, h => by
    unfold agE at h
    split at h
    · obtain ⟨h1, h2⟩ := an h
      cases of_decide_eq_true h1
      exact .of (p_revL (toQ C a (soundE a X c W C tk) _ h2)) rfl rfl
    · cases h
  | .call f es, X, c, W, C, tk, e, h => by
    unfold agE at h
    split at h
    · rename_i x p args pos
      obtain ⟨hc, h⟩ := an h
      obtain ⟨h1, h⟩ := an h
      obtain ⟨h2, h⟩ := an h
      obtain ⟨h3, h4⟩ := an h
      obtain ⟨q, hq, h5⟩ := List.any_eq_true.mp h2
      obtain ⟨h5, h6⟩ := an h5
      obtain ⟨fa, fd, ps, m1, m2, m3, m4⟩ := C.fs q hq
      rw [of_decide_eq_true h6] at m1
      rw [of_decide_eq_true h5] at m4
      cases args with
      | nil =>
        cases es with
        | nil => exact .of (p_call0 m4 (C.rm hc) (C.gl h1).1 m1 m2 m3 tk (C.gl h1).2) rfl rfl
        | cons _ _ => unfold agEs at h4; cases h4
      | cons y args => exact .of (p_call m4 (C.rm hc) (C.gl h1).1 m1 m2 m3 tk h3 (C.gl h1).2 (soundEs es X c W C tk _ h4)) rfl rfl
    · cases h
  | .bi b es, X, c, W, C, tk, e, h => by
    unfold agE at h
    split at h
    · obtain ⟨hc, h⟩ := an h
      obtain ⟨h1, h⟩ := an h
      obtain ⟨h2, h⟩ := an h
      obtain ⟨h3, h4⟩ := an h
      cases of_decide_eq_true h1
      exact .of (p_bi b (by rw [C.cm]; exact hc) (C.free h2).1 (C.free h2).2 h3 (soundEsQ es X c W C tk _ h4)) rfl rfl
    · cases h
  | .isi a t, X, c, W, C, tk, e, h => by
    unfold agE at h
    split at h
    · obtain ⟨h1, h⟩ := an h
      obtain ⟨h2, h⟩ := an h
      obtain ⟨h3, h⟩ := an h
      obtain ⟨h4, h⟩ := an h
      obtain ⟨h5, h6⟩ := an h
      cases of_decide_eq_true h1
      cases of_decide_eq_true h2
      exact .of (p_isi t (C.free h3).1 (C.free h3).2 (C.free h4).1 (C.free h4).2 h5 (toQ C a (soundE a X c W C tk) _ h6)) rfl rfl
    · cases h
  | .mt m a es, X, c, W, C, tk, e, h => by
    unfold agE at h
    split at h
    · obtain ⟨h1, h⟩ := an h
      obtain ⟨h2, h⟩ := an h
      obtain ⟨h3, h⟩ := an h
      obtain ⟨h4, h⟩ := an h
      obtain ⟨h5, h⟩ := an h
      obtain ⟨h6, h7⟩ := an h
      cases of_decide_eq_true h1
      have qa := toQ C a (soundE a X c W C tk) _ h6
      have qb := soundEsQ es X c W C tk _ h7
      by_cases hm1 : m = .lcount
      · subst hm1; exact .of (p_mtL _ (.inl rfl) (hu_ok C h2) h3 h4 h5 qa qb) rfl rfl
      · by_cases hm2 : m = .lindex
        · subst hm2; exact .of (p_mtL _ (.inr rfl) (hu_ok C h2) h3 h4 h5 qa qb) rfl rfl
        · exact .of (p_mt m hm1 hm2 h3 h4 h5 qa qb) rfl rfl
    · cases h
  | .comp x t it k, X, c, W, C, tk, e, h => by
    unfold agE at h
    split at h
    · obtain ⟨hc, h⟩ := an h
      obtain ⟨h1, h⟩ := an h
      obtain ⟨h2, h⟩ := an h
      obtain ⟨h3, h⟩ := an h
      obtain ⟨h4, h⟩ := an h
      obtain ⟨h5, h6⟩ := an h
      have ew : (t.own c.N).map (·.2) = t.slots := by unfold Tg.own; rw [List.map_map]; exact List.map_id _
      refine .of (PE.mono (pe_lc (own := t.own c.N) (g := tG t) (tt := tTt W0 cl (evC Φ k)) (te := tE W0 cl (evE Φ x)) (by rw [C.cm]; exact hc) (by rw [C.N]; exact C.nd) (soundI it X c W C tk _ _ h4) (by rw [C.N, C.sc]; exact blkOk_by h1)
        (fun s' H a cl' fp => soundG (C.blk s' H _ cl' a fp) t _ h3) (fun s' H a cl' fp => soundC k _ _ W0 (C.blk s' H _ cl' a fp) takes0 _ h5) (fun s' H a cl' fp => (soundE x _ _ W0 (C.blk s' H _ cl' a fp) takes0 _ h6).pe) (plset_it h2 X.env)) fun σ H Q h => ?_) rfl rfl
      rw [ew]
      exact t_comp h
    · cases h
  | .trng a, X, c, W, C, tk, e, h => by
    unfold agE at h
    split at h
    · obtain ⟨hc, h⟩ := an h
      obtain ⟨h1, h⟩ := an h
      obtain ⟨h2, h⟩ := an h
      obtain ⟨h3, h⟩ := an h
      obtain ⟨h4, h⟩ := an h
      obtain ⟨h5, h6⟩ := an h
      cases of_decide_eq_true h1
      cases of_decide_eq_true h2
      exact .of (p_trng (by rw [C.cm]; exact hc) (C.free h3).1 (C.free h3).2 (C.free h4).1 (C.free h4).2 h5 (soundE a X c W C tk _ h6).pe) rfl rfl
    · cases h
  | .sset a, X, c, W, C, tk, e, h => by
    unfold agE at h
    split at h
    · obtain ⟨hc, h⟩ := an h
      obtain ⟨h1, h⟩ := an h
      obtain ⟨h2, h⟩ := an h
      obtain ⟨h3, h⟩ := an h
      obtain ⟨h4, h⟩ := an h
      obtain ⟨h5, h6⟩ := an h
      cases of_decide_eq_true h1
      cases of_decide_eq_true h2
      exact .of (p_sset (by rw [C.cm]; exact hc) (hu_ok C hc) (C.free h3).1 (C.free h3).2 (C.free h4).1 (C.free h4).2 h5 (toQ C a (soundE a X c W C tk) _ h6)) rfl rfl
    · cases h
  | .lockd i a, X, c, W, C, tk, e, h => by
    unfold agE at h
    exact ⟨p_lockd (soundE a X c W C tk _ h).pe, fun z => (by cases z), fun z => (by cases z)⟩
  | .dctget a k d, X, c, W, C, tk, e, h => by
    unfold agE at h
    split at h
    · obtain ⟨hc, h⟩ := an h
      obtain ⟨h1, h⟩ := an h
      obtain ⟨h2, h⟩ := an h
      obtain ⟨h3, h⟩ := an h
      obtain ⟨h4, h⟩ := an h
      obtain ⟨h5, h⟩ := an h
      obtain ⟨h6, h⟩ := an h
      obtain ⟨h7, h⟩ := an h
      obtain ⟨h8, h⟩ := an h
      obtain ⟨h9, h10⟩ := an h
      cases of_decide_eq_true h1
      cases of_decide_eq_true h2
      have hu : X.A.units + 1 < cLine := by have := hu_ok C hc; omega
      exact .of (p_dctget (by rw [C.cm]; exact hc) hu (C.free h3).1 (C.free h3).2 h4 h5 h6 h7 (toQ C a (soundE a X c W C tk) _ h8) (soundE k X c W C tk _ h9).pe (soundE d X c W C tk _ h10).pe) rfl rfl
    · cases h
  | .dhas i k neg, X, c, W, C, tk, e, h => by
    unfold agE at h
    split at h
    · obtain ⟨hc, h⟩ := an h
      obtain ⟨h1, h⟩ := an h
      obtain ⟨h2, h3⟩ := an h
      cases of_decide_eq_true h1
      have hu : X.A.units + 1 < cLine := by have := hu_ok C hc; omega
      have pk := (soundE k X c W C tk _ h3).pe
      exact .of2 (p_dhas hu (C.slot h2) rfl pk) (q_dhas hu (C.slot h2) rfl pk) rfl
    · cases h
  | .didx i k, X, c, W, C, tk, e, h => by
    unfold agE at h
    split at h
    · obtain ⟨hc, h⟩ := an h
      obtain ⟨h1, h⟩ := an h
      obtain ⟨h2, h3⟩ := an h
      have hu : X.A.units + 1 < cLine := by have := hu_ok C hc; omega
      exact .of (p_didx hu (C.slot h2) (plix_ok h1) (soundE k X c W C tk _ h3).pe) rfl rfl
    · cases h
  | .dget i k d, X, c, W, C, tk, e, h => by
    unfold agE at h
    split at h
    · obtain ⟨hc, h⟩ := an h
      obtain ⟨h1, h⟩ := an h
      obtain ⟨h2, h⟩ := an h
      obtain ⟨h3, h⟩ := an h
      obtain ⟨h4, h⟩ := an h
      obtain ⟨h5, h⟩ := an h
      obtain ⟨h6, h7⟩ := an h
      cases of_decide_eq_true h1
      have hu : X.A.units + 1 < cLine := by have := hu_ok C hc; omega
      exact .of (p_dget hu (C.slot h5) rfl h2 h3 h4 (soundE k X c W C tk _ h6).pe (soundE d X c W C tk _ h7).pe) rfl rfl
    · cases h
  | .dsorted i, X, c, W, C, tk, e, h => by
    unfold agE at h
    split at h
    · obtain ⟨hc, h⟩ := an h
      obtain ⟨h1, h⟩ := an h
      obtain ⟨h2, h3⟩ := an h
      cases of_decide_eq_true h1
      exact .of (p_dsorted (by rw [C.cm]; exact hc) (C.free h2).1 (C.free h2).2 rfl (C.slot h3)) rfl rfl
    · cases h
  | .dlit k1 v1 k2 v2 a, X, c, W, C, tk, e, h => by
    unfold agE at h
    split at h
    · obtain ⟨hc, h⟩ := an h
      obtain ⟨h1, h⟩ := an h
      obtain ⟨h2, h⟩ := an h
      obtain ⟨h3, h⟩ := an h
      obtain ⟨h4, h⟩ := an h
      obtain ⟨h5, h⟩ := an h
      obtain ⟨h6, h7⟩ := an h
      cases of_decide_eq_true h1
      cases of_decide_eq_true h2
      cases of_decide_eq_true h3
      cases of_decide_eq_true h4
      have hu : X.A.units + 1 < cLine := by have := hu_ok C hc; omega
      exact .of (p_dlit hu (by simpa using h5) (plix_ok h6) (soundE a X c W C tk _ h7).pe) rfl rfl
    · cases h
  | .bad, X, c, W, C, tk, e, h => by unfold agE at h; cases h
theorem soundEs : ∀ (m : Es) (X : Cx) (c : Sc) (W : WX) (C : Ctx s Φ kk cl X c) (tk : Takes X W) (es : List Expr), agEs s c false m es = true → PA X es (tAs W cl (evEs Φ m))
  | .nil, X, c, W, C, tk, es, h => by
    unfold agEs at h
    split at h
    · exact a_nil
    · cases h
  | .cons a r, X, c, W, C, tk, es, h => by
    unfold agEs at h
    split at h
    · obtain ⟨h1, h⟩ := an h
      obtain ⟨h2, h3⟩ := an h
      exact a_cons h1 (soundE a X c W C tk _ h2).pe (soundEs r X c W C tk _ h3)
    · cases h
theorem soundEsQ : ∀ (m : Es) (X : Cx) (c : Sc) (W : WX) (C : Ctx s Φ kk cl X c) (tk : Takes X W) (es : List Expr), agEs s c true m es = true → PA X es (tX rhQL W cl (evEs Φ m))
  | .nil, X, c, W, C, tk, es, h => by
    unfold agEs at h
    split at h
    · exact aq_nil
    · cases h
  | .cons a r, X, c, W, C, tk, es, h => by
    unfold agEs at h
    split at h
    · obtain ⟨h1, h⟩ := an h
      obtain ⟨h2, h3⟩ := an h
      exact aq_cons h1 (toQ C a (soundE a X c W C tk) _ h2) (soundEsQ r X c W C tk _ h3)
    · cases h
theorem soundO : ∀ (m : O) (X : Cx) (c : Sc) (W : WX) (C : Ctx s Φ kk cl X c) (tk : Takes X W) (e : Option Expr), agO s c m e = true → PO X e (tX rhO W cl (evO Φ m))
  | .none, X, c, W, C, tk, e, h => by
    unfold agO at h
    split at h
    · exact s_none
    · cases h
  | .some a, X, c, W, C, tk, e, h => by
    unfold agO at h
    split at h
    · exact s_some (toQ C a (soundE a X c W C tk) _ h)
    · cases h
theorem soundC : ∀ (m : O) (X : Cx) (c : Sc) (W : WX) (C : Ctx s Φ kk cl X c) (tk : Takes X W) (e : List Expr), agC s c m e = true → PTs X e (tTt W cl (evC Φ m))
  | .none, X, c, W, C, tk, e, h => by
    unfold agC at h
    split at h
    · exact c_none
    · cases h
  | .some a, X, c, W, C, tk, e, h => by
    unfold agC at h
    split at h
    · obtain ⟨h1, h2⟩ := an h
      exact pts_one ((soundE a X c W C tk _ h2).pt h1)
    · cases h
theorem soundI : ∀ (m : I) (X : Cx) (c : Sc) (W : WX) (C : Ctx s Φ kk cl X c) (tk : Takes X W) (tg e : Expr), agI s c m tg e = true → PI X tg e (tIt W cl (evI Φ m))
  | .rng1 a, X, c, W, C, tk, tg, e, h => by
    unfold agI at h
    split at h
    · obtain ⟨h1, h⟩ := an h
      obtain ⟨h2, h⟩ := an h
      obtain ⟨h3, h4⟩ := an h
      cases of_decide_eq_true h1
      exact i_rng1 (C.free h2).1 (C.free h2).2 h3 (soundE a X c W C tk _ h4).pe
    · cases h
  | .rng2 a b, X, c, W, C, tk, tg, e, h => by
    unfold agI at h
    split at h
    · obtain ⟨h1, h⟩ := an h
      obtain ⟨h2, h⟩ := an h
      obtain ⟨h3, h⟩ := an h
      obtain ⟨h4, h⟩ := an h
      obtain ⟨h5, h6⟩ := an h
      cases of_decide_eq_true h1
      exact i_rng2 (C.free h2).1 (C.free h2).2 h3 h4 (soundE a X c W C tk _ h5).pe (soundE b X c W C tk _ h6).pe
    · cases h
  | .seq a, X, c, W, C, tk, tg, e, h => by
    unfold agI at h
    exact i_seq (soundE a X c W C tk _ h).pe
  | .dks i, X, c, W, C, tk, tg, e, h => by
    unfold agI at h
    split at h
    · exact i_dks (C.slot h)
    · cases h
  | .enum a, X, c, W, C, tk, tg, e, h => by
    unfold agI at h
    split at h
    · obtain ⟨h1, h⟩ := an h
      obtain ⟨h2, h⟩ := an h
      obtain ⟨h3, h4⟩ := an h
      cases of_decide_eq_true h1
      exact i_enum (C.free h2).1 (C.free h2).2 h3 (soundE a X c W C tk _ h4).pe
    · cases h
  | .zip a b, X, c, W, C, tk, tg, e, h => by
    unfold agI at h
    split at h
    · obtain ⟨h1, h⟩ := an h
      obtain ⟨h2, h⟩ := an h
      obtain ⟨h3, h⟩ := an h
      obtain ⟨h4, h⟩ := an h
      obtain ⟨h5, h6⟩ := an h
      cases of_decide_eq_true h1
      exact i_zip (C.free h2).1 (C.free h2).2 h3 h4 (soundE a X c W C tk _ h5).pe (soundE b X c W C tk _ h6).pe
    · cases h
end
end
end M

set_option Elab.async false
set_option linter.all false
set_option maxRecDepth 100000
set_option maxHeartbeats 4000000
namespace M
open PySem PySem.Spec L2
open PyProof.Rows hiding St
/-! ### statements agree -/
def swB (c : Sc) (y : Str) (py : Pos) (v : Expr) : Bool := match v with
  | .ListComp _ _ scope pos => decide (c.sc.names.lookup y = some .local) && ((py.line == pos.line) && !(scope.names.any fun (n, k) => n == y && (k == .local || k == .cell)))
  | _ => false
def agAsg (s : St0) (c : Sc) (t : Tg) (e : E) (tg v : Expr) : Bool :=
  if swpl tg v then (plstore tg v || cellB c.sc tg v) && (agT c t tg && agE s c false e v)
  else match t, tg with
    | .name i, .Name y py => storeB c i y && (notIfe e && (agE s c false e v && (decide (c.sc.names.lookup y = some .cell) || swB c y py v)))
    | _, _ => false
/-- isinstance(e, C), e at slot j -/
def isB (s : St0) (c : Sc) (n : Str) (j q : Nat) : Expr → Bool
  | .Call (.Name f _) [.Name y _, .Name z _] [] _ => decide (f = "isinstance") && (freeB s c "isinstance" && (decide (y = n) && (slotB c j y && (if q = 100 then decide (z = "ValueError") && freeB s c "ValueError" else globB c z && s.exs.any fun p => decide (p.1 = q) && decide (p.2 = z)))))
  | _ => false
def isBs (s : St0) (c : Sc) (n : Str) (j : Nat) : List Nat → List Expr → Bool
  | [], [] => true
  | q :: qs, e :: es => isB s c n j q e && isBs s c n j qs es
  | _, _ => false
mutual
def agS (s : St0) (c : Sc) : S → List Stmt → Bool
  | .nil, sts => match sts with
    | [] => true
    | _ => false
  | .asg t e r, sts => match sts with
    | .Assign [tg] v _ :: rest => agAsg s c t e tg v && agS s c r rest
    | _ => false
  | .new i e r, sts => match e, sts with
    | .lst ms, .Assign [.Name x _] (.List es _) _ :: rest => storeB c i x && (agEs s c false ms es && agS s c r rest)
    | .comp x t it k, .Assign [.Name y py] (.ListComp elt gs scope lpos) _ :: rest => decide (c.N[i]? = some y) && (swB c y py (.ListComp elt gs scope lpos) && (agE s c false (.comp x t it k) (.ListComp elt gs scope lpos) && agS s c r rest))
    | .bin .Add a b, .Assign [.Name x _] (.BinOp y .Add z _) _ :: rest => storeB c i x && (agE s c true a y && (agE s c true b z && agS s c r rest))
    | _, _ => false
  | .par i j a b r, sts => match sts with
    | .Assign [.Tuple [.Name x px, .Name y py] _ _] (.Tuple [u, v] _ _) _ :: rest => c.calm && (decide (c.N[i]? = some x) && (decide (c.N[j]? = some y) && (!decide (i = j) && (parB c.sc x y px py u v && (agE s c false a u && (agE s c false b v && agS s c r rest))))))
    | _ => false
  | .app i e r, sts => match sts with
    | .Expr (.Call (.Attribute (.Name x _) n ap) [y] [] pos) _ :: rest => decide (n = "append") && (slotB c i x && ((ap.endLine == pos.line) && (nst y && (agE s c false e y && agS s c r rest))))
    | _ => false
  | .ext i e r, sts => match sts with
    | .Expr (.Call (.Attribute (.Name x _) n ap) [y] [] pos) _ :: rest => decide (n = "extend") && (slotB c i x && ((ap.endLine == pos.line) && (nst y && (agE s c false e y && agS s c r rest))))
    | _ => false
  | .seti i k e r, sts => match sts with
    | .Assign [.Subscript (.Name x _) ix _] v _ :: rest => slotB c i x && (plix ix && (plsw v && (agE s c false k ix && (agE s c false e v && agS s c r rest))))
    | _ => false
  | .dnew i tp r, sts => match sts with
    | .Assign [.Name x _] (.Dict [] [] _) _ :: rest => storeB c i x && agS s c r rest
    | _ => false
  | .dset i k e r, sts => match sts with
    | .Assign [.Subscript (.Name x _) ix _] v _ :: rest => c.calm && (slotB c i x && (plsw v && (agE s c false k ix && (agE s c false e v && agS s c r rest))))
    | _ => false
  | .frz _ r, sts => agS s c r sts
  | .aug i o e r, sts => match sts with
    | .AugAssign (.Name x _) o' v _ :: rest => decide (o = o') && ((decide (o = .Add) || decide (o = .Sub)) && (storeB c i x && (agE s c false e v && agS s c r rest)))
    | _ => false
  | .exp e r, sts => match sts with
    | .Expr v _ :: rest => plsw v && (agE s c false e v && agS s c r rest)
    | _ => false
  | .ret e _, sts => match sts with
    | .Return (some v) _ :: _ => agE s c false e v
    | _ => false
  | .ite k a b r, sts => match sts with
    | .If z xs ys _ :: rest => notIfe k && (agE s c false k z && (agS s c a xs && (agS s c b ys && agS s c r rest)))
    | _ => false
  | .whl k b r, sts => match sts with
    | .While z xs [] _ :: rest => notIfe k && (agE s c false k z && (agS s c b xs && agS s c r rest))
    | _ => false
  | .frl t it b r, sts => match sts with
    | .For tg iter xs [] _ :: rest => c.calm && (plset iter && (agT c t tg && (agI s c it tg iter && (agS s c b xs && agS s c r rest))))
    | _ => false
  | .tryk i j b r, sts => match sts with
    | .Try xs [.ExceptHandler (some (.Name sp _)) (some n) [.Assign [.Name y1 _] (.List l1 _) _, .Assign [.Name y2 _] (.BinOp (.Name y3 _) .Add (.List l2 _) _) _] _] [] [] _ :: rest => decide (s.sup = some sp) && (globB c sp && (decide (c.N[j]? = some n) && (decide (c.sc.names.lookup n = some .local) && (storeB c i y1 && (storeB c i y2 && (slotB c i y3 && (isBs s c n j kq1 l1 && (isBs s c n j kq2 l2 && (((List.range 6).all fun m => s.exs.any fun p => p.1 == m) && (agS s c b xs && agS s c r rest))))))))))
    | _ => false
  | .try ps b h r, sts => match sts with
    | .Try xs (h0 :: hs) [] [] _ :: rest => (ps.all fun n => s.exs.any fun p => p.1 == n) && (agS s c b xs && (agH s c h (h0 :: hs) && agS s c r rest))
    | _ => false
  | .spoil i y es x r, sts => match sts with
    | .Assign [.Name n1 _] (.List es' _) _ :: .If (.Compare (.Name k1 _) [.NotEq] [.Name n2 _] _) [.Return (some (.Constant (.bool b1) _ _)) _] [] _ ::
      .Expr (.Call (.Attribute (.Subscript (.Name n3 _) (.Constant (.int c3) _ _) _) m3 ap3) [] [] pos3) _ ::
      .Expr (.Call (.Attribute (.Subscript (.Name n4 _) (.Constant (.int c4) _ _) _) m4 ap4) [.Constant (.str x4) _ _] [] pos4) _ ::
      .Expr (.Call (.Attribute (.Subscript (.Subscript (.Name n5 _) (.Constant (.int c5) _ _) _) (.Constant (.int c6) _ _) _) m5 ap5) [.Constant (.str x5) _ _] [] pos5) _ :: rest =>
      c.calm && (storeB c i n1 && (agEs s c false es es' && (slotB c y k1 && (slotB c i n2 && (slotB c i n3 && (slotB c i n4 && (slotB c i n5 && (!b1 && ((decide (c3 = 0) && (decide (c4 = 1) && (decide (c5 = 2) && decide (c6 = 0)))) && ((decide (m3 = "clear") && (decide (m4 = "append") && decide (m5 = "append"))) &&
        (((ap3.endLine == pos3.line) && ((ap4.endLine == pos4.line) && (ap5.endLine == pos5.line))) && agS s c r rest)))))))))))
    | _ => false
  | .rse n _, sts => match sts with
    | .Raise (some (.Call (.Name x _) [.Constant (.str _) _ _] [] _)) none _ :: _ => c.calm && (globB c x && s.exs.any fun p => decide (p.1 = n) && decide (p.2 = x))
    | _ => false
  | .pass r, sts => match sts with
    | .Pass _ :: rest => agS s c r rest
    | _ => false
  | .bad, _ => true
def agH (s : St0) (c : Sc) : Hs → List ExceptHandler → Bool
  | .nil, hs => match hs with
    | [] => true
    | _ => false
  | .cons n st h, hs => match hs with
    | .ExceptHandler (some (.Name x _)) none (b0 :: body) _ :: hs => globB c x && ((s.exs.any fun p => decide (p.1 = n) && decide (p.2 = x)) && (agS s { c with calm := false } st (b0 :: body) && agH s c h hs))
    | _ => false
end
theorem sw_false {elt : Expr} {gs : List Comprehension} {scope : Scope} {pos py : Pos} {y : Str} {l : Nat} {env : PySem.Env} (hy : env.scope.names.lookup y = some .cell) : swapsWith (.ListComp elt gs scope pos) (some (.Name y py)) l env = pure false := by
  have ky : env.kindOf y = some .cell := hy
  unfold swapsWith
  simp only [ky]
  have e : ((some NameKind.cell : Option NameKind) == some .local) = false := by decide
  rw [e, Bool.and_false]
  rfl
theorem agE_comp {s : St0} {c : Sc} {e : E} {v : Expr} (hne : notIfe e = true) (hv : plsw v = false) (h : agE s c false e v = true) : ∃ x t it k y tg iter ifs scope pos, e = .comp x t it k ∧ v = .ListComp y [⟨tg, iter, ifs, 0⟩] scope pos := by
  cases v <;> first | (cases hv; done) | skip
  · cases e <;> first | (cases hne; done) | (unfold agE at h; cases h; done) | skip
    unfold agE at h
    split at h
    · rename_i heq
      cases heq
      exact ⟨_, _, _, _, _, _, _, _, _, _, rfl, rfl⟩
    · cases h
  · cases e <;> first | (cases hne; done) | (unfold agE at h; cases h)
  · cases e <;> first | (cases hne; done) | (unfold agE at h; cases h)
section
variable {s : St0} {Φ : Nat → List D → R D} {kk : Nat} {cl : Nat → Value}
theorem sound_asg {X : Cx} {c : Sc} {W : WX} (C : Ctx s Φ kk cl X c) (tk : Takes X W) (hk : X.env.scope.kind = .function) {t : Tg} {e : E} {tg v : Expr} {pos : Pos} (h : agAsg s c t e tg v = true) : PS X (.Assign [tg] v pos) (tSt W cl (mAsg t (evE Φ e))) := by
  unfold agAsg at h
  split at h
  · rename_i hsw
    obtain ⟨h1, h⟩ := an h
    obtain ⟨h2, h3⟩ := an h
    rcases (Bool.or_eq_true _ _).mp h1 with h1 | h1
    · exact s_asg hsw h1 (agT_nst h2) (soundE e X c W C tk _ h3).pe (soundG C t _ h2)
    · exact s_asgC hk hsw (by rw [C.sc]; exact h1) (agT_nst h2) (soundE e X c W C tk _ h3).pe (soundG C t _ h2)
  · rename_i hsw
    split at h
    · rename_i i y py
      obtain ⟨h1, h⟩ := an h
      obtain ⟨hne, h⟩ := an h
      obtain ⟨h2, h3⟩ := an h
      obtain ⟨x, t', it, k, elt, tg', iter, ifs, scope, lpos, rfl, rfl⟩ := agE_comp hne (by simp [swpl] at hsw; exact hsw.1) h2
      rcases (Bool.or_eq_true _ _).mp h3 with h3 | h3
      · have hl : X.env.scope.names.lookup y = some .cell := by rw [C.sc]; exact of_decide_eq_true h3
        exact PS.mono (ps_asg (soundE _ X c W C tk _ h2).pe (soundG C (.name i) (.Name y py) (by unfold agT; exact h1)) (sw_false (l := pos.line) hl) rfl rfl) fun D σ H h => t_asg h
      · obtain ⟨h4, h5⟩ := an h3
        obtain ⟨h5, h6⟩ := an h5
        have hl : X.env.scope.names.lookup y = some .local := by rw [C.sc]; exact of_decide_eq_true h4
        obtain ⟨hi, _⟩ := an h1
        unfold agE at h2
        obtain ⟨hc, h2⟩ := an h2
        obtain ⟨b1, h2⟩ := an h2
        obtain ⟨b2, h2⟩ := an h2
        obtain ⟨b3, h2⟩ := an h2
        obtain ⟨b4, h2⟩ := an h2
        obtain ⟨b5, b6⟩ := an h2
        have ew : (t'.own c.N).map (·.2) = t'.slots := by unfold Tg.own; rw [List.map_map]; exact List.map_id _
        refine PS.mono (ps_setLc (i := i) (own := t'.own c.N) (g := tG t') (tt := tTt W0 cl (evC Φ k)) (te := tE W0 cl (evE Φ x)) (by rw [C.cm]; exact hc) (by rw [C.N]; exact C.nd) (by rw [C.N]; exact of_decide_eq_true hi) hl (sw_true hk hl h5 (by simpa using h6))
          (soundI it X c W C tk _ _ b4) (by rw [C.N, C.sc]; exact blkOk_by b1)
          (fun s' H a cl' fp => soundG (C.blk s' H _ cl' a fp) t' _ b3) (fun s' H a cl' fp => soundC k _ _ W0 (C.blk s' H _ cl' a fp) takes0 _ b5) (fun s' H a cl' fp => (soundE x _ _ W0 (C.blk s' H _ cl' a fp) takes0 _ b6).pe) (plset_it b2 X.env)) fun D σ H h => ?_
        rw [ew]
        obtain ⟨H0, G, env, rel, p⟩ := h
        refine t_comp ⟨H0, G, env, rel, (then_out (ρ := rhE) rel p).mono fun v H1 ⟨d, G1, st, q, rel1, p1⟩ => ?_⟩
        simp only [asgn] at p1
        split at p1
        · rename_i hh
          split at hh
          · cases hh
            exact p1 _ G1 _ Up.refl (rel1.set q)
          · cases hh
        · exact False.elim p1
    · cases h
theorem soundJ : ∀ (m : Es) (X : Cx) (c : Sc) (W : WX) (C : Ctx s Φ kk cl X c) (tk : Takes X W) (es : List Expr), agEs s c false m es = true → PA X es (tJ (evEs Φ m))
  | .nil, X, c, W, C, tk, es, h => by
    unfold agEs at h
    split at h
    · exact j_nil
    · cases h
  | .cons a r, X, c, W, C, tk, es, h => by
    unfold agEs at h
    split at h
    · obtain ⟨h1, h⟩ := an h
      obtain ⟨h2, h3⟩ := an h
      exact j_cons h1 (soundE a X c W C tk _ h2).pe (soundJ r X c W C tk _ h3)
    · cases h
theorem sound_newC {X : Cx} {c : Sc} {W : WX} {i : Nat} {y : Str} {py lpos spos : Pos} {elt : Expr} {gs : List Comprehension} {scope : Scope} {x : E} {t' : Tg} {it : I} {k : O} (C : Ctx s Φ kk cl X c) (tk : Takes X W) (hk : X.env.scope.kind = .function) (h1 : decide (c.N[i]? = some y) = true) (h2 : swB c y py (.ListComp elt gs scope lpos) = true)
    (h3 : agE s c false (.comp x t' it k) (.ListComp elt gs scope lpos) = true) : PS X (.Assign [.Name y py] (.ListComp elt gs scope lpos) spos) (tSt W cl fun env => (evE Φ (.comp x t' it k) env).then_ env fun d => match d with
      | .list ds => putW env i (.own ds)
      | _ => .bad) := by
  obtain ⟨h4, h5⟩ := an h2
  obtain ⟨h5, h6⟩ := an h5
  have hl : X.env.scope.names.lookup y = some .local := by rw [C.sc]; exact of_decide_eq_true h4
  obtain ⟨_, _, _, _, _, tg, iter, ifs, _, _, e1, e2⟩ := agE_comp rfl rfl h3
  cases e1
  cases e2
  unfold agE at h3
  obtain ⟨hc, h3⟩ := an h3
  obtain ⟨b1, h3⟩ := an h3
  obtain ⟨b2, h3⟩ := an h3
  obtain ⟨b3, h3⟩ := an h3
  obtain ⟨b4, h3⟩ := an h3
  obtain ⟨b5, b6⟩ := an h3
  have ew : (t'.own c.N).map (·.2) = t'.slots := by unfold Tg.own; rw [List.map_map]; exact List.map_id _
  refine PS.mono (ps_setLc (i := i) (own := t'.own c.N) (g := tG t') (tt := tTt W0 cl (evC Φ k)) (te := tE W0 cl (evE Φ x)) (by rw [C.cm]; exact hc) (by rw [C.N]; exact C.nd) (by rw [C.N]; exact of_decide_eq_true h1) hl (sw_true hk hl h5 (by simpa using h6))
    (soundI it X c W C tk _ _ b4) (by rw [C.N, C.sc]; exact blkOk_by b1)
    (fun s' H a cl' fp => soundG (C.blk s' H _ cl' a fp) t' _ b3) (fun s' H a cl' fp => soundC k _ _ W0 (C.blk s' H _ cl' a fp) takes0 _ b5) (fun s' H a cl' fp => (soundE x _ _ W0 (C.blk s' H _ cl' a fp) takes0 _ b6).pe) (plset_it b2 X.env)) fun D σ H h => ?_
  rw [ew]
  exact t_newC h
theorem asgSub_ok {o ix : Expr} {tpos : Pos} {env : PySem.Env} (h : plix ix = true) : ∀ v, assign (.Subscript o ix tpos) env v = (do
      let ov ← holding [v] (eval o env)
      let iv ← holding [v, ov] (eval ix env)
      standAt tpos
      holding [v, ov, iv] (setItem ov iv v)
      release [v, ov, iv] []) := by
  intro v
  cases ix with
  | Slice lo hi st pos =>
    cases st with
    | none => simp [plix] at h
    | some _ => rfl
  | _ => rfl
/-- the handlers' meanings -/
def hsL (Φ : Nat → List D → R D) : Hs → List (Nat × (Env → Rs))
  | .nil => []
  | .cons n st h => (n, evS Φ st) :: hsL Φ h
theorem evH_eq (Φ : Nat → List D → R D) : ∀ (h : Hs) (n : Nat) (env : Env), evH Φ h n env = evHl (hsL Φ h) n env
  | .nil, n, env => by simp [evH, hsL, evHl]
  | .cons n' st h, n, env => by
    simp only [evH, hsL, evHl]
    rw [evH_eq Φ h n env]
    all_goals (split <;> first | rfl | (cases evS Φ st env <;> rfl))
theorem then_seq {α : Type} (x : R α) (env : Env) (k : α → Rs) (g : Env → Rs) : (x.then_ env k).seq g = x.then_ env fun a => (k a).seq g := by
  cases x <;> rfl
theorem then_congr {α : Type} {x : R α} {env : Env} {k k' : α → Rs} (h : ∀ a, k a = k' a) : x.then_ env k = x.then_ env k' := by
  have : k = k' := funext h
  rw [this]
theorem hs_in {c : Sc} : ∀ {h : Hs} {hs : List ExceptHandler}, agH s c h hs = true → ∀ p ∈ hsL Φ h, ∃ q ∈ s.exs, q.1 = p.1
  | .nil, hs, _, p, hp => by simp [hsL] at hp
  | .cons n st h, hs, hh, p, hp => by
    unfold agH at hh
    split at hh
    · obtain ⟨h1, hh⟩ := an hh
      obtain ⟨h2, hh⟩ := an hh
      obtain ⟨h3, h4⟩ := an hh
      unfold hsL at hp
      rcases List.mem_cons.mp hp with rfl | hp
      · obtain ⟨q, hq, h5⟩ := List.any_eq_true.mp h2
        exact ⟨q, hq, of_decide_eq_true (an h5).1⟩
      · exact hs_in h4 p hp
    · cases hh
theorem isB_call {c : Sc} {n : Str} {j q : Nat} {e : Expr} (h : isB s c n j q e = true) : ∃ f p1 y p2 z p3 pos, e = .Call (.Name f p1) [.Name y p2, .Name z p3] [] pos := by
  unfold isB at h
  split at h
  · exact ⟨_, _, _, _, _, _, _, rfl⟩
  · cases h
/-- what such a call tells: slot j holds a -/
def tIsK (j : Nat) (a : Addr) (b : Bool) : TE := fun σ H Q => σ[j]? = some (some (.ref a)) ∧ Q (.bl b) H
theorem pe_isK {X : Cx} {c : Sc} {n : Str} {j q ci : Nat} {e : Expr} {a D : Addr} {oe : Obj} {pn : List (Addr × Obj)} (C : Ctx s Φ kk cl X c) (sp : Str) (hsp : s.sup = some sp) (hz : Zc (cl ci) none oe) (hf : ∃ vs, oe.data = .fields vs) (hci : ∃ p ∈ s.exs, p.1 = ci) (h : isB s c n j q e = true) :
    PE (X.suite a ((a, oe) :: pn)) e (tIsK j a (rbK ci q)) := by
  obtain ⟨f, p1, y, p2, z, p3, pos, rfl⟩ := isB_call h
  unfold isB at h
  obtain ⟨h1, h⟩ := an h
  obtain ⟨h2, h⟩ := an h
  obtain ⟨h3, h⟩ := an h
  obtain ⟨h4, h5⟩ := an h
  cases of_decide_eq_true h1
  obtain ⟨p0, hp0, rfl⟩ := hci
  obtain ⟨CC, e1, ec, kq, kv⟩ := C.kd.knd sp hsp p0 hp0
  have Cs := C.suite a ((a, oe) :: pn)
  have pe1 : PE (X.suite a ((a, oe) :: pn)) (.Name y p2) (tVar j) := Cs.slot h4
  rw [e1] at hz
  have hg : Gl (X.suite a ((a, oe) :: pn)) "isinstance" := (Cs.free h2).1
  have hm : (X.suite a ((a, oe) :: pn)).mg "isinstance" = none := (Cs.free h2).2
  by_cases hq : q = 100
  · subst hq
    rw [if_pos rfl] at h5
    obtain ⟨h6, h7⟩ := an h5
    cases of_decide_eq_true h6
    have pe2 : PE (X.suite a ((a, oe) :: pn)) (.Name "ValueError" p3) (tC (.ty "ValueError")) := pe_bltn (u := .type "ValueError") (Cs.free h7).1 (Cs.free h7).2 (by decide +kernel) rfl (by decide) (by decide)
    refine PE.mono (pe_callB (call_isE ec hz hf) hg hm boot_isinstance (pa_cons pe1 (pa_cons pe2 pa_nil rfl) rfl) (by decide) (by decide) rfl rfl) fun σ H Q ⟨h8, q8⟩ => ?_
    exact ⟨_, h8, .ty "ValueError", .type "ValueError", true, rfl, fun u r => r, kv, q8⟩
  · rw [if_neg hq] at h5
    obtain ⟨h6, h7⟩ := an h5
    obtain ⟨p, hp, h8⟩ := List.any_eq_true.mp h7
    obtain ⟨h8, h9⟩ := an h8
    obtain ⟨A, m1, m2, _⟩ := C.ex p hp
    rw [of_decide_eq_true h9] at m2
    have pe2 : PE (X.suite a ((a, oe) :: pn)) (.Name z p3) (tC (.ref A)) := pe_glob (u := .ref A) (Cs.gl h6).1 m2 rfl (Cs.gl h6).2
    have kp := kq p hp
    rw [m1] at kp
    have er : rbK p0.1 q = decide (p0.1 = p.1) := by
      unfold rbK
      rw [of_decide_eq_true h8]
      have : (q == 100) = false := by simpa using hq
      rw [this]; rfl
    rw [er]
    refine PE.mono (pe_callB (call_isE ec hz hf) hg hm boot_isinstance (pa_cons pe1 (pa_cons pe2 pa_nil rfl) rfl) (by decide) (by decide) rfl rfl) fun σ H Q ⟨h8, q8⟩ => ?_
    exact ⟨_, h8, .ref A, .ref A, _, rfl, fun u r => r, kp, q8⟩
theorem pa_isK {X : Cx} {c : Sc} {n : Str} {j ci : Nat} {a : Addr} {oe : Obj} {pn : List (Addr × Obj)} (C : Ctx s Φ kk cl X c) (sp : Str) (hsp : s.sup = some sp) (hz : Zc (cl ci) none oe) (hf : ∃ vs, oe.data = .fields vs) (hci : ∃ p ∈ s.exs, p.1 = ci) : ∀ (qs : List Nat) (es : List Expr), isBs s c n j qs es = true →
    PA (X.suite a ((a, oe) :: pn)) es (fun σ H Q => σ[j]? = some (some (.ref a)) ∧ Q (qs.map fun q => V.bl (rbK ci q)) H)
  | [], es, h => by
    cases es with
    | nil => exact PA.mono pa_nil fun σ H Q ⟨_, q⟩ => q
    | cons _ _ => unfold isBs at h; cases h
  | q :: qs, es, h => by
    cases es with
    | nil => unfold isBs at h; cases h
    | cons e es =>
      unfold isBs at h
      obtain ⟨h1, h2⟩ := an h
      have pe := pe_isK (a := a) (D := a) (oe := oe) (pn := pn) C sp hsp hz hf hci h1
      have ih := pa_isK (a := a) (pn := pn) C sp hsp hz hf hci qs es h2
      obtain ⟨f, p1, y, p2, z, p3, pos, rfl⟩ := isB_call h1
      exact PA.mono (pa_cons pe ih rfl) fun σ H Q ⟨h3, q3⟩ => ⟨h3, h3, q3⟩
theorem rpl_bools {G : Hp} (ci : Nat) : ∀ qs : List Nat, RpL G (qs.map fun q => V.bl (rbK ci q)) (qs.map fun q => PyData.bool (rbK ci q))
  | [] => .nil
  | q :: qs => .cons (.bl _) (rpl_bools ci qs)
theorem s_tryk {X : Cx} {c : Sc} {W : WX} {n sp y1 y2 y3 : Str} {i j : Nat} {body : List Stmt} {l1 l2 : List Expr} {B : Env → Rs} {np pa1 pa2 pa3 pb1 pb2 pb3 pb4 pos pos' ph : Pos} (C : Ctx s Φ kk cl X c) (tk : Takes X W) (hst : X.stack = X.env :: X.outer) (hfr : X.env.frame = some X.env.locals)
    (hsp : s.sup = some sp) (hg : globB c sp = true) (hj : c.N[j]? = some n) (hln : c.sc.names.lookup n = some .local) (h1 : storeB c i y1 = true) (h2 : storeB c i y2 = true) (h3 : slotB c i y3 = true) (h4 : isBs s c n j kq1 l1 = true) (h5 : isBs s c n j kq2 l2 = true) (h6 : ((List.range 6).all fun m => s.exs.any fun p => p.1 == m) = true)
    (hb : ∀ (W : WX) (pn : List (Addr × Obj)) (xe : Value → Shared → Prop), Takes (X.tr pn xe) W → PassesOwn (model X.prog X.w) X.A X.env xe → PSs (X.tr pn xe) body (tSt W cl B)) :
    PS X (.Try body [.ExceptHandler (some (.Name sp np)) (some n) [.Assign [.Name y1 pa1] (.List l1 pa2) pa3, .Assign [.Name y2 pb1] (.BinOp (.Name y3 pb2) .Add (.List l2 pb3) pb4) pos'] ph] [] [] pos) (tSt W cl fun env => match B env with
      | .exc ci env' => if i < env'.length ∧ j < env'.length ∧ i ≠ j ∧ ci < 6 then Rs.nx ((env'.set j none).set i (some (.val (.list (kindsL ci))))) else Rs.bad
      | x => x) := by
  obtain ⟨S, mS, exS⟩ := C.kd.sup sp hsp
  have hc : Names X sp (.ref S) := ⟨(C.gl hg).1, (C.gl hg).2, .inl mS⟩
  have hsu : ∀ (a : Addr) (oe : Obj) (cls : Value) (d : Option Addr) (pn : List (Addr × Obj)), Zc cls d oe → (∃ vs, oe.data = .fields vs) →
      PSs (X.suite a ((a, oe) :: pn)) [.Assign [.Name y1 pa1] (.List l1 pa2) pa3, .Assign [.Name y2 pb1] (.BinOp (.Name y3 pb2) .Add (.List l2 pb3) pb4) pos'] (fun D σ H => ∃ ci, ci < 6 ∧ cls = cl ci ∧ d = none ∧ i ≠ j ∧ i < σ.length ∧ σ[j]? = some (some (.ref a)) ∧
        ∀ p1 p2 p3, H p1 = none → upd H p1 (.lst (kq1.map fun q => V.bl (rbK ci q))) p2 = none → upd (upd H p1 (.lst (kq1.map fun q => V.bl (rbK ci q)))) p2 (.lst (kq2.map fun q => V.bl (rbK ci q))) p3 = none →
          D.nx ((σ.set i (some (.ref p1))).set i (some (.ref p3))) (upd (upd (upd H p1 (.lst (kq1.map fun q => V.bl (rbK ci q)))) p2 (.lst (kq2.map fun q => V.bl (rbK ci q)))) p3 (.lst ((kq1.map fun q => V.bl (rbK ci q)) ++ (kq2.map fun q => V.bl (rbK ci q)))))) := by
    intro a oe cls d pn hz hf
    refine ⟨fun pins st σ H D I ⟨ci, hci, ecls, ed, hij, hil, hsj, q⟩ => ?_⟩
    subst ecls ed
    have hcm : ∃ p ∈ s.exs, p.1 = ci := by
      have := List.all_eq_true.mp h6 ci (by simpa using hci)
      obtain ⟨p, hp, e⟩ := List.any_eq_true.mp this
      exact ⟨p, hp, eq_of_beq e⟩
    have Cs := C.suite a ((a, oe) :: pn)
    have A1 := pa_isK (a := a) (pn := pn) C sp hsp hz hf hcm kq1 l1 h4
    have A2 := pa_isK (a := a) (pn := pn) C sp hsp hz hf hcm kq2 l2 h5
    have G1 : PG (X.suite a ((a, oe) :: pn)) (.Name y1 pa1) (gName i) := Cs.name h1
    have G2 : PG (X.suite a ((a, oe) :: pn)) (.Name y2 pb1) (gName i) := Cs.name h2
    have V3 : PE (X.suite a ((a, oe) :: pn)) (.Name y3 pb2) (tVar i) := Cs.slot h3
    have S1 : PS (X.suite a ((a, oe) :: pn)) (.Assign [.Name y1 pa1] (.List l1 pa2) pa3) _ := ps_asg (pe_lst A1) G1 rfl rfl rfl
    have S2 : PS (X.suite a ((a, oe) :: pn)) (.Assign [.Name y2 pb1] (.BinOp (.Name y3 pb2) .Add (.List l2 pb3) pb4) pos') _ := ps_asg (pe_op op_cat V3 (pe_lst A2)) G2 rfl rfl rfl
    refine (pss_cons S1 (pss_cons S2 pss_nil)).run pins st σ H D I ?_
    refine ⟨hsj, by show 4 ≤ sizeLine; decide, fun p1 hp1 => ?_⟩
    refine ⟨.ref p1, by rw [List.getElem?_set_self hil], ?_⟩
    refine ⟨by rw [List.getElem?_set_ne hij]; exact hsj, by show 3 ≤ sizeLine; decide, fun p2 hp2 => ?_⟩
    refine ⟨p1, p2, kq1.map (fun q => V.bl (rbK ci q)), kq2.map (fun q => V.bl (rbK ci q)), rfl, rfl, ?_, upd_same, by show 7 ≤ sizeLine; decide, fun p3 hp3 => ?_⟩
    · have : p1 ≠ p2 := fun z => by subst z; rw [upd_same] at hp2; cases hp2
      rw [upd_ne this, upd_same]
    · exact q p1 p2 p3 hp1 hp2 hp3
  refine PS.mono (ps_try_as (i := j) hst hfr (by rw [C.N]; exact C.nd) (by rw [C.N]; exact hj) (by show X.env.scope.names.lookup n = _; rw [C.sc]; exact hln) hc tk hb hsu) fun D σ H ⟨H0, G, env, rel, p⟩ => ⟨H0, G, env, rel, ?_⟩
  dsimp only at p
  cases hB : B env with
  | nx env' => rw [hB] at p; exact p
  | rt d => rw [hB] at p; exact p
  | bad => rw [hB] at p; exact p
  | exc ci env' =>
    rw [hB] at p
    dsimp only at p
    split at p
    · rename_i hc6
      obtain ⟨hi, hjl, hij, hci⟩ := hc6
      have hcm : ∃ p ∈ s.exs, p.1 = ci := by
        have := List.all_eq_true.mp h6 ci (by simpa using hci)
        obtain ⟨p, hp, e⟩ := List.any_eq_true.mp this
        exact ⟨p, hp, eq_of_beq e⟩
      intro σ' G' H' u r
      have hsl : i < σ'.length := by rw [← r.len]; exact hi
      obtain ⟨pc, hpc, epc⟩ := hcm
      have hex := exS pc hpc
      rw [epc] at hex
      refine ⟨true, hex, fun _ a ha => ⟨ci, hci, rfl, rfl, hij, by simpa using hsl, ?_, fun p1 p2 p3 q1 q2 q3 => ?_⟩, fun z => by cases z⟩
      · rw [List.getElem?_set_self (by rw [← r.len]; exact hjl)]
      · have rw1 := r.wipe [j]
        have st1 : Step G' H' (upd G' p1 (.lst (kq1.map fun q => V.bl (rbK ci q)))) (upd H' p1 (.lst (kq1.map fun q => V.bl (rbK ci q)))) := Step.alloc r.gh q1
        have st2 := st1.trans (Step.alloc (o := .lst (kq2.map fun q => V.bl (rbK ci q))) st1.gh q2)
        have st3 := st2.trans (Step.alloc (o := .lst ((kq1.map fun q => V.bl (rbK ci q)) ++ (kq2.map fun q => V.bl (rbK ci q)))) st2.gh q3)
        have q : Rp (upd (upd (upd G' p1 (.lst (kq1.map fun q => V.bl (rbK ci q)))) p2 (.lst (kq2.map fun q => V.bl (rbK ci q)))) p3 (.lst ((kq1.map fun q => V.bl (rbK ci q)) ++ (kq2.map fun q => V.bl (rbK ci q))))) (.ref p3) (.list (kindsL ci)) := by
          refine .lst upd_same ?_
          have := rpl_bools (G := upd (upd (upd G' p1 (.lst (kq1.map fun q => V.bl (rbK ci q)))) p2 (.lst (kq2.map fun q => V.bl (rbK ci q)))) p3 (.lst ((kq1.map fun q => V.bl (rbK ci q)) ++ (kq2.map fun q => V.bl (rbK ci q))))) ci (kq1 ++ kq2)
          rw [List.map_append] at this
          exact this
        have fin := (rw1.step st3).set (i := i) q
        have e1 : wipeE env' [j] = env'.set j none := rfl
        have e2 : L2.wipe σ' [j] = σ'.set j none := rfl
        rw [e1, e2] at fin
        have e3 : ((((σ'.set j (some (.ref a))).set i (some (.ref p1))).set i (some (.ref p3))).set j none) = (σ'.set j none).set i (some (.ref p3)) := by
          rw [List.set_set, List.set_comm _ _ hij, List.set_set]
        show D.nx ((((σ'.set j (some (.ref a))).set i (some (.ref p1))).set i (some (.ref p3))).set j none) _
        rw [e3]
        exact p _ _ _ (u.trans (r.up st3)) fin
    · exact False.elim p
mutual
theorem soundS : ∀ (m : S) (X : Cx) (c : Sc) (W : WX) (C : Ctx s Φ kk cl X c) (tk : Takes X W) (hp : PassesOwn (model X.prog X.w) X.A X.env X.xe) (hst : X.stack = X.env :: X.outer) (hfr : X.env.frame = some X.env.locals) (hk : X.env.scope.kind = .function) (sts : List Stmt), agS s c m sts = true → PSs X sts (tSt W cl (evS Φ m))
  | .nil, X, c, W, C, tk, hp, hst, hfr, hk, sts, h => by
    unfold agS at h
    split at h
    · exact PSs.eq s_nil fun env => by simp only [evS]
    · cases h
  | .asg t e r, X, c, W, C, tk, hp, hst, hfr, hk, sts, h => by
    unfold agS at h
    split at h
    · obtain ⟨h1, h2⟩ := an h
      refine PSs.eq (s_seq (sound_asg C tk hk h1) (soundS r X c W C tk hp hst hfr hk _ h2)) fun env => ?_
      simp only [evS, mAsg]
      cases evE Φ e env with
      | ok d => simp only [ok_then]; cases asgn t d env <;> rfl
      | exc n => rfl
      | bad => rfl
    · cases h
  | .par i j a b r, X, c, W, C, tk, hp, hst, hfr, hk, sts, h => by
    unfold agS at h
    split at h
    · obtain ⟨hc, h⟩ := an h
      obtain ⟨h1, h⟩ := an h
      obtain ⟨h2, h⟩ := an h
      obtain ⟨h3, h⟩ := an h
      obtain ⟨h4, h⟩ := an h
      obtain ⟨h5, h⟩ := an h
      obtain ⟨h6, h7⟩ := an h
      refine PSs.eq (s_seq (s_par (i := i) (j := j) (by rw [C.cm]; exact hc) (by rw [C.N]; exact C.nd) (by rw [C.N]; exact of_decide_eq_true h1) (by rw [C.N]; exact of_decide_eq_true h2) (by simpa using h3) hk (by rw [C.sc]; exact h4) (soundE a X c W C tk _ h5).pe (soundE b X c W C tk _ h6).pe) (soundS r X c W C tk hp hst hfr hk _ h7)) fun env => ?_
      simp only [evS, then_seq]
      refine then_congr fun x => then_congr fun y => ?_
      split <;> rfl
    · cases h
  | .new i e r, X, c, W, C, tk, hp, hst, hfr, hk, sts, h => by
    unfold agS at h
    split at h
    · obtain ⟨h1, h⟩ := an h
      obtain ⟨h2, h3⟩ := an h
      refine PSs.eq (s_seq (s_newL (i := i) rfl (C.name h1) (soundEs _ X c W C tk _ h2)) (soundS r X c W C tk hp hst hfr hk _ h3)) fun env => ?_
      simp only [evS, evE, then_seq]
      exact then_congr fun d => by cases d <;> rfl
    · rename_i x t' it k y py elt gs scope lpos spos rest
      obtain ⟨h1, h⟩ := an h
      obtain ⟨h2, h⟩ := an h
      obtain ⟨h3, h4⟩ := an h
      refine PSs.eq (s_seq (sound_newC (i := i) C tk hk h1 h2 h3) (soundS r X c W C tk hp hst hfr hk _ h4)) fun env => ?_
      simp only [evS]
      show ((evE Φ (.comp x t' it k) env).then_ env _) = _
      rw [then_seq]
      exact then_congr fun d => by cases d <;> rfl
    · obtain ⟨h1, h⟩ := an h
      obtain ⟨h2, h⟩ := an h
      obtain ⟨h3, h4⟩ := an h
      refine PSs.eq (s_seq (s_newAdd (i := i) rfl (C.name h1) (toQ C _ (soundE _ X c W C tk) _ h2) (toQ C _ (soundE _ X c W C tk) _ h3)) (soundS r X c W C tk hp hst hfr hk _ h4)) fun env => ?_
      simp only [evS, evE, then_seq, binD]
      exact then_congr fun d => by cases d <;> rfl
    · cases h
  | .app i e r, X, c, W, C, tk, hp, hst, hfr, hk, sts, h => by
    unfold agS at h
    split at h
    · obtain ⟨h0, h⟩ := an h
      obtain ⟨h1, h⟩ := an h
      obtain ⟨h2, h⟩ := an h
      obtain ⟨h3, h⟩ := an h
      obtain ⟨h4, h5⟩ := an h
      cases of_decide_eq_true h0
      refine PSs.eq (s_seq (s_app (i := i) h2 rfl h3 (C.slot h1) (soundE e X c W C tk _ h4).pe) (soundS r X c W C tk hp hst hfr hk _ h5)) fun env => ?_
      simp only [evS]
      generalize env[i]? = o
      rcases o with _ | _ | w <;> first | rfl | skip
      cases w <;> first | rfl | skip
      simp only [then_seq]
      exact then_congr fun d => by split <;> rfl
    · cases h
  | .ext i e r, X, c, W, C, tk, hp, hst, hfr, hk, sts, h => by
    unfold agS at h
    split at h
    · obtain ⟨h0, h⟩ := an h
      obtain ⟨h1, h⟩ := an h
      obtain ⟨h2, h⟩ := an h
      obtain ⟨h3, h⟩ := an h
      obtain ⟨h4, h5⟩ := an h
      cases of_decide_eq_true h0
      refine PSs.eq (s_seq (s_ext (i := i) h2 rfl h3 (C.slot h1) (soundE e X c W C tk _ h4).pe) (soundS r X c W C tk hp hst hfr hk _ h5)) fun env => ?_
      simp only [evS]
      generalize env[i]? = o
      rcases o with _ | _ | w <;> first | rfl | skip
      cases w <;> first | rfl | skip
      simp only [then_seq]
      refine then_congr fun d => ?_
      cases d <;> first | rfl | skip
      dsimp only
      split <;> rfl
    · cases h
  | .seti i k e r, X, c, W, C, tk, hp, hst, hfr, hk, sts, h => by
    unfold agS at h
    split at h
    · obtain ⟨h1, h⟩ := an h
      obtain ⟨h2, h⟩ := an h
      obtain ⟨h3, h⟩ := an h
      obtain ⟨h4, h⟩ := an h
      obtain ⟨h5, h6⟩ := an h
      refine PSs.eq (s_seq (s_seti (i := i) h3 (C.slot h1) (soundE k X c W C tk _ h4).pe (soundE e X c W C tk _ h5).pe (asgSub_ok h2)) (soundS r X c W C tk hp hst hfr hk _ h6)) fun env => ?_
      simp only [evS]
      generalize env[i]? = o
      rcases o with _ | _ | w <;> first | rfl | skip
      cases w <;> first | rfl | skip
      simp only [then_seq]
      refine then_congr fun d => then_congr fun x => ?_
      cases x <;> first | rfl | skip
      dsimp only
      rename_i ds _
      generalize ixN _ _ = oo
      cases oo <;> rfl
    · cases h
  | .dnew i tp r, X, c, W, C, tk, hp, hst, hfr, hk, sts, h => by
    unfold agS at h
    split at h
    · obtain ⟨h1, h2⟩ := an h
      exact PSs.eq (s_seq (s_dnew (i := i) tp rfl (C.name h1)) (soundS r X c W C tk hp hst hfr hk _ h2)) fun env => by simp only [evS]
    · cases h
  | .dset i k e r, X, c, W, C, tk, hp, hst, hfr, hk, sts, h => by
    unfold agS at h
    split at h
    · obtain ⟨hc, h⟩ := an h
      obtain ⟨h1, h⟩ := an h
      obtain ⟨h3, h⟩ := an h
      obtain ⟨h4, h⟩ := an h
      obtain ⟨h5, h6⟩ := an h
      have hu : X.A.units + 1 < cLine := by have := hu_ok C hc; omega
      refine PSs.eq (s_seq (s_dset (i := i) hu h3 (C.slot h1) (soundE k X c W C tk _ h4).pe (soundE e X c W C tk _ h5).pe) (soundS r X c W C tk hp hst hfr hk _ h6)) fun env => ?_
      simp only [evS]
      generalize env[i]? = o
      rcases o with _ | _ | w <;> first | rfl | skip
      cases w <;> first | rfl | skip
      · simp only [then_seq]
        refine then_congr fun d => then_congr fun x => ?_
        cases x <;> first | rfl | skip
        dsimp only
        split <;> rfl
      · simp only [then_seq]
        refine then_congr fun d => then_congr fun x => ?_
        cases x <;> first | rfl | skip
        dsimp only
        generalize intsOf _ = oo
        cases oo <;> first | rfl | skip
        dsimp only
        split <;> rfl
    · cases h
  | .frz i r, X, c, W, C, tk, hp, hst, hfr, hk, sts, h => by
    unfold agS at h
    refine PSs.eq (s_frz (i := i) (soundS r X c W C tk hp hst hfr hk _ h)) fun env => ?_
    simp only [evS]
    all_goals (generalize env[i]? = o; rcases o with _ | _ | w <;> first | rfl | (cases w <;> rfl))
  | .aug i o e r, X, c, W, C, tk, hp, hst, hfr, hk, sts, h => by
    unfold agS at h
    split at h
    · rename_i x p o' v pos rest
      obtain ⟨h0, h⟩ := an h
      obtain ⟨h1, h⟩ := an h
      obtain ⟨h2, h⟩ := an h
      obtain ⟨h3, h4⟩ := an h
      cases of_decide_eq_true h0
      have hop : o = .Add ∨ o = .Sub := by
        rcases (Bool.or_eq_true _ _).mp h1 with h1 | h1
        · exact .inl (of_decide_eq_true h1)
        · exact .inr (of_decide_eq_true h1)
      obtain ⟨hi, hl⟩ := an h2
      have hi2 : X.N[i]? = some x := by rw [C.N]; exact of_decide_eq_true hi
      have nd : X.N.Nodup := by rw [C.N]; exact C.nd
      have pe := (soundE e X c W C tk _ h3).pe
      refine PSs.eq (s_seq (s_aug (i := i) (f := evE Φ e) hop (fun {ti} rule => ?_)) (soundS r X c W C tk hp hst hfr hk _ h4)) fun env => ?_
      · rcases (Bool.or_eq_true _ _).mp hl with hl | hl
        · have hl : X.env.scope.names.lookup x = some .local := by rw [C.sc]; exact of_decide_eq_true hl
          exact ps_aug nd hi2 (.inl hl) pe rule (.inr hl)
        · obtain ⟨hl, hfn⟩ := an hl
          have hl : X.env.scope.names.lookup x = some .cell := by rw [C.sc]; exact of_decide_eq_true hl
          exact ps_aug nd hi2 (.inr hl) pe rule (.inl (by rw [C.fn]; exact hfn))
      · simp only [evS, then_seq]
    · cases h
  | .exp e r, X, c, W, C, tk, hp, hst, hfr, hk, sts, h => by
    unfold agS at h
    split at h
    · obtain ⟨h1, h⟩ := an h
      obtain ⟨h2, h3⟩ := an h
      refine PSs.eq (s_seq (s_exp h1 (soundE e X c W C tk _ h2).pe) (soundS r X c W C tk hp hst hfr hk _ h3)) fun env => ?_
      simp only [evS]
      cases evE Φ e env <;> rfl
    · cases h
  | .ret e r, X, c, W, C, tk, hp, hst, hfr, hk, sts, h => by
    unfold agS at h
    split at h
    · refine PSs.eq (s_last (s_ret (soundE e X c W C tk _ h).pe) fun env env' z => ?_) fun env => by simp only [evS]
      cases hx : evE Φ e env <;> (rw [hx] at z; cases z)
    · cases h
  | .ite k a b r, X, c, W, C, tk, hp, hst, hfr, hk, sts, h => by
    unfold agS at h
    split at h
    · obtain ⟨h1, h⟩ := an h
      obtain ⟨h2, h⟩ := an h
      obtain ⟨h3, h⟩ := an h
      obtain ⟨h4, h5⟩ := an h
      exact PSs.eq (s_seq (s_if ((soundE k X c W C tk _ h2).pt h1) (soundS a X c W C tk hp hst hfr hk _ h3) (soundS b X c W C tk hp hst hfr hk _ h4)) (soundS r X c W C tk hp hst hfr hk _ h5)) fun env => by simp only [evS]
    · cases h
  | .whl k b r, X, c, W, C, tk, hp, hst, hfr, hk, sts, h => by
    unfold agS at h
    split at h
    · obtain ⟨h1, h⟩ := an h
      obtain ⟨h2, h⟩ := an h
      obtain ⟨h3, h4⟩ := an h
      exact PSs.eq (s_seq (s_while WF hp ((soundE k X c W C tk _ h2).pt h1) (soundS b X c W C tk hp hst hfr hk _ h3)) (soundS r X c W C tk hp hst hfr hk _ h4)) fun env => by simp only [evS]
    · cases h
  | .frl t it b r, X, c, W, C, tk, hp, hst, hfr, hk, sts, h => by
    unfold agS at h
    split at h
    · obtain ⟨hc, h⟩ := an h
      obtain ⟨h1, h⟩ := an h
      obtain ⟨h2, h⟩ := an h
      obtain ⟨h3, h⟩ := an h
      obtain ⟨h4, h5⟩ := an h
      exact PSs.eq (s_seq (s_for hp (by rw [C.cm]; exact hc) h1 (soundI it X c W C tk _ _ h3) (soundG C t _ h2) (soundS b X c W C tk hp hst hfr hk _ h4)) (soundS r X c W C tk hp hst hfr hk _ h5)) fun env => by
        simp only [evS]
        all_goals first
          | rfl
          | (congr 1
             all_goals (refine then_congr fun xs => ?_
                        congr 1
                        all_goals (funext d e; cases asgn t d e <;> rfl)))
    · cases h
  | .try ps b hs r, X, c, W, C, tk, hp, hst, hfr, hk, sts, h => by
    unfold agS at h
    split at h
    · obtain ⟨h1, h⟩ := an h
      obtain ⟨h2, h⟩ := an h
      obtain ⟨h3, h4⟩ := an h
      refine PSs.eq (s_seq (s_try (hm := hsL Φ hs) (ps := ps) hst hfr tk (fun W' pn xe tk' hp' => soundS b (X.tr pn xe) c W' (C.tr pn xe) tk' hp' hst hfr hk _ h2) (soundH hs X c C hst hfr hk _ h3) fun n hn p hpm => ?_) (soundS r X c W C tk hp hst hfr hk _ h4)) fun env => ?_
      · obtain ⟨q, hq, e⟩ := hs_in h3 p hpm
        have h5 := List.all_eq_true.mp h1 n (by simpa using hn)
        obtain ⟨q2, hq2, e2⟩ := List.any_eq_true.mp h5
        have := C.exm q2 hq2 q hq
        rw [e, eq_of_beq e2] at this
        exact this
      · simp only [evS, evH_eq]
        all_goals (cases evS Φ b env <;> rfl)
    · cases h
  | .tryk i j b r, X, c, W, C, tk, hp, hst, hfr, hk, sts, h => by
    unfold agS at h
    split at h
    · obtain ⟨h1, h⟩ := an h
      obtain ⟨h2, h⟩ := an h
      obtain ⟨h3, h⟩ := an h
      obtain ⟨h4, h⟩ := an h
      obtain ⟨h5, h⟩ := an h
      obtain ⟨h6, h⟩ := an h
      obtain ⟨h7, h⟩ := an h
      obtain ⟨h8, h⟩ := an h
      obtain ⟨h9, h⟩ := an h
      obtain ⟨h10, h⟩ := an h
      obtain ⟨h11, h12⟩ := an h
      refine PSs.eq (s_seq (s_tryk (B := evS Φ b) C tk hst hfr (of_decide_eq_true h1) h2 (of_decide_eq_true h3) (of_decide_eq_true h4) h5 h6 h7 h8 h9 h10 (fun W' pn xe tk' hp' => soundS b (X.tr pn xe) c W' (C.tr pn xe) tk' hp' hst hfr hk _ h11)) (soundS r X c W C tk hp hst hfr hk _ h12)) fun env => ?_
      simp only [evS]
      all_goals (cases evS Φ b env <;> rfl)
    · cases h
  | .spoil i y es x r, X, c, W, C, tk, hp, hst, hfr, hk, sts, h => by
    unfold agS at h
    split at h
    · obtain ⟨hc, h⟩ := an h
      obtain ⟨h1, h⟩ := an h
      obtain ⟨h2, h⟩ := an h
      obtain ⟨h3, h⟩ := an h
      obtain ⟨h4, h⟩ := an h
      obtain ⟨h5, h⟩ := an h
      obtain ⟨h6, h⟩ := an h
      obtain ⟨h7, h⟩ := an h
      obtain ⟨h8, h⟩ := an h
      obtain ⟨h9, h⟩ := an h
      obtain ⟨h10, h⟩ := an h
      obtain ⟨h11, h12⟩ := an h
      obtain ⟨q1, h9⟩ := an h9
      obtain ⟨q2, h9⟩ := an h9
      obtain ⟨q3, q4⟩ := an h9
      obtain ⟨q5, h10⟩ := an h10
      obtain ⟨q6, q7⟩ := an h10
      obtain ⟨q8, h11⟩ := an h11
      obtain ⟨q9, q10⟩ := an h11
      cases of_decide_eq_true q1
      cases of_decide_eq_true q2
      cases of_decide_eq_true q3
      cases of_decide_eq_true q4
      cases of_decide_eq_true q5
      cases of_decide_eq_true q6
      cases of_decide_eq_true q7
      simp only [Bool.not_eq_true'] at h8
      subst h8
      refine PSs.eq (s_spoil (fs := evEs Φ es) (hu_ok C hc) (C.name h1) (soundJ es X c W C tk _ h2) (C.slot h3) (C.slot h4) (C.slot h5) (C.slot h6) (C.slot h7) q8 q9 q10 (soundS r X c W C tk hp hst hfr hk _ h12)) fun env => ?_
      simp only [evS]
    · cases h
  | .rse n r, X, c, W, C, tk, hp, hst, hfr, hk, sts, h => by
    unfold agS at h
    split at h
    · obtain ⟨hc, h⟩ := an h
      obtain ⟨h1, h2⟩ := an h
      obtain ⟨q, hq, h3⟩ := List.any_eq_true.mp h2
      obtain ⟨h3, h4⟩ := an h3
      obtain ⟨A, m1, m2, m3, m4, m5, m6⟩ := C.ex q hq
      rw [of_decide_eq_true h3] at m1
      rw [of_decide_eq_true h4] at m2
      exact PSs.eq (s_last (s_rse (by rw [C.cm]; exact hc) tk m3 m2 m4 m5 m6 (C.gl h1).1 (C.gl h1).2 m1) fun env env' z => by cases z) fun env => by simp only [evS]
    · cases h
  | .pass r, X, c, W, C, tk, hp, hst, hfr, hk, sts, h => by
    unfold agS at h
    split at h
    · exact PSs.eq (s_seq s_pass (soundS r X c W C tk hp hst hfr hk _ h)) fun env => by simp only [evS, nx_seq]
    · cases h
  | .bad, X, c, W, C, tk, hp, hst, hfr, hk, sts, h => PSs.mono pss_never fun D σ H ⟨H0, G, env, rel, p⟩ => by
      simp only [evS] at p
      exact p
theorem soundH : ∀ (m : Hs) (X : Cx) (c : Sc) (C : Ctx s Φ kk cl X c) (hst : X.stack = X.env :: X.outer) (hfr : X.env.frame = some X.env.locals) (hk : X.env.scope.kind = .function) (hs : List ExceptHandler), agH s c m hs = true → HdsOk X hs ((hsL Φ m).map fun p => (cl p.1, fun _ _ _ => tSt W0 cl p.2))
  | .nil, X, c, C, hst, hfr, hk, hs, h => by
    unfold agH at h
    split at h
    · exact .nil
    · cases h
  | .cons n st r, X, c, C, hst, hfr, hk, hs, h => by
    unfold agH at h
    split at h
    · obtain ⟨h1, h⟩ := an h
      obtain ⟨h2, h⟩ := an h
      obtain ⟨h3, h4⟩ := an h
      obtain ⟨q, hq, h5⟩ := List.any_eq_true.mp h2
      obtain ⟨h5, h6⟩ := an h5
      obtain ⟨A, m1, m2, m3, m4, m5, m6⟩ := C.ex q hq
      rw [of_decide_eq_true h5] at m1
      rw [of_decide_eq_true h6] at m2
      rw [← m1] at m2
      exact .cons ⟨(C.gl h1).1, (C.gl h1).2, .inl m2⟩ (fun a oe cls d pn _ _ => soundS st (X.suite a ((a, oe) :: pn)) _ W0 (C.suite a _) takes0 PassesOwn.never hst hfr hk _ h3) (soundH r X c C hst hfr hk _ h4)
    · cases h
end
end
end M

set_option Elab.async false
set_option linter.all false
set_option maxRecDepth 100000
set_option maxHeartbeats 4000000
namespace M
open PySem PySem.Spec L2
open PyProof.Rows hiding St
/-! ### defs -/
theorem lookup_zip {β : Type} : ∀ {ns : List Str} {us : List β} {i : Nat} {x : Str} {u : β}, ns.Nodup → ns[i]? = some x → us[i]? = some u → (ns.zip us).lookup x = some u
  | [], _, _, _, _, _, h, _ => by simp at h
  | n :: ns, [], _, _, _, _, _, h => by simp at h
  | n :: ns, v :: us, 0, x, u, _, h1, h2 => by simp at h1 h2; subst h1; subst h2; simp
  | n :: ns, v :: us, i + 1, x, u, nd, h1, h2 => by
    simp only [List.getElem?_cons_succ] at h1 h2
    rw [List.nodup_cons] at nd
    have hne : (x == n) = false := by
      apply beq_eq_false_iff_ne.mpr
      intro e; subst e
      exact nd.1 (List.mem_of_getElem? h1)
    simp only [List.zip_cons_cons, List.lookup_cons, hne]
    exact lookup_zip nd.2 h1 h2
theorem filterMap_zip {β : Type} : ∀ (ns : List Str) (us : List β) (f : Str → Option β), ns.length = us.length → (∀ (i : Nat) x u, ns[i]? = some x → us[i]? = some u → f x = some u) → (ns.filterMap fun n => (f n).map fun v => (n, v)) = ns.zip us
  | [], [], _, _, _ => rfl
  | [], _ :: _, _, h, _ => by simp at h
  | _ :: _, [], _, h, _ => by simp at h
  | n :: ns, u :: us, f, h, hf => by
    rw [List.filterMap_cons, hf 0 n u rfl rfl]
    simp only [Option.map_some, List.zip_cons_cons]
    rw [filterMap_zip ns us f (by simpa using h) fun i x u h1 h2 => hf (i + 1) x u (by simpa using h1) (by simpa using h2)]
theorem binds_plain {name qual : Str} {args : List Arg} {body : List Stmt} {scope : Scope} {kV doc pm cdv ct : Value} {an : Option Addr} (nd : (args.map (·.arg)).Nodup) (us : List Value) (hl : us.length = (args.map (·.arg)).length) :
    bindArgs (PySem.W.fnOf name qual ⟨[], args, none, [], [], none, []⟩ body scope .none kV doc pm an cdv ct) ⟨us, []⟩ = pure ((args.map (·.arg)).zip us) := by
  generalize hn : args.map (·.arg) = ns at nd hl
  have hlook : ∀ (i : Nat) x u, ns[i]? = some x → us[i]? = some u → (ns.zip us).lookup x = some u := fun i x u h1 h2 => lookup_zip nd h1 h2
  have hmiss : (ns.filter fun n => ((ns.zip us).lookup n).isNone) = [] := by
    rw [List.filter_eq_nil_iff]
    intro x hx
    obtain ⟨i, hi, e⟩ := List.getElem_of_mem hx
    rw [hlook i x us[i] (by rw [← e]; exact List.getElem?_eq_getElem hi) (List.getElem?_eq_getElem (by omega))]
    simp
  have hb := filterMap_zip ns us (fun n => (ns.zip us).lookup n) hl.symm hlook
  unfold bindArgs
  have hs : seqItems? Value.none = pure none := rfl
  simp only [List.map_nil, List.nil_append, hn, hs, pure_bind, List.forIn_nil]
  have e1 : ¬ (us.length > ns.length) := by omega
  simp [e1, hmiss, hb]

def parsOk (d : Df) (p : Arguments) : Bool := match p with
  | ⟨[], args, none, [], [], none, []⟩ => decide (args.map (·.arg) = d.N.take d.ps)
  | _ => false
def defOk (s : St0) (d : Df) (x : He.DefD) : Bool :=
  parsOk d x.params && (decide (d.ps ≤ d.N.length) && (decide (x.scope.kind = .function) && (!x.scope.isCoroutine && (!x.scope.isGenerator && (decide d.N.Nodup &&
    (((d.N.take d.ps).all fun y => decide (x.scope.names.lookup y = some .local) || decide (x.scope.names.lookup y = some .cell)) && ((x.scope.names.all fun y => decide (y.2 ≠ .free)) &&
      agS s ⟨d.N, x.scope, fun _ => true, true⟩ d.body x.body)))))))
/-- what the top gives, apart from the defs -/
structure TopOk (s : St0) (K : PySem.W.Frag) (mg : Str → Option Value) (cl : Nat → Value) : Prop where
  fr : ∀ x, s.fr.contains x = true → mg x = none
  cs : ∀ p ∈ s.cs, ∃ v u, mg p.1 = some u ∧ RelV v u ∧ ∀ G, Rp G v p.2
  ex : ∀ p ∈ s.exs, ∃ C, cl p.1 = .ref C ∧ mg p.2 = some (.ref C) ∧ PySem.W.excIn K C He.veBase "ValueError.__new__" = true ∧ PySem.W.keepIn K (.ref C) = true ∧ PySem.W.subIn K (.ref C) (.type "BaseException") = some true ∧ PySem.W.typeIn K (.ref C) = some (.type "type")
  exm : ∀ p ∈ s.exs, ∀ q ∈ s.exs, PySem.W.exmOne K (cl p.1) (cl q.1) = some (decide (p.1 = q.1))
  kd : KindOk s K mg cl
section
variable {s : St0} {P : Program} {w : World} {K : PySem.W.Frag} {mg : Str → Option Value} {base : Heap} {cl : Nat → Value} {T : List Df}
/-- the functions at a level -/
def FnsAt (s : St0) (P : Program) (w : World) (K : PySem.W.Frag) (mg : Str → Option Value) (base : Heap) (cl : Nat → Value) (T : List Df) (k : Nat) : Prop :=
  ∀ p ∈ s.fns, ∃ fa fd ps, mg p.2 = some (.ref fa) ∧ PySem.W.keepIn K (.ref fa) = true ∧ Binds K fd ps [] ∧ FnOk P w K mg base (L2.CX P w) k fa fd ps (spF cl (call T k p.1))
theorem rel_start {H G : Hp} {N : List Str} {vs : List V} {ds : List D} (e : Same G H) (q : RpL G vs ds) (hn : ds.length ≤ N.length) : Rel H G (env0 N.length ds) (start N vs) H := by
  have hl := q.len
  have key : ∀ (i : Nat) (w : W), (env0 N.length ds)[i]? = some (some w) → ∃ d v, ds[i]? = some d ∧ w = .val d ∧ vs[i]? = some v ∧ Rp G v d := by
    intro i w h
    unfold env0 at h
    by_cases hi : i < ds.length
    · rw [List.getElem?_append_left (by simpa using hi), List.getElem?_map, List.getElem?_eq_getElem hi] at h
      simp only [Option.map_some, Option.some.injEq] at h
      obtain ⟨v, hv, r⟩ := q.get (List.getElem?_eq_getElem hi)
      exact ⟨_, v, List.getElem?_eq_getElem hi, h.symm, hv, r⟩
    · rw [List.getElem?_append_right (by simpa using hi), List.getElem?_replicate] at h
      split at h <;> cases h
  refine ⟨e, Same.refl _, ?_, fun i w h => ?_, fun i j wi wj v hij h1 h2 o1 o2 h3 => ?_⟩
  · unfold env0 L2.start; simp [hl]
  · obtain ⟨d, v, h1, rfl, h2, r⟩ := key i w h
    refine ⟨v, ?_, r⟩
    have hi : i < vs.length := (List.getElem?_eq_some_iff.mp h2).1
    unfold L2.start
    rw [List.getElem?_append_left (by simpa using hi), List.getElem?_map, h2]; rfl
  · obtain ⟨d, v', _, rfl, _⟩ := key i wi h1
    cases o1
theorem def_ok {d : Df} {x : He.DefD} {fa : Addr} {fd : FuncData} {k : Nat} (T0 : TopOk s K mg cl) (Fs : FnsAt s P w K mg base cl T k) (F : FunD K x.name x.qual x.params x.body x.scope [] [] fa fd) (h : defOk s d x = true) :
    Binds K fd (d.N.take d.ps) [] ∧ (∀ (s : Shared) (us : List Value), us.length = (d.N.take d.ps).length → BindsTo s fd ⟨us, []⟩ ((d.N.take d.ps).zip us)) ∧
      FnOk P w K mg base (L2.CX P w) (k + 1) fa fd (d.N.take d.ps) (spF cl fun ds => if ds.length = d.ps then run (call T k) d ds else .bad) := by
  unfold defOk at h
  obtain ⟨h1, h⟩ := an h
  obtain ⟨h2, h⟩ := an h
  obtain ⟨h3, h⟩ := an h
  obtain ⟨h4, h⟩ := an h
  obtain ⟨h5, h⟩ := an h
  obtain ⟨h6, h⟩ := an h
  obtain ⟨h7, h⟩ := an h
  obtain ⟨h8, h9⟩ := an h
  have h2 := of_decide_eq_true h2
  have h6 := of_decide_eq_true h6
  have hpl : (d.N.take d.ps).length = d.ps := by rw [List.length_take]; omega
  have hnd : (d.N.take d.ps).Nodup := h6.sublist (List.take_sublist _ _)
  have hbind : ∀ (kV doc pm : Value) (an : Option Addr) (cdv ct : Value) (us : List Value), us.length = (d.N.take d.ps).length → bindArgs (PySem.W.fnOf x.name x.qual x.params x.body x.scope .none kV doc pm an cdv ct) ⟨us, []⟩ = pure ((d.N.take d.ps).zip us) := by
    intro kV doc pm an cdv ct us hl
    unfold parsOk at h1
    split at h1
    · rename_i args hp
      have e := of_decide_eq_true h1
      have z := binds_plain (name := x.name) (qual := x.qual) (body := x.body) (scope := x.scope) (kV := kV) (doc := doc) (pm := pm) (an := an) (cdv := cdv) (ct := ct) (args := args) (by rw [e]; exact hnd) us (by rw [e]; exact hl)
      rw [e] at z
      rw [hp]
      exact z
    · cases h1
  refine ⟨F.bindsN hbind, F.bindsA hbind, ?_⟩
  have S : FnScope d.N (d.N.take d.ps) x.scope := by
    refine ⟨of_decide_eq_true h3, by simpa using h4, by simpa using h5, h6, by rw [hpl], fun y hy => ?_, fun y hy => ?_⟩
    · have := List.all_eq_true.mp h7 y hy
      rcases (Bool.or_eq_true _ _).mp this with z | z
      · exact .inl (of_decide_eq_true z)
      · exact .inr (of_decide_eq_true z)
    · exact of_decide_eq_true (List.all_eq_true.mp h8 y hy)
  refine F.ok S (fun vs H Q E hsp => ?_) fun cdv A outer sh H vs Q E hr hsp => ?_
  · obtain ⟨G, ds, e, q, o⟩ := hsp
    dsimp only at o
    split at o
    · rename_i hd; rw [q.len, hd, hpl]
    · exact False.elim o
  · obtain ⟨G, ds, e, q, o⟩ := hsp
    dsimp only at o
    split at o
    rotate_left
    · exact False.elim o
    rename_i hd
    have C : Ctx s (call T k) k cl (cxOf (L2.CX P w) P w K mg base d.N x.qual x.scope fa cdv A outer sh H E) ⟨d.N, x.scope, fun _ => true, true⟩ :=
      ⟨rfl, h6, rfl, rfl, rfl, fun _ => hr, T0.fr, T0.cs, Fs, T0.ex, T0.exm, T0.kd⟩
    refine ⟨_, soundS d.body _ _ _ C (takes_of rfl rfl rfl rfl) (passes_of rfl) rfl rfl (of_decide_eq_true h3) _ h9, ?_⟩
    refine ⟨H, G, env0 d.N.length ds, rel_start e q (by omega), ?_⟩
    unfold run at o
    cases hr2 : evS (call T k) d.body (env0 d.N.length ds) with
    | nx env => rw [hr2] at o; exact fun σ G' H' u rel => o _ G' H' ⟨u.gg, rel.gh, rel.h0, u.no⟩ .non
    | rt dd => rw [hr2] at o; exact fun v G' H' u e1 e2 r => o v G' H' ⟨u.gg, e1, e2, u.no⟩ r
    | exc c env => rw [hr2] at o; exact fun σ G' H' u rel => o G' H' ⟨u.gg, rel.gh, rel.h0, u.no⟩
    | bad => rw [hr2] at o; exact o
/-- where each def stands -/
def FnsHere (s : St0) (K : PySem.W.Frag) (mg : Str → Option Value) (T : List Df) : Prop := ∀ p ∈ s.fns, ∃ d x fa fd, T[p.1]? = some d ∧ defOk s d x = true ∧ FunD K x.name x.qual x.params x.body x.scope [] [] fa fd ∧ mg p.2 = some (.ref fa)
theorem fns_sound (T0 : TopOk s K mg cl) (Fh : FnsHere s K mg T) : ∀ k, FnsAt s P w K mg base cl T k
  | 0 => fun p hp => by
    obtain ⟨d, x, fa, fd, hT, hd, F, hm⟩ := Fh p hp
    refine ⟨fa, fd, d.N.take d.ps, hm, F.kp, ?_, ⟨fun vs H Q E ⟨G, ds, _, _, o⟩ => False.elim o, fun A outer sh H args us vs Q E _ _ _ _ ⟨G, ds, _, _, o⟩ => False.elim o⟩⟩
    have F0 : FnsAt s P w K mg base cl [] 0 := fun p hp => by
      obtain ⟨d, x, fa, fd, hT, hd, F, hm⟩ := Fh p hp
      unfold defOk at hd
      obtain ⟨h1, hd⟩ := an hd
      obtain ⟨h2, hd⟩ := an hd
      obtain ⟨h3, hd⟩ := an hd
      obtain ⟨h4, hd⟩ := an hd
      obtain ⟨h5, hd⟩ := an hd
      obtain ⟨h6, hd⟩ := an hd
      have hnd : (d.N.take d.ps).Nodup := (of_decide_eq_true h6).sublist (List.take_sublist _ _)
      refine ⟨fa, fd, d.N.take d.ps, hm, F.kp, F.bindsN fun kV doc pm an cdv ct us hl => ?_, ⟨fun vs H Q E ⟨G, ds, _, _, o⟩ => False.elim o, fun A outer sh H args us vs Q E _ _ _ _ ⟨G, ds, _, _, o⟩ => False.elim o⟩⟩
      unfold parsOk at h1
      split at h1
      · rename_i args hp
        have e := of_decide_eq_true h1
        have z := binds_plain (name := x.name) (qual := x.qual) (body := x.body) (scope := x.scope) (kV := kV) (doc := doc) (pm := pm) (an := an) (cdv := cdv) (ct := ct) (args := args) (by rw [e]; exact hnd) us (by rw [e]; exact hl)
        rw [e] at z
        rw [hp]
        exact z
      · cases h1
    exact (def_ok (P := P) (w := w) (base := base) T0 F0 F hd).1
  | k + 1 => fun p hp => by
    obtain ⟨d, x, fa, fd, hT, hd, F, hm⟩ := Fh p hp
    obtain ⟨b, _, G⟩ := def_ok (P := P) (w := w) (base := base) T0 (fns_sound T0 Fh k) F hd
    refine ⟨fa, fd, _, hm, F.kp, b, ?_⟩
    have e : (fun ds => if ds.length = d.ps then run (call T k) d ds else .bad) = call T (k + 1) p.1 := by
      funext ds
      simp only [call, hT]
    rw [← e]
    exact G
end
end M

set_option Elab.async false
set_option linter.all false
set_option maxRecDepth 100000
set_option maxHeartbeats 4000000
namespace M
open PySem PySem.Spec L2
open PyProof.Rows hiding St
/-! ### the head's facts, the end -/
def cstFa : Str × D → He.Fa
  | (x, .int i) => .int x i
  | (x, .str z) => .str x z
  | (x, _) => .free x
def cstB : D → Bool
  | .int _ => true
  | .str _ => true
  | _ => false
def faOf (s : St0) : List He.Fa := He.Fa.glo "law" ::
  (s.fr.map He.Fa.free ++ (s.cs.map cstFa ++ (s.exs.map (fun p => He.Fa.exc p.2) ++ (s.exs.map (fun p => He.Fa.glo p.2) ++ (s.fns.map (fun p => He.Fa.glo p.2) ++ s.exs.flatMap fun p => s.exs.map fun q => He.Fa.exm p.2 q.2 (decide (p.1 = q.1)))))))
def clOf (s : St0) (K : PySem.W.Frag) (n : Nat) : Value := match s.exs.lookup n with
  | some x => .ref (He.ga K x)
  | none => .none
def noL (K : PySem.W.Frag) : Bool := K.all fun p => decide (p.2.cls ≠ .type "list")
def eqV (a b : Option (Option Value)) : Bool := decide (a = b)
def excCB (K : PySem.W.Frag) (D : Addr) : Bool :=
  eqV (PySem.W.findIn K (.ref D) "__getattribute__") (some (some (.builtin "BaseException.__getattribute__"))) && (eqV (PySem.W.findIn K (.ref D) "__getattr__") (some none) && (decide (PySem.W.subIn K (.ref D) (.type "BaseException") = some true) && (PySem.W.hasDictIn K D && (eqV (PySem.W.findIn K (.ref D) "__class__") (some (some (.builtin "object.__class__"))) &&
    (eqV (PySem.W.specialIn K (.builtin "object.__class__") "__get__") (some (some (.builtin "getset_descriptor.__get__"))) && (decide (PySem.W.takesIn K (.builtin "object.__class__") = some true) && decide (PySem.W.mroIn K D (.type "object") = some true)))))))
def kindB (s : St0) (K : PySem.W.Frag) : Bool := match s.sup with
  | none => true
  | some x => (He.Fa.glo x).ok K && s.exs.all fun p => decide (PySem.W.exmOne K (.ref (He.ga K p.2)) (.ref (He.ga K x)) = some true) && (excCB K (He.ga K p.2) && ((s.exs.all fun q => decide (PySem.W.kitOne K (.ref (He.ga K p.2)) (.ref (He.ga K q.2)) = some (decide (p.1 = q.1)))) && decide (PySem.W.kitOne K (.ref (He.ga K p.2)) (.type "ValueError") = some true)))
abbrev AlM : Type := He.AlD × Bool
def obsM (n : Nat) (fa : List He.Fa) (fn : List He.DefD) (s : St0) (g : Addr → Option Obj) : AlM := (He.obsD fa fn (He.frG g (He.asD g n)), noL (He.frG g (He.asD g n)) && kindB s (He.frG g (He.asD g n)))
def hookM (n : Nat) (fa : List He.Fa) (fn : List He.DefD) (s0 : St0) : PySem.W.Hook where
  α := AlM
  obs := fun s => obsM n fa fn s0 s.heap.get?
  val := fun _ => (He.valD fn, true)
  says := fun _ h => ∃ K : PySem.W.Frag, K.In h ∧ He.SaysD fa fn K ∧ (noL K && kindB s0 K) = true
  of := fun _ _ e => ⟨_, He.frG_in, congrArg Prod.fst e, congrArg Prod.snd e⟩
  keeps := fun _ _ _ ⟨K, hK, c⟩ k => ⟨K, PySem.W.Frag.In.keeps hK k, c⟩
theorem obsM_eq {n : Nat} {fa : List He.Fa} {fn : List He.DefD} {s0 : St0} {g : Addr → Option Obj} {s : Shared} (h : ∀ a, g a = s.heap.get? a) : obsM n fa fn s0 g = (hookM n fa fn s0).obs s := by
  have e : g = s.heap.get? := funext h
  rw [e] <;> rfl
def exsOk (s : St0) : Bool := (s.exs.all fun p => decide (s.exs.lookup p.1 = some p.2)) && s.cs.all fun p => cstB p.2
def fnHere (s : St0) (d : Df) (x : Str) (fn : List He.DefD) : Bool := fn.any fun y => decide (y.at_ = (x, none)) && (y.dfl.isEmpty && (y.kwd.isEmpty && defOk s d y))
def fnsOk (s : St0) (T : List Df) (fn : List He.DefD) : Bool := s.fns.all fun p => match T[p.1]? with
  | some d => fnHere s d p.2 fn
  | none => false
section
variable {s : St0} {fn : List He.DefD} {K : PySem.W.Frag} {h : Heap} {mg : Str → Option Value} {T : List Df}
theorem fa_of (c : He.SaysD (faOf s) fn K) {f : He.Fa} (hf : f ∈ faOf s) : f.ok K = true := by
  obtain ⟨i, hi, e⟩ := List.getElem_of_mem hf
  exact c.fact i (by rw [← e]; exact List.getElem?_eq_getElem hi)
theorem top_of (c : He.SaysD (faOf s) fn K) (X : K.In h) (G : h.Ns mainGlobals mg) (hx : exsOk s = true) (hkd : kindB s K = true) : TopOk s K mg (clOf s K) := by
  obtain ⟨hx1, hx2⟩ := an hx
  have hcl : ∀ p ∈ s.exs, clOf s K p.1 = .ref (He.ga K p.2) := fun p hp => by
    unfold clOf
    rw [of_decide_eq_true (List.all_eq_true.mp hx1 p hp)]
  have kd : KindOk s K mg (clOf s K) := by
    constructor
    · intro x hx
      unfold kindB at hkd
      rw [hx] at hkd
      obtain ⟨k1, k2⟩ := an hkd
      refine ⟨He.ga K x, He.glo_ok X G k1, fun p hp => ?_⟩
      rw [hcl p hp]
      exact of_decide_eq_true (an (List.all_eq_true.mp k2 p hp)).1
    · intro x hx p hp
      unfold kindB at hkd
      rw [hx] at hkd
      obtain ⟨k1, k2⟩ := an hkd
      obtain ⟨k3, k4⟩ := an (List.all_eq_true.mp k2 p hp)
      obtain ⟨k4, k5⟩ := an k4
      obtain ⟨k5, k6⟩ := an k5
      refine ⟨He.ga K p.2, hcl p hp, ?_, fun q hq => ?_, of_decide_eq_true k6⟩
      · unfold excCB at k4
        obtain ⟨c1, k4⟩ := an k4
        obtain ⟨c2, k4⟩ := an k4
        obtain ⟨c3, k4⟩ := an k4
        obtain ⟨c4, k4⟩ := an k4
        obtain ⟨c5, k4⟩ := an k4
        obtain ⟨c6, k4⟩ := an k4
        obtain ⟨c7, c8⟩ := an k4
        exact ⟨of_decide_eq_true c1, of_decide_eq_true c2, of_decide_eq_true c3, c4, of_decide_eq_true c5, of_decide_eq_true c6, of_decide_eq_true c7, of_decide_eq_true c8⟩
      · rw [hcl q hq]
        exact of_decide_eq_true (List.all_eq_true.mp k5 q hq)
  refine ⟨fun x hx => ?_, fun p hp => ?_, fun p hp => ?_, fun p hp q hq => ?_, kd⟩
  · have hm : x ∈ s.fr := by simpa using hx
    exact He.free_ok X G (fa_of c (f := .free x) (List.mem_cons_of_mem _ (List.mem_append_left _ (List.mem_map.mpr ⟨x, hm, rfl⟩))))
  · have hb := List.all_eq_true.mp hx2 p hp
    have hf := fa_of c (f := cstFa p) (List.mem_cons_of_mem _ <| List.mem_append_right _ (List.mem_append_left _ (List.mem_map.mpr ⟨p, hp, rfl⟩)))
    obtain ⟨x, d⟩ := p
    cases d <;> first | (cases hb; done) | skip
    · obtain ⟨t, e⟩ := He.int_ok X G hf
      exact ⟨.int _, _, e, ⟨t, rfl⟩, fun G => .int _⟩
    · obtain ⟨t, e⟩ := He.str_ok X G hf
      exact ⟨.str _, _, e, ⟨t, rfl⟩, fun G => .str _⟩
  · have h1 := fa_of c (f := .exc p.2) (List.mem_cons_of_mem _ <| List.mem_append_right _ (List.mem_append_right _ (List.mem_append_left _ (List.mem_map.mpr ⟨p, hp, rfl⟩))))
    have h2 := fa_of c (f := .glo p.2) (List.mem_cons_of_mem _ <| List.mem_append_right _ (List.mem_append_right _ (List.mem_append_right _ (List.mem_append_left _ (List.mem_map.mpr ⟨p, hp, rfl⟩)))))
    obtain ⟨a1, a2, a3, a4⟩ := He.exc_ok h1
    exact ⟨He.ga K p.2, hcl p hp, He.glo_ok X G h2, a1, a2, a3, a4⟩
  · have h1 := fa_of c (f := .exm p.2 q.2 (decide (p.1 = q.1))) (List.mem_cons_of_mem _ <| List.mem_append_right _ (List.mem_append_right _ (List.mem_append_right _ (List.mem_append_right _ (List.mem_append_right _ (List.mem_flatMap.mpr ⟨p, hp, List.mem_map.mpr ⟨q, hq, rfl⟩⟩))))))
    rw [hcl p hp, hcl q hq]
    exact He.exm_ok h1
theorem here_of (c : He.SaysD (faOf s) fn K) {d : Df} {x : Str} (hh : fnHere s d x fn = true) : ∃ y fd, defOk s d y = true ∧ FunD K y.name y.qual y.params y.body y.scope [] [] (He.ga K x) fd := by
  obtain ⟨y, hy, h1⟩ := List.any_eq_true.mp hh
  obtain ⟨h1, h2⟩ := an h1
  obtain ⟨h2, h3⟩ := an h2
  obtain ⟨h3, h4⟩ := an h3
  obtain ⟨i, hi, e⟩ := List.getElem_of_mem hy
  obtain ⟨fd, F⟩ := c.def_ i (d := y) (by rw [← e]; exact List.getElem?_eq_getElem hi)
  have e1 : y.dvs K = [] := by unfold He.DefD.dvs; rw [List.isEmpty_iff.mp h2]; rfl
  have e2 : y.kws K = [] := by unfold He.DefD.kws; rw [List.isEmpty_iff.mp h3]; rfl
  rw [e1, e2, of_decide_eq_true h1] at F
  exact ⟨y, fd, h4, F⟩
theorem fns_of (c : He.SaysD (faOf s) fn K) (X : K.In h) (G : h.Ns mainGlobals mg) (hf : fnsOk s T fn = true) : FnsHere s K mg T := fun p hp => by
  have h1 := List.all_eq_true.mp hf p hp
  have h2 := fa_of c (f := .glo p.2) (List.mem_cons_of_mem _ <| List.mem_append_right _ (List.mem_append_right _ (List.mem_append_right _ (List.mem_append_right _ (List.mem_append_left _ (List.mem_map.mpr ⟨p, hp, rfl⟩))))))
  split at h1
  · rename_i d hd
    obtain ⟨y, fd, h4, F⟩ := here_of c h1
    exact ⟨d, y, _, fd, hd, h4, F, He.glo_ok X G h2⟩
  · cases h1
end
theorem noL_at : ∀ {K : PySem.W.Frag} {a : Addr} {o : Obj}, noL K = true → K.lookup a = some o → o.cls ≠ .type "list"
  | [], _, _, _, h => by cases h
  | (b, ob) :: K, a, o, hn, h => by
    unfold noL at hn
    simp only [List.all_cons, Bool.and_eq_true, decide_eq_true_eq] at hn
    rw [List.lookup_cons] at h
    split at h
    · cases h; exact hn.1
    · exact noL_at (K := K) (by unfold noL; exact hn.2) h
/-- what the law's def is shown to do -/
def spL (φ : List D → R D) (n : Nat) : Sp := fun vs H Q _ => ∃ G ds d, Same G H ∧ RpL G vs ds ∧ ds.length = n ∧ φ ds = .ok d ∧ ∀ v G' H', Step G H G' H' → Rp G' v d → Q v H'
theorem law_ok {s : St0} {P : Program} {w : World} {K : PySem.W.Frag} {mg : Str → Option Value} {base : Heap} {cl : Nat → Value} {T : List Df} {d : Df} {x : He.DefD} {fa : Addr} {fd : FuncData} {k : Nat} (T0 : TopOk s K mg cl) (Fs : FnsAt s P w K mg base cl T k)
    (F : FunD K x.name x.qual x.params x.body x.scope [] [] fa fd) (h : defOk s d x = true) : FnOk P w K mg base L2.CX0 (k + 1) fa fd (d.N.take d.ps) (spL (run (call T k) d) d.ps) := by
  unfold defOk at h
  obtain ⟨h1, h⟩ := an h
  obtain ⟨h2, h⟩ := an h
  obtain ⟨h3, h⟩ := an h
  obtain ⟨h4, h⟩ := an h
  obtain ⟨h5, h⟩ := an h
  obtain ⟨h6, h⟩ := an h
  obtain ⟨h7, h⟩ := an h
  obtain ⟨h8, h9⟩ := an h
  have h2 := of_decide_eq_true h2
  have h6 := of_decide_eq_true h6
  have hpl : (d.N.take d.ps).length = d.ps := by rw [List.length_take]; omega
  have S : FnScope d.N (d.N.take d.ps) x.scope := by
    refine ⟨of_decide_eq_true h3, by simpa using h4, by simpa using h5, h6, by rw [hpl], fun y hy => ?_, fun y hy => ?_⟩
    · have := List.all_eq_true.mp h7 y hy
      rcases (Bool.or_eq_true _ _).mp this with z | z
      · exact .inl (of_decide_eq_true z)
      · exact .inr (of_decide_eq_true z)
    · exact of_decide_eq_true (List.all_eq_true.mp h8 y hy)
  refine F.ok S (fun vs H Q E hsp => ?_) fun cdv A outer sh H vs Q E hr hsp => ?_
  · obtain ⟨G, ds, dd, e, q, hl, _⟩ := hsp
    rw [q.len, hl, hpl]
  · obtain ⟨G, ds, dd, e, q, hl, hrun, o⟩ := hsp
    have C : Ctx s (call T k) k cl (cxOf L2.CX0 P w K mg base d.N x.qual x.scope fa cdv A outer sh H E) ⟨d.N, x.scope, fun _ => true, true⟩ :=
      ⟨rfl, h6, rfl, rfl, rfl, fun _ => hr, T0.fr, T0.cs, Fs, T0.ex, T0.exm, T0.kd⟩
    refine ⟨_, soundS d.body _ _ W0 C takes0 (passes_of (K := fun _ _ => False) rfl) rfl rfl (of_decide_eq_true h3) _ h9, ?_⟩
    refine ⟨H, G, env0 d.N.length ds, rel_start e q (by omega), ?_⟩
    unfold run at hrun
    cases hr2 : evS (call T k) d.body (env0 d.N.length ds) with
    | nx env => rw [hr2] at hrun; cases hrun; exact fun σ G' H' u rel => o _ G' H' ⟨u.gg, rel.gh, rel.h0, u.no⟩ .non
    | rt dd => rw [hr2] at hrun; cases hrun; exact fun v G' H' u e1 e2 r => o v G' H' ⟨u.gg, e1, e2, u.no⟩ r
    | exc c env => rw [hr2] at hrun; cases hrun
    | bad => rw [hr2] at hrun; cases hrun
/-- THE END: a law by its mini text's meaning -/
theorem law_end {l : PySem.W.OpenLaw} {n k m : Nat} {q : Program} {loose : List Str} {XP : (Str → Option Value) → Heap → Prop} {d : DefRec} {s : St0} {T : List Df} {fn : List He.DefD} {L : Df} {x : Str}
    (hn : l.most = some n) (hn2 : n ≤ sizeLine) (hdf : d.params.defaults = []) (hr : Room (k + 1) callerA) (hnm : d.name = ("law" : Str)) (hx : exsOk s = true) (hf : fnsOk s T fn = true) (hh : fnHere s L "law" fn = true)
    (hN : L.N.take L.ps = [x]) (main : ∀ ns : List Int, ns.length ≤ n → run (call T k) L [scr ns] = .ok (.bool true)) :
    PySem.W.WalkO q loose XP (hookM m (faOf s) fn s).says l.row.toRowW d [] (fun f vs => PySem.call f vs) := by
  refine L2.walk_ofE (k := k + 1) (x := x) (CX := L2.CX0) hn hn2 hdf hr ?_ (fun H s e s' z => z)
  intro w mg fa h Y G hmg
  obtain ⟨K, KX, c, hno⟩ := Y
  obtain ⟨hno, hkd⟩ := an hno
  rw [hnm] at hmg
  obtain ⟨y, fd, hd, F⟩ := here_of c hh
  have hglo := He.glo_ok KX G (fa_of c (f := .glo "law") List.mem_cons_self)
  rw [hmg] at hglo
  cases hglo
  have T0 := top_of c KX G hx hkd
  have Fh := fns_of c KX G hf
  have hlen : L.ps = 1 := by
    have e := congrArg List.length hN
    rw [List.length_take] at e
    unfold defOk at hd
    have := of_decide_eq_true (an (an hd).2).1
    simp at e
    omega
  have bnd : ∀ (sh : Shared) (us : List Value), us.length = (L.N.take L.ps).length → BindsTo sh fd ⟨us, []⟩ ((L.N.take L.ps).zip us) := (def_ok (P := l.prog) (w := w) (base := h) T0 (fns_sound T0 Fh k) F hd).2.1
  refine ⟨K, fd, spL (run (call T k) L) L.ps, KX, fun sh u => ?_, fun H a ns hl hO hS => ?_, fun base hK hg => ?_⟩
  · have := bnd sh [u] (by rw [hN]; rfl)
    rw [hN] at this
    exact this
  · refine ⟨H, [scr ns], .bool true, Same.refl _, ?_, by rw [hlen]; rfl, main ns hl, fun v G' H' st q => by cases q; rfl⟩
    rcases hS with (z | ⟨o, z⟩) | ⟨o, its, j, hk, hc, _⟩
    · rcases hO a with e | ⟨o, xs, e⟩
      · rw [z] at e; cases e
      · rw [z] at e; cases e
    · exact .cons (.scr z) .nil
    · exact absurd hc (noL_at hno hk)
  · have := law_ok (P := l.prog) (w := w) (base := base) T0 (fns_sound T0 Fh k) F hd
    rw [hN] at this
    exact this
end M

set_option linter.all false
set_option maxRecDepth 100000
/-! the shared defs as mini texts, printed by gen.py -/
namespace M
open PySem
abbrev f_is_within : Nat := 0
abbrev f_is_origin : Nat := 1
abbrev f_ends_of : Nat := 2
abbrev f_is_map : Nat := 3
abbrev f_checked : Nat := 4
abbrev f_led : Nat := 5
abbrev f_leads_of : Nat := 6
abbrev f_leads : Nat := 7
abbrev f_lead : Nat := 8
abbrev f_goes_on : Nat := 9
abbrev f_map_of : Nat := 10
abbrev f_least : Nat := 11
abbrev f_law_cell : Nat := 12
abbrev f_law_seed : Nat := 13
abbrev f_law_pick : Nat := 14
abbrev f_law_leads : Nat := 15
abbrev f_law_least : Nat := 16
abbrev f_law_goes_on : Nat := 17
abbrev f_law_map : Nat := 18
abbrev f_law_drawn : Nat := 19
abbrev f_law_once : Nat := 20
abbrev f_are_alike : Nat := 21
abbrev f_law_mix : Nat := 22
abbrev f_look_stretch : Nat := 23
abbrev f_cut : Nat := 24
abbrev f_joined : Nat := 25
abbrev f_exchanged : Nat := 26
abbrev f_whole : Nat := 27
abbrev f_through : Nat := 28
abbrev f_behind : Nat := 29
abbrev f_law_low : Nat := 30
abbrev f_renumbered : Nat := 31
abbrev f_look_sign : Nat := 32
abbrev f_back : Nat := 33
abbrev f_turned : Nat := 34
abbrev f_law_no_sign : Nat := 35
abbrev f_shares : Nat := 36
abbrev f_is_text : Nat := 37
abbrev f_look_texts : Nat := 38
abbrev f_is_deed : Nat := 39
abbrev f_piece_of : Nat := 40
abbrev f_made : Nat := 41
abbrev f_law_text : Nat := 42
abbrev f_law_made : Nat := 43
abbrev f_law_made_edges : Nat := 44
abbrev f_law_copied : Nat := 45
abbrev f_are_edits : Nat := 46
abbrev f_look_edits : Nat := 47
abbrev f_changed : Nat := 48
abbrev f_undone : Nat := 49
abbrev f_moved : Nat := 50
abbrev f_law_edits : Nat := 51
abbrev f_law_no_edits : Nat := 52
abbrev f_spot : Nat := 53
abbrev f_place_of : Nat := 54
abbrev f_code_of : Nat := 55
abbrev f_doubled : Nat := 56
abbrev f_halved : Nat := 57
abbrev f_code : Nat := 58
abbrev f_number_at : Nat := 59
abbrev f_decode : Nat := 60
abbrev f_law_whole : Nat := 61
abbrev f_law_signs : Nat := 62
abbrev f_law_groups : Nat := 63
abbrev f_law_code : Nat := 64
abbrev f_law_is_code : Nat := 65
abbrev f_written : Nat := 66
abbrev f_piece_at : Nat := 67
abbrev f_read : Nat := 68
abbrev f_law_asks : Nat := 69
abbrev f_law_deeds_of : Nat := 70
abbrev f_law_kinds_of : Nat := 71
abbrev f_law_of_map : Nat := 72
abbrev f_wall : Nat := 73
abbrev f_overlaid : Nat := 74
abbrev f_without : Nat := 75
abbrev f_agreed : Nat := 76
abbrev f_mirrored : Nat := 77
abbrev f_doubles : Nat := 78
abbrev f_clashes_of : Nat := 79
abbrev f_clashes : Nat := 80
abbrev f_put_in_order : Nat := 81
abbrev f_merged : Nat := 82
abbrev f_longest : Nat := 83
abbrev f_look_short : Nat := 84
abbrev f_in_common : Nat := 85
abbrev f_edits_between : Nat := 86
abbrev f_law_told_of : Nat := 87
abbrev f_law_told_word : Nat := 88
abbrev f_law_clashes : Nat := 89
abbrev f_law_hands : Nat := 90
abbrev f_law_common : Nat := 91
abbrev f_law_short : Nat := 92
abbrev f_law_draft : Nat := 93
abbrev f_law_no_place : Nat := 94
abbrev f_law_short2 : Nat := 95
abbrev f_law_twin : Nat := 96
def b_is_within : S := .ret (.and (.isi (.var 0) .int) (.and (.not (.isi (.var 0) .bool)) (.one (.chain .LtE .LtE (.var 1) (.var 0) (.var 2))))) .nil
def d_is_within : Df := ⟨"is_within", 3, ["thing", "low", "high"], b_is_within⟩
def b_is_origin : S := .ite (.isn (.var 0) false) (.ret (.bl true) .nil) .nil (.ite (.or (.not (.isi (.var 0) .tuple)) (.or (.cmp .NotEq (.bi .len (.cons (.var 0) .nil)) (.int 3)) (.one (.not (.isi (.idx (.var 0) (.int 0)) .str))))) (.ret (.bl false) .nil) .nil (.ite (.or (.not (.call f_is_within (.cons (.idx (.var 0) (.int 1)) (.cons (.int 0) (.cons (.cst "MOST_SOURCE" (.int 9)) .nil))))) (.one (.not (.call f_is_within (.cons (.idx (.var 0) (.int 2)) (.cons (.int 0) (.cons (.cst "MOST_AT" (.int 9999)) .nil))))))) (.ret (.bl false) .nil) .nil (.ret (.or (.cmp .Eq (.idx (.var 0) (.int 0)) (.str "point")) (.one (.and (.cmp .Eq (.idx (.var 0) (.int 0)) (.str "along")) (.one (.cmp .LtE (.bin .Sub (.bin .Add (.idx (.var 0) (.int 2)) (.var 1)) (.int 1)) (.cst "MOST_AT" (.int 9999))))))) .nil)))
def d_is_origin : Df := ⟨"is_origin", 2, ["thing", "size"], b_is_origin⟩
def b_ends_of : S := .new 2 (.lst .nil) (.frl (.name 3) (.seq (.var 0)) (.ite (.or (.not (.isi (.var 3) .tuple)) (.or (.cmp .NotEq (.bi .len (.cons (.var 3) .nil)) (.int 2)) (.one (.not (.call f_is_within (.cons (.idx (.var 3) (.int 0)) (.cons (.int 0) (.cons (.bin .Sub (.var 1) (.int 1)) .nil)))))))) (.ret .non .nil) .nil (.app 2 (.idx (.var 3) (.int 0)) .nil)) (.ite (.or (.cmp .NotEq (.sl (.ow 2) .none (.some (.int 1))) (.sl (.lst (.cons (.int 0) .nil)) .none (.some (.var 1)))) (.one (.comp (.var 4) (.name 4) (.rng2 (.int 1) (.bi .len (.cons (.ow 2) .nil))) (.some (.cmp .GtE (.idx (.ow 2) (.bin .Sub (.var 4) (.int 1))) (.idx (.ow 2) (.var 4))))))) (.ret .non .nil) .nil (.ret (.bin .Add (.sl (.ow 2) (.some (.int 1)) .none) (.sl (.lst (.cons (.var 1) .nil)) .none (.some (.bi .len (.cons (.ow 2) .nil))))) .nil)))
def d_ends_of : Df := ⟨"ends_of", 2, ["pieces", "size", "begins", "piece", "at"], b_ends_of⟩
def b_is_map : S := .ite (.or (.not (.isi (.var 0) .tuple)) (.or (.cmp .NotEq (.bi .len (.cons (.var 0) .nil)) (.int 2)) (.one (.not (.call f_is_within (.cons (.idx (.var 0) (.int 0)) (.cons (.int 0) (.cons (.cst "MOST_SIZE" (.int 1000)) .nil)))))))) (.ret (.bl false) .nil) .nil (.ite (.not (.isi (.idx (.var 0) (.int 1)) .tuple)) (.ret (.bl false) .nil) .nil (.asg (.name 1) (.call f_ends_of (.cons (.idx (.var 0) (.int 1)) (.cons (.idx (.var 0) (.int 0)) .nil))) (.ite (.isn (.var 1) false) (.ret (.bl false) .nil) .nil (.ret (.not (.comp (.int 1) (.t2 (.t2 (.name 3) (.name 4)) (.name 2)) (.zip (.idx (.var 0) (.int 1)) (.var 1)) (.some (.not (.call f_is_origin (.cons (.var 4) (.cons (.bin .Sub (.var 2) (.var 3)) .nil))))))) .nil))))
def d_is_map : Df := ⟨"is_map", 1, ["thing", "ends", "end", "begin", "origin"], b_is_map⟩
def b_checked : S := .ite (.not (.call f_is_map (.cons (.var 0) .nil))) (.rse 0 .nil) .nil (.ret (.var 0) .nil)
def d_checked : Df := ⟨"checked", 1, ["one"], b_checked⟩
def b_led : S := .ite (.isn (.var 0) false) (.ret .non .nil) .nil (.ret (.tup (.cons (.idx (.var 0) (.int 1)) (.cons (.bin .Add (.idx (.var 0) (.int 2)) (.ife (.cmp .Eq (.idx (.var 0) (.int 0)) (.str "along")) (.var 1) (.int 0))) .nil))) .nil)
def d_led : Df := ⟨"led", 2, ["origin", "far"], b_led⟩
def b_leads_of : S := .new 1 (.lst .nil) (.frl (.t2 (.t2 (.name 2) (.name 3)) (.name 4)) (.zip (.idx (.var 0) (.int 1)) (.call f_ends_of (.cons (.idx (.var 0) (.int 1)) (.cons (.idx (.var 0) (.int 0)) .nil)))) (.ext 1 (.comp (.call f_led (.cons (.var 3) (.cons (.var 5) .nil))) (.name 5) (.rng1 (.bin .Sub (.var 4) (.var 2))) .none) .nil) (.frz 1 (.ret (.var 1) .nil)))
def d_leads_of : Df := ⟨"leads_of", 1, ["one", "found", "begin", "origin", "end", "far"], b_leads_of⟩
def b_leads : S := .ret (.call f_leads_of (.cons (.call f_checked (.cons (.var 0) .nil)) .nil)) .nil
def d_leads : Df := ⟨"leads", 1, ["one"], b_leads⟩
def b_lead : S := .exp (.call f_checked (.cons (.var 0) .nil)) (.ite (.not (.call f_is_within (.cons (.var 1) (.cons (.int 0) (.cons (.bin .Sub (.idx (.var 0) (.int 0)) (.int 1)) .nil))))) (.rse 1 .nil) .nil (.ret (.idx (.call f_leads_of (.cons (.var 0) .nil)) (.var 1)) .nil))
def d_lead : Df := ⟨"lead", 2, ["one", "place"], b_lead⟩
def b_goes_on : S := .asg (.name 3) (.int 1) (.whl (.and (.cmp .Lt (.bin .Add (.var 1) (.var 3)) (.bi .len (.cons (.var 0) .nil))) (.one (.cmp .Eq (.idx (.var 0) (.bin .Add (.var 1) (.var 3))) (.tup (.cons (.idx (.idx (.var 0) (.var 1)) (.int 0)) (.cons (.bin .Add (.idx (.idx (.var 0) (.var 1)) (.int 1)) (.bin .Mult (.var 2) (.var 3))) .nil)))))) (.aug 3 .Add (.int 1) .nil) (.ret (.var 3) .nil))
def d_goes_on : Df := ⟨"goes_on", 3, ["some", "at", "step", "many"], b_goes_on⟩
def b_map_of : S := .new 1 (.lst .nil) (.asg (.name 2) (.int 0) (.whl (.cmp .Lt (.var 2) (.bi .len (.cons (.var 0) .nil))) (.ite (.isn (.idx (.var 0) (.var 2)) false) (.asg (.name 3) (.int 1) (.whl (.and (.cmp .Lt (.bin .Add (.var 2) (.var 3)) (.bi .len (.cons (.var 0) .nil))) (.one (.isn (.idx (.var 0) (.bin .Add (.var 2) (.var 3))) false))) (.aug 3 .Add (.int 1) .nil) (.app 1 (.tup (.cons (.var 2) (.cons .non .nil))) .nil))) (.asg (.name 3) (.call f_goes_on (.cons (.var 0) (.cons (.var 2) (.cons (.int 0) .nil)))) (.ite (.cmp .Eq (.var 3) (.int 1)) (.asg (.name 3) (.call f_goes_on (.cons (.var 0) (.cons (.var 2) (.cons (.int 1) .nil)))) (.app 1 (.tup (.cons (.var 2) (.cons (.bin .Add (.tup (.cons (.str "along") .nil)) (.idx (.var 0) (.var 2))) .nil))) .nil)) (.app 1 (.tup (.cons (.var 2) (.cons (.bin .Add (.tup (.cons (.str "point") .nil)) (.idx (.var 0) (.var 2))) .nil))) .nil) .nil)) (.aug 2 .Add (.var 3) .nil)) (.ret (.tup (.cons (.bi .len (.cons (.var 0) .nil)) (.cons (.bi .tuple (.cons (.ow 1) .nil)) .nil))) .nil)))
def d_map_of : Df := ⟨"map_of", 1, ["some", "pieces", "at", "many"], b_map_of⟩
def b_least : S := .ret (.call f_map_of (.cons (.call f_leads (.cons (.var 0) .nil)) .nil)) .nil
def d_least : Df := ⟨"least", 1, ["one"], b_least⟩
def b_law_cell : S := .ite (.cmp .Lt (.var 1) (.bi .len (.cons (.var 0) .nil))) (.ret (.idx (.var 0) (.var 1)) .nil) .nil (.ret (.int 0) .nil)
def d_law_cell : Df := ⟨"_law_cell", 2, ["script", "k"], b_law_cell⟩
def b_law_seed : S := .ret (.bin .Mod (.bin .Pow (.bin .Mod (.bin .Add (.bin .Add (.bin .Mult (.var 0) (.int 1103515245)) (.bin .Mult (.int 7919) (.var 1))) (.int 12345)) (.int 2147483647)) (.int 5)) (.int 2147483647)) .nil
def d_law_seed : Df := ⟨"_law_seed", 2, ["seed", "k"], b_law_seed⟩
def b_law_pick : S := .ret (.bin .Mod (.bin .FloorDiv (.var 0) (.int 97)) (.var 1)) .nil
def d_law_pick : Df := ⟨"_law_pick", 2, ["seed", "many"], b_law_pick⟩
def b_law_leads : S := .asg (.name 2) (.lst .nil) (.asg (.name 3) (.int 0) (.whl (.cmp .Lt (.bi .len (.cons (.var 2) .nil)) (.idx (.lst (.cons (.var 1) (.cons (.bin .Mod (.bin .FloorDiv (.var 0) (.int 7)) (.bin .Add (.var 1) (.int 1))) (.cons (.bin .Mod (.bin .FloorDiv (.var 0) (.int 7)) (.int 4)) .nil)))) (.call f_law_pick (.cons (.var 0) (.cons (.int 3) .nil))))) (.asg (.name 4) (.call f_law_seed (.cons (.var 0) (.cons (.var 3) .nil))) (.asg (.name 5) (.bin .Add (.int 1) (.idx (.lst (.cons (.int 0) (.cons (.bin .Mod (.bin .FloorDiv (.var 4) (.int 5)) (.int 9)) (.cons (.bin .Mod (.bin .FloorDiv (.var 4) (.int 5)) (.int 3)) .nil)))) (.call f_law_pick (.cons (.var 4) (.cons (.int 3) .nil))))) (.asg (.name 6) (.bin .Mod (.bin .FloorDiv (.var 4) (.int 11)) (.idx (.lst (.cons (.int 10) (.cons (.int 2) .nil))) (.bin .Mod (.bin .FloorDiv (.var 4) (.int 3)) (.int 2)))) (.asg (.name 7) (.idx (.lst (.cons (.bin .Mod (.bin .FloorDiv (.var 4) (.int 13)) (.int 10)) (.cons (.bin .Mod (.bin .FloorDiv (.var 4) (.int 13)) (.bin .Sub (.int 9999) (.var 5))) (.cons (.bin .Sub (.int 9999) (.var 5)) .nil)))) (.bin .Mod (.bin .FloorDiv (.var 4) (.int 17)) (.int 3))) (.ite (.cmp .Eq (.bin .Mod (.bin .FloorDiv (.var 4) (.int 19)) (.int 4)) (.int 0)) (.asg (.name 2) (.bin .Add (.var 2) (.bin .Mult (.lst (.cons .non .nil)) (.var 5))) .nil) (.ite (.cmp .Eq (.bin .Mod (.bin .FloorDiv (.var 4) (.int 19)) (.int 4)) (.int 1)) (.asg (.name 2) (.bin .Add (.var 2) (.bin .Mult (.lst (.cons (.tup (.cons (.var 6) (.cons (.var 7) .nil))) .nil)) (.var 5))) .nil) (.asg (.name 2) (.bin .Add (.var 2) (.comp (.tup (.cons (.var 6) (.cons (.bin .Add (.var 7) (.var 8)) .nil))) (.name 8) (.rng1 (.var 5)) .none)) .nil) .nil) (.aug 3 .Add (.int 1) .nil)))))) (.ret (.sl (.var 2) .none (.some (.var 1))) .nil)))
def d_law_leads : Df := ⟨"_law_leads", 2, ["seed", "most", "found", "k", "one", "many", "source", "at", "j"], b_law_leads⟩
def b_law_least : S := .new 1 (.lst .nil) (.frl (.t2 (.name 2) (.name 3)) (.enum (.var 0)) (.ite (.and (.cmp .Gt (.var 2) (.int 0)) (.one (.call f_law_goes_on (.cons (.idx (.ow 1) (.neg (.int 1))) (.cons (.var 0) (.cons (.var 2) .nil)))))) (.ite (.and (.isn (.idx (.idx (.ow 1) (.neg (.int 1))) (.int 1)) true) (.and (.cmp .Eq (.bin .Sub (.var 2) (.idx (.idx (.ow 1) (.neg (.int 1))) (.int 0))) (.int 1)) (.one (.cmp .Eq (.var 3) (.idx (.var 0) (.bin .Sub (.var 2) (.int 1))))))) (.seti 1 (.neg (.int 1)) (.tup (.cons (.bin .Sub (.var 2) (.int 1)) (.cons (.bin .Add (.tup (.cons (.str "point") .nil)) (.var 3)) .nil))) .nil) .nil .nil) (.app 1 (.tup (.cons (.var 2) (.cons (.ife (.isn (.var 3) false) .non (.bin .Add (.tup (.cons (.str "along") .nil)) (.var 3))) .nil))) .nil) .nil) (.ret (.tup (.cons (.bi .len (.cons (.var 0) .nil)) (.cons (.bi .tuple (.cons (.ow 1) .nil)) .nil))) .nil))
def d_law_least : Df := ⟨"_law_least", 1, ["some", "pieces", "k", "told"], b_law_least⟩
def b_law_goes_on : S := .asg (.t2 (.name 3) (.name 4)) (.var 0) (.asg (.name 5) (.idx (.var 1) (.var 2)) (.ite (.or (.isn (.var 4) false) (.one (.isn (.var 5) false))) (.ret (.and (.isn (.var 4) false) (.one (.isn (.var 5) false))) .nil) .nil (.ite (.and (.cmp .Eq (.bin .Sub (.var 2) (.var 3)) (.int 1)) (.one (.cmp .Eq (.var 5) (.idx (.var 1) (.var 3))))) (.ret (.bl true) .nil) .nil (.ite (.cmp .Eq (.idx (.var 4) (.int 0)) (.str "point")) (.ret (.cmp .Eq (.var 5) (.idx (.var 1) (.var 3))) .nil) .nil (.ret (.cmp .Eq (.var 5) (.tup (.cons (.idx (.var 4) (.int 1)) (.cons (.bin .Sub (.bin .Add (.idx (.var 4) (.int 2)) (.var 2)) (.var 3)) .nil)))) .nil)))))
def d_law_goes_on : Df := ⟨"_law_goes_on", 3, ["piece", "some", "k", "begin", "origin", "told"], b_law_goes_on⟩
def b_law_map : S := .new 2 (.lst .nil) (.frl (.t2 (.name 3) (.name 4)) (.seq (.idx (.call f_law_least (.cons (.var 0) .nil)) (.int 1))) (.app 2 (.tup (.cons (.var 3) (.cons (.var 4) .nil))) .nil) (.new 5 (.lst .nil) (.asg (.name 6) (.bin .Add (.comp (.idx (.var 9) (.int 0)) (.name 9) (.seq (.sl (.ow 2) (.some (.int 1)) .none)) .none) (.lst (.cons (.bi .len (.cons (.var 0) .nil)) .nil))) (.frz 2 (.frl (.t2 (.t2 (.name 3) (.name 4)) (.name 7)) (.zip (.var 2) (.var 6)) (.app 5 (.tup (.cons (.var 3) (.cons (.var 4) .nil))) (.asg (.name 8) (.bin .Add (.bin .Add (.var 3) (.int 1)) (.bin .Mod (.bin .FloorDiv (.var 1) (.int 7)) (.int 3))) (.ite (.and (.cmp .Gt (.bin .Mod (.bin .FloorDiv (.var 1) (.int 11)) (.int 3)) (.int 0)) (.one (.cmp .Lt (.var 8) (.var 7)))) (.ite (.and (.isn (.var 4) true) (.one (.cmp .Eq (.idx (.var 4) (.int 0)) (.str "along")))) (.app 5 (.tup (.cons (.var 8) (.cons (.tup (.cons (.str "along") (.cons (.idx (.var 4) (.int 1)) (.cons (.bin .Sub (.bin .Add (.idx (.var 4) (.int 2)) (.var 8)) (.var 3)) .nil)))) .nil))) .nil) (.app 5 (.tup (.cons (.var 8) (.cons (.var 4) .nil))) .nil) .nil) .nil .nil))) (.ret (.tup (.cons (.bi .len (.cons (.var 0) .nil)) (.cons (.bi .tuple (.cons (.ow 5) .nil)) .nil))) .nil))))))
def d_law_map : Df := ⟨"_law_map", 2, ["some", "seed", "pieces", "begin", "origin", "found", "ends", "end", "at", "piece"], b_law_map⟩
def b_law_drawn : S := .asg (.name 3) (.bin .Mult (.var 2) (.idx (.lst (.cons (.int 1) (.cons (.int 5) .nil))) (.bi .toInt (.cons (.cmp .Eq (.bin .Mod (.call f_law_cell (.cons (.var 0) (.cons (.bin .Add (.var 1) (.int 1)) .nil))) (.int 23)) (.int 0)) .nil)))) (.asg (.name 4) (.call f_law_leads (.cons (.call f_law_seed (.cons (.call f_law_cell (.cons (.var 0) (.cons (.var 1) .nil))) (.cons (.var 1) .nil))) (.cons (.var 3) .nil))) (.ret (.tup (.cons (.var 4) (.cons (.call f_law_map (.cons (.var 4) (.cons (.call f_law_seed (.cons (.call f_law_cell (.cons (.var 0) (.cons (.bin .Add (.var 1) (.int 1)) .nil))) (.cons (.bin .Add (.var 1) (.int 1)) .nil))) .nil))) .nil))) .nil))
def d_law_drawn : Df := ⟨"_law_drawn", 3, ["script", "at", "most", "large", "some"], b_law_drawn⟩
def b_law_once : S := .asg (.t2 (.name 1) (.name 2)) (.call f_law_drawn (.cons (.var 0) (.cons (.int 0) (.cons (.int 60) .nil)))) (.ite (.or (.cmp .NotEq (.call f_checked (.cons (.var 2) .nil)) (.var 2)) (.or (.cmp .NotEq (.call f_leads (.cons (.var 2) .nil)) (.var 1)) (.one (.not (.isi (.call f_leads (.cons (.var 2) .nil)) .list))))) (.ret (.bl false) .nil) .nil (.frl (.name 3) (.rng1 (.bi .len (.cons (.var 1) .nil))) (.ite (.cmp .NotEq (.call f_lead (.cons (.var 2) (.cons (.var 3) .nil))) (.idx (.var 1) (.var 3))) (.ret (.bl false) .nil) .nil .nil) (.asg (.t2 (.name 4) (.name 5)) (.var 2) (.asg (.name 6) (.lst (.cons (.tup (.cons (.int 3) (.cons (.tup .nil) .nil))) (.cons (.tup (.cons (.int 0) (.cons (.tup (.cons (.tup (.cons (.int 0) (.cons .non .nil))) .nil)) .nil))) (.cons (.tup (.cons (.int 2) (.cons (.tup (.cons (.tup (.cons (.int 1) (.cons .non .nil))) .nil)) .nil))) (.cons (.tup (.cons (.int 2) (.cons (.tup (.cons (.tup (.cons (.int 0) (.cons .non .nil))) (.cons (.tup (.cons (.int 0) (.cons .non .nil))) .nil))) .nil))) (.cons (.tup (.cons (.int 2) (.cons (.tup (.cons (.tup (.cons (.int 0) (.cons .non .nil))) (.cons (.tup (.cons (.int 2) (.cons .non .nil))) .nil))) .nil))) .nil)))))) (.asg (.name 6) (.bin .Add (.var 6) (.lst (.cons (.tup (.cons (.int 2) (.cons (.tup (.cons (.tup (.cons (.int 0) (.cons (.tup (.cons (.str "along") (.cons (.int 10) (.cons (.int 0) .nil)))) .nil))) .nil)) .nil))) (.cons (.tup (.cons (.int 2) (.cons (.tup (.cons (.tup (.cons (.int 0) (.cons (.tup (.cons (.str "along") (.cons (.int 0) (.cons (.int 9999) .nil)))) .nil))) .nil)) .nil))) (.cons (.tup (.cons (.int 2) (.cons (.tup (.cons (.tup (.cons (.int 0) (.cons (.tup (.cons (.str "point") (.cons (.int 0) (.cons (.int 10000) .nil)))) .nil))) .nil)) .nil))) .nil))))) (.asg (.name 6) (.bin .Add (.var 6) (.lst (.cons (.tup (.cons (.int 2) (.cons (.tup (.cons (.tup (.cons (.int 0) (.cons (.tup (.cons (.str "near") (.cons (.int 0) (.cons (.int 0) .nil)))) .nil))) .nil)) .nil))) (.cons (.tup (.cons (.int 2) (.cons (.tup (.cons (.tup (.cons (.int 0) (.cons (.tup (.cons (.str "along") (.cons (.int 0) .nil))) .nil))) .nil)) .nil))) (.cons (.tup (.cons (.int 2) (.cons (.tup (.cons (.tup (.cons (.bl true) (.cons .non .nil))) .nil)) .nil))) (.cons (.tup (.cons (.int 1001) (.cons (.tup (.cons (.tup (.cons (.int 0) (.cons .non .nil))) .nil)) .nil))) .nil)))))) (.asg (.name 6) (.bin .Add (.var 6) (.lst (.cons (.lst (.cons (.var 4) (.cons (.var 5) .nil))) (.cons .non (.cons (.tup (.cons (.var 4) (.cons (.bi .list (.cons (.var 5) .nil)) .nil))) (.cons (.tup (.cons (.var 4) (.cons (.var 5) (.cons (.int 0) .nil)))) .nil)))))) (.asg (.name 7) (.int 0) (.frl (.name 8) (.rng1 (.int 3)) (.try [0] (.ite (.cmp .Eq (.var 8) (.int 0)) (.exp (.call f_leads (.cons (.idx (.var 6) (.bin .Mod (.call f_law_cell (.cons (.var 0) (.cons (.int 2) .nil))) (.int 16))) .nil)) .nil) (.ite (.cmp .Eq (.var 8) (.int 1)) (.exp (.call f_least (.cons (.idx (.var 6) (.bin .Mod (.call f_law_cell (.cons (.var 0) (.cons (.int 2) .nil))) (.int 16))) .nil)) .nil) (.exp (.call f_lead (.cons (.idx (.var 6) (.bin .Mod (.call f_law_cell (.cons (.var 0) (.cons (.int 2) .nil))) (.int 16))) (.cons .non .nil))) .nil) .nil) .nil) (.cons 0 (.aug 7 .Add (.int 1) .nil) .nil) .nil) (.try [1] (.exp (.call f_lead (.cons (.var 2) (.cons (.idx (.lst (.cons (.var 4) (.cons (.neg (.int 1)) (.cons .non (.cons (.bl true) (.cons (.str "0") .nil)))))) (.bin .Mod (.call f_law_cell (.cons (.var 0) (.cons (.int 3) .nil))) (.int 5))) .nil))) .nil) (.cons 1 (.aug 7 .Add (.int 1) .nil) .nil) (.ret (.and (.cmp .Eq (.var 7) (.int 4)) (.one (.cmp .Eq (.call f_leads (.cons (.tup (.cons (.int 1) (.cons (.tup (.cons (.tup (.cons (.int 0) (.cons (.tup (.cons (.str "along") (.cons (.int 0) (.cons (.int 9999) .nil)))) .nil))) .nil)) .nil))) .nil)) (.lst (.cons (.tup (.cons (.int 0) (.cons (.int 9999) .nil))) .nil))))) .nil)))))))))))
def d_law_once : Df := ⟨"_law_once", 1, ["script", "some", "one", "place", "size", "pieces", "odd", "caught", "way"], b_law_once⟩
def b_are_alike : S := .ret (.cmp .Eq (.call f_least (.cons (.var 0) .nil)) (.call f_least (.cons (.var 1) .nil))) .nil
def d_are_alike : Df := ⟨"are_alike", 2, ["one", "other"], b_are_alike⟩
def b_law_mix : S := .ret (.bin .Mod (.bin .Mod (.bin .Pow (.bin .Mod (.bin .Mult (.var 0) (.int 48271)) (.var 1)) (.int 3)) (.var 1)) (.var 2)) .nil
def d_law_mix : Df := ⟨"_law_mix", 3, ["cell", "prime", "many"], b_law_mix⟩
def b_look_stretch : S := .ite (.or (.not (.call f_is_within (.cons (.var 1) (.cons (.int 0) (.cons (.idx (.var 0) (.int 0)) .nil))))) (.one (.not (.call f_is_within (.cons (.var 2) (.cons (.var 1) (.cons (.idx (.var 0) (.int 0)) .nil))))))) (.rse 1 .nil) .nil .nil
def d_look_stretch : Df := ⟨"look_stretch", 3, ["one", "begin", "end"], b_look_stretch⟩
def b_cut : S := .exp (.call f_checked (.cons (.var 0) .nil)) (.exp (.call f_look_stretch (.cons (.var 0) (.cons (.var 1) (.cons (.var 2) .nil)))) (.ret (.call f_map_of (.cons (.sl (.call f_leads_of (.cons (.var 0) .nil)) (.some (.var 1)) (.some (.var 2))) .nil)) .nil))
def d_cut : Df := ⟨"cut", 3, ["one", "begin", "end"], b_cut⟩
def b_joined : S := .exp (.call f_checked (.cons (.var 0) .nil)) (.exp (.call f_checked (.cons (.var 1) .nil)) (.ite (.cmp .Gt (.bin .Add (.idx (.var 0) (.int 0)) (.idx (.var 1) (.int 0))) (.cst "MOST_SIZE" (.int 1000))) (.rse 5 .nil) .nil (.ret (.call f_map_of (.cons (.bin .Add (.call f_leads_of (.cons (.var 0) .nil)) (.call f_leads_of (.cons (.var 1) .nil))) .nil)) .nil)))
def d_joined : Df := ⟨"joined", 2, ["one", "other"], b_joined⟩
def b_exchanged : S := .exp (.call f_checked (.cons (.var 0) .nil)) (.exp (.call f_checked (.cons (.var 3) .nil)) (.exp (.call f_look_stretch (.cons (.var 0) (.cons (.var 1) (.cons (.var 2) .nil)))) (.ite (.cmp .Gt (.bin .Add (.bin .Sub (.idx (.var 0) (.int 0)) (.bin .Sub (.var 2) (.var 1))) (.idx (.var 3) (.int 0))) (.cst "MOST_SIZE" (.int 1000))) (.rse 5 .nil) .nil (.asg (.name 4) (.call f_leads_of (.cons (.var 0) .nil)) (.ret (.call f_map_of (.cons (.bin .Add (.bin .Add (.sl (.var 4) .none (.some (.var 1))) (.call f_leads_of (.cons (.var 3) .nil))) (.sl (.var 4) (.some (.var 2)) .none)) .nil)) .nil)))))
def d_exchanged : Df := ⟨"exchanged", 4, ["one", "begin", "end", "other", "some"], b_exchanged⟩
def b_whole : S := .ite (.or (.not (.call f_is_within (.cons (.var 0) (.cons (.int 0) (.cons (.cst "MOST_SIZE" (.int 1000)) .nil))))) (.one (.not (.call f_is_within (.cons (.var 1) (.cons (.int 0) (.cons (.cst "MOST_SOURCE" (.int 9)) .nil))))))) (.rse 4 .nil) .nil (.ret (.call f_map_of (.cons (.comp (.tup (.cons (.var 1) (.cons (.var 2) .nil))) (.name 2) (.rng1 (.var 0)) .none) .nil)) .nil)
def d_whole : Df := ⟨"whole", 2, ["size", "source", "at"], b_whole⟩
def b_through : S := .ite (.or (.isn (.var 0) false) (.or (.cmp .GtE (.idx (.var 0) (.int 0)) (.bi .len (.cons (.var 1) .nil))) (.one (.cmp .GtE (.idx (.var 0) (.int 1)) (.bi .len (.cons (.idx (.var 1) (.idx (.var 0) (.int 0))) .nil)))))) (.ret .non .nil) .nil (.ret (.idx (.idx (.var 1) (.idx (.var 0) (.int 0))) (.idx (.var 0) (.int 1))) .nil)
def d_through : Df := ⟨"through", 2, ["told", "rows"], b_through⟩
def b_behind : S := .exp (.call f_checked (.cons (.var 0) .nil)) (.ite (.or (.not (.isi (.var 1) .tuple)) (.one (.comp (.var 3) (.name 3) (.seq (.var 1)) (.some (.not (.call f_is_map (.cons (.var 3) .nil))))))) (.rse 0 .nil) .nil (.asg (.name 2) (.comp (.call f_leads_of (.cons (.var 3) .nil)) (.name 3) (.seq (.var 1)) .none) (.ret (.call f_map_of (.cons (.comp (.call f_through (.cons (.var 4) (.cons (.var 2) .nil))) (.name 4) (.seq (.call f_leads_of (.cons (.var 0) .nil))) .none) .nil)) .nil)))
def d_behind : Df := ⟨"behind", 2, ["outer", "inners", "rows", "one", "told"], b_behind⟩
def b_law_low : S := .new 2 (.lst .nil) (.frl (.t2 (.name 3) (.name 4)) (.enum (.call f_law_leads (.cons (.call f_law_seed (.cons (.call f_law_cell (.cons (.var 0) (.cons (.var 1) .nil))) (.cons (.var 1) .nil))) (.cons (.int 40) .nil)))) (.app 2 (.ife (.isn (.var 4) false) .non (.tup (.cons (.bin .Mod (.idx (.var 4) (.int 0)) (.int 4)) (.cons (.bin .Mod (.idx (.var 4) (.int 1)) (.int 30)) .nil)))) .nil) (.frz 2 (.ret (.var 2) .nil)))
def d_law_low : Df := ⟨"_law_low", 2, ["script", "at", "found", "k", "told"], b_law_low⟩
def b_renumbered : S := .exp (.call f_checked (.cons (.var 0) .nil)) (.ite (.or (.not (.isi (.var 1) .tuple)) (.one (.comp (.var 4) (.name 4) (.seq (.var 1)) (.some (.not (.call f_is_within (.cons (.var 4) (.cons (.int 0) (.cons (.cst "MOST_SOURCE" (.int 9)) .nil))))))))) (.rse 4 .nil) .nil (.new 2 (.lst .nil) (.frl (.name 3) (.seq (.call f_leads_of (.cons (.var 0) .nil))) (.app 2 (.ife (.and (.isn (.var 3) true) (.one (.cmp .Lt (.idx (.var 3) (.int 0)) (.bi .len (.cons (.var 1) .nil))))) (.tup (.cons (.idx (.var 1) (.idx (.var 3) (.int 0))) (.cons (.idx (.var 3) (.int 1)) .nil))) .non) .nil) (.frz 2 (.ret (.call f_map_of (.cons (.var 2) .nil)) .nil)))))
def d_renumbered : Df := ⟨"renumbered", 2, ["one", "numbers", "found", "told", "number"], b_renumbered⟩
def b_look_sign : S := .ite (.or (.not (.call f_is_within (.cons (.var 0) (.cons (.int 0) (.cons (.cst "MOST_SOURCE" (.int 9)) .nil))))) (.one (.not (.call f_is_within (.cons (.var 1) (.cons (.int 0) (.cons (.cst "MOST_AT" (.int 9999)) .nil))))))) (.rse 4 .nil) .nil .nil
def d_look_sign : Df := ⟨"look_sign", 2, ["source", "at"], b_look_sign⟩
def b_back : S := .exp (.call f_checked (.cons (.var 0) .nil)) (.exp (.call f_look_sign (.cons (.var 1) (.cons (.var 2) .nil))) (.ret (.comp (.var 3) (.t2 (.name 3) (.name 4)) (.enum (.call f_leads_of (.cons (.var 0) .nil))) (.some (.cmp .Eq (.var 4) (.tup (.cons (.var 1) (.cons (.var 2) .nil)))))) .nil))
def d_back : Df := ⟨"back", 3, ["one", "source", "at", "place", "told"], b_back⟩
def b_turned : S := .exp (.call f_checked (.cons (.var 0) .nil)) (.exp (.call f_look_sign (.cons (.var 1) (.cons (.int 0) .nil))) (.ite (.not (.call f_is_within (.cons (.var 2) (.cons (.int 0) (.cons (.cst "MOST_SIZE" (.int 1000)) .nil))))) (.rse 4 .nil) .nil (.dnew 3 false (.frl (.t2 (.name 4) (.name 5)) (.enum (.call f_leads_of (.cons (.var 0) .nil))) (.ite (.and (.isn (.var 5) true) (.and (.cmp .Eq (.idx (.var 5) (.int 0)) (.var 1)) (.one (.dhas 3 (.idx (.var 5) (.int 1)) true)))) (.dset 3 (.idx (.var 5) (.int 1)) (.tup (.cons (.int 0) (.cons (.var 4) .nil))) .nil) .nil .nil) (.ret (.call f_map_of (.cons (.comp (.dget 3 (.var 6) .non) (.name 6) (.rng1 (.var 2)) .none) .nil)) .nil)))))
def d_turned : Df := ⟨"turned", 3, ["one", "source", "size", "firsts", "place", "told", "at"], b_turned⟩
def b_law_no_sign : S := .asg (.name 3) (.int 0) (.frl (.name 4) (.rng1 (.int 3)) (.try [4] (.ite (.cmp .Eq (.var 4) (.int 0)) (.exp (.call f_back (.cons (.var 0) (.cons (.idx (.var 1) (.int 0)) (.cons (.idx (.var 1) (.int 1)) .nil)))) .nil) (.ite (.cmp .Eq (.var 4) (.int 1)) (.exp (.call f_turned (.cons (.var 0) (.cons (.int 10) (.cons (.var 2) .nil)))) .nil) (.exp (.call f_turned (.cons (.var 0) (.cons (.int 0) (.cons (.var 2) .nil)))) .nil) .nil) .nil) (.cons 4 (.aug 3 .Add (.int 1) .nil) .nil) .nil) (.ret (.cmp .Eq (.var 3) (.int 3)) .nil))
def d_law_no_sign : Df := ⟨"_law_no_sign", 3, ["one", "bad", "size", "caught", "way"], b_law_no_sign⟩
def b_shares : S := .exp (.call f_checked (.cons (.var 0) .nil)) (.dnew 1 false (.asg (.name 2) (.int 0) (.frl (.name 3) (.seq (.call f_leads_of (.cons (.var 0) .nil))) (.ite (.isn (.var 3) false) (.aug 2 .Add (.int 1) .nil) (.dset 1 (.idx (.var 3) (.int 0)) (.bin .Add (.dget 1 (.idx (.var 3) (.int 0)) (.int 0)) (.int 1)) .nil) .nil) (.ret (.tup (.cons (.comp (.tup (.cons (.var 4) (.cons (.didx 1 (.var 4)) .nil))) (.name 4) (.seq (.dsorted 1)) .none) (.cons (.var 2) .nil))) .nil))))
def d_shares : Df := ⟨"shares", 1, ["one", "counts", "nowhere", "told", "source"], b_shares⟩
def b_is_text : S := .ret (.and (.isi (.var 0) .str) (.one (.cmp .LtE (.bi .len (.cons (.var 0) .nil)) (.cst "MOST_SIZE" (.int 1000))))) .nil
def d_is_text : Df := ⟨"is_text", 1, ["thing"], b_is_text⟩
def b_look_texts : S := .ite (.or (.not (.isi (.var 0) .tuple)) (.or (.cmp .Gt (.bi .len (.cons (.var 0) .nil)) (.bin .Add (.cst "MOST_SOURCE" (.int 9)) (.int 1))) (.one (.comp (.var 1) (.name 1) (.seq (.var 0)) (.some (.not (.call f_is_text (.cons (.var 1) .nil)))))))) (.rse 2 .nil) .nil .nil
def d_look_texts : Df := ⟨"look_texts", 1, ["sources", "one"], b_look_texts⟩
def b_is_deed : S := .ite (.or (.not (.isi (.var 0) .tuple)) (.or (.not (.var 0)) (.one (.not (.isi (.idx (.var 0) (.int 0)) .str))))) (.ret (.bl false) .nil) .nil (.ite (.cmp .Eq (.idx (.var 0) (.int 0)) (.str "put")) (.ret (.and (.cmp .Eq (.bi .len (.cons (.var 0) .nil)) (.int 2)) (.one (.call f_is_text (.cons (.idx (.var 0) (.int 1)) .nil)))) .nil) .nil (.ite (.cmp .NotEq (.bi .len (.cons (.var 0) .nil)) (.int 4)) (.ret (.bl false) .nil) .nil (.ite (.cmp .Eq (.idx (.var 0) (.int 0)) (.str "copy")) (.ite (.or (.not (.call f_is_within (.cons (.idx (.var 0) (.int 1)) (.cons (.int 0) (.cons (.bin .Sub (.bi .len (.cons (.var 1) .nil)) (.int 1)) .nil))))) (.one (.not (.call f_is_within (.cons (.idx (.var 0) (.int 2)) (.cons (.int 0) (.cons (.bi .len (.cons (.idx (.var 1) (.idx (.var 0) (.int 1))) .nil)) .nil))))))) (.ret (.bl false) .nil) .nil (.ret (.call f_is_within (.cons (.idx (.var 0) (.int 3)) (.cons (.idx (.var 0) (.int 2)) (.cons (.bi .len (.cons (.idx (.var 1) (.idx (.var 0) (.int 1))) .nil)) .nil)))) .nil)) .nil (.ite (.or (.cmp .NotEq (.idx (.var 0) (.int 0)) (.str "stand")) (.one (.not (.call f_is_text (.cons (.idx (.var 0) (.int 1)) .nil))))) (.ret (.bl false) .nil) .nil (.ret (.and (.call f_is_within (.cons (.idx (.var 0) (.int 2)) (.cons (.int 0) (.cons (.cst "MOST_SOURCE" (.int 9)) .nil)))) (.one (.call f_is_within (.cons (.idx (.var 0) (.int 3)) (.cons (.int 0) (.cons (.cst "MOST_AT" (.int 9999)) .nil)))))) .nil)))))
def d_is_deed : Df := ⟨"is_deed", 2, ["thing", "sources"], b_is_deed⟩
def b_piece_of : S := .ite (.cmp .Eq (.idx (.var 0) (.int 0)) (.str "put")) (.ret (.tup (.cons (.idx (.var 0) (.int 1)) (.cons (.bin .Mult (.lst (.cons .non .nil)) (.bi .len (.cons (.idx (.var 0) (.int 1)) .nil))) .nil))) .nil) .nil (.ite (.cmp .Eq (.idx (.var 0) (.int 0)) (.str "stand")) (.ret (.tup (.cons (.idx (.var 0) (.int 1)) (.cons (.bin .Mult (.lst (.cons (.tup (.cons (.idx (.var 0) (.int 2)) (.cons (.idx (.var 0) (.int 3)) .nil))) .nil)) (.bi .len (.cons (.idx (.var 0) (.int 1)) .nil))) .nil))) .nil) .nil (.asg (.t4 (.name 2) (.name 3) (.name 4) (.name 5)) (.var 0) (.ret (.tup (.cons (.sl (.idx (.var 1) (.var 3)) (.some (.var 4)) (.some (.var 5))) (.cons (.comp (.tup (.cons (.var 3) (.cons (.var 6) .nil))) (.name 6) (.rng2 (.var 4) (.var 5)) .none) .nil))) .nil)))
def d_piece_of : Df := ⟨"piece_of", 2, ["deed", "sources", "word", "source", "begin", "end", "at"], b_piece_of⟩
def b_made : S := .exp (.call f_look_texts (.cons (.var 0) .nil)) (.ite (.or (.not (.isi (.var 1) .tuple)) (.or (.cmp .Gt (.bi .len (.cons (.var 1) .nil)) (.cst "MOST_DEEDS" (.int 40))) (.one (.comp (.var 7) (.name 7) (.seq (.var 1)) (.some (.not (.call f_is_deed (.cons (.var 7) (.cons (.var 0) .nil))))))))) (.rse 3 .nil) .nil (.asg (.name 2) (.str "") (.asg (.name 3) (.lst .nil) (.frl (.name 4) (.seq (.var 1)) (.asg (.t2 (.name 5) (.name 6)) (.call f_piece_of (.cons (.var 4) (.cons (.var 0) .nil))) (.asg (.name 2) (.bin .Add (.var 2) (.var 5)) (.asg (.name 3) (.bin .Add (.var 3) (.var 6)) (.ite (.cmp .Gt (.bi .len (.cons (.var 2) .nil)) (.cst "MOST_SIZE" (.int 1000))) (.rse 5 .nil) .nil .nil)))) (.ret (.tup (.cons (.var 2) (.cons (.call f_map_of (.cons (.var 3) .nil)) .nil))) .nil)))))
def d_made : Df := ⟨"made", 2, ["sources", "deeds", "text", "some", "deed", "more", "origins", "one"], b_made⟩
def b_law_text : S := .asg (.name 2) (.str "ab c\nxy\nz.,") (.ret (.mt .join (.str "") (.cons (.comp (.idx (.var 2) (.call f_law_pick (.cons (.call f_law_seed (.cons (.var 0) (.cons (.var 3) .nil))) (.cons (.bi .len (.cons (.var 2) .nil)) .nil)))) (.name 3) (.rng1 (.bin .Mod (.bin .FloorDiv (.var 0) (.int 7)) (.bin .Add (.var 1) (.int 1)))) .none) .nil)) .nil)
def d_law_text : Df := ⟨"_law_text", 2, ["seed", "most", "signs", "k"], b_law_text⟩
def b_law_made : S := .new 4 (.lst .nil) (.frl (.name 5) (.rng1 (.call f_law_mix (.cons (.call f_law_cell (.cons (.var 0) (.cons (.var 1) .nil))) (.cons (.int 9949) (.cons (.bin .Add (.var 2) (.int 1)) .nil))))) (.asg (.name 6) (.call f_law_seed (.cons (.bin .Add (.call f_law_cell (.cons (.var 0) (.cons (.bin .Add (.bin .Add (.var 1) (.int 1)) (.bin .Mod (.var 5) (.int 4))) .nil))) (.bin .Mult (.int 43) (.var 5))) (.cons (.var 5) .nil))) (.asg (.name 7) (.bin .Mod (.bin .FloorDiv (.var 6) (.int 5)) (.bi .max (.cons (.int 1) (.cons (.bi .len (.cons (.var 3) .nil)) .nil)))) (.ite (.or (.cmp .Eq (.bin .Mod (.bin .FloorDiv (.var 6) (.int 3)) (.int 4)) (.int 0)) (.one (.cmp .Eq (.var 3) (.tup .nil)))) (.app 4 (.tup (.cons (.str "put") (.cons (.call f_law_text (.cons (.var 6) (.cons (.int 6) .nil))) .nil))) .nil) (.ite (.cmp .Eq (.bin .Mod (.bin .FloorDiv (.var 6) (.int 3)) (.int 4)) (.int 1)) (.app 4 (.tup (.cons (.str "stand") (.cons (.call f_law_text (.cons (.var 6) (.cons (.int 6) .nil))) (.cons (.bin .Mod (.bin .FloorDiv (.var 6) (.int 11)) (.int 10)) (.cons (.bin .Mod (.bin .FloorDiv (.var 6) (.int 13)) (.int 10000)) .nil))))) .nil) (.asg (.name 8) (.bin .Mod (.bin .FloorDiv (.var 6) (.int 11)) (.bin .Add (.bi .len (.cons (.idx (.var 3) (.var 7)) .nil)) (.int 1))) (.asg (.name 9) (.bin .Add (.var 8) (.bin .Mod (.bin .FloorDiv (.var 6) (.int 13)) (.bin .Sub (.bin .Add (.bi .len (.cons (.idx (.var 3) (.var 7)) .nil)) (.int 1)) (.var 8)))) (.app 4 (.tup (.cons (.str "copy") (.cons (.var 7) (.cons (.var 8) (.cons (.var 9) .nil))))) .nil))) .nil) .nil))) (.ret (.bi .tuple (.cons (.ow 4) .nil)) .nil))
def d_law_made : Df := ⟨"_law_made", 4, ["script", "at", "many", "sources", "found", "k", "seed", "source", "begin", "end"], b_law_made⟩
def b_law_made_edges : S := .asg (.name 1) (.call f_made (.cons (.bin .Mult (.tup (.cons (.str "") .nil)) (.int 10)) (.cons (.bin .Mult (.tup (.cons (.tup (.cons (.str "put") (.cons (.str "") .nil))) .nil)) (.int 40)) .nil))) (.ite (.cmp .NotEq (.var 1) (.tup (.cons (.str "") (.cons (.call f_law_least (.cons (.lst .nil) .nil)) .nil)))) (.ret (.bl false) .nil) .nil (.asg (.t2 (.name 2) (.name 3)) (.idx (.lst (.cons (.tup (.cons (.bin .Mult (.str "a") (.int 1000)) (.cons (.str "b") .nil))) (.cons (.tup (.cons (.bin .Mult (.str "a") (.int 999)) (.cons (.str "bc") .nil))) (.cons (.tup (.cons (.bin .Mult (.str "a") (.int 500)) (.cons (.bin .Mult (.str "b") (.int 501)) .nil))) .nil)))) (.var 0)) (.asg (.name 4) (.int 0) (.try [5] (.exp (.call f_made (.cons (.tup (.cons (.var 2) .nil)) (.cons (.tup (.cons (.tup (.cons (.str "copy") (.cons (.int 0) (.cons (.int 0) (.cons (.bi .len (.cons (.var 2) .nil)) .nil))))) (.cons (.tup (.cons (.str "put") (.cons (.var 3) .nil))) .nil))) .nil))) .nil) (.cons 5 (.asg (.name 4) (.int 1) .nil) .nil) (.asg (.name 5) (.call f_made (.cons (.tup (.cons (.var 2) .nil)) (.cons (.tup (.cons (.tup (.cons (.str "copy") (.cons (.int 0) (.cons (.int 0) (.cons (.bi .len (.cons (.var 2) .nil)) .nil))))) (.cons (.tup (.cons (.str "put") (.cons (.sl (.var 3) (.some (.int 1)) .none) .nil))) .nil))) .nil))) (.ret (.and (.cmp .Eq (.var 4) (.int 1)) (.one (.cmp .Eq (.idx (.var 5) (.int 0)) (.bin .Add (.var 2) (.sl (.var 3) (.some (.int 1)) .none))))) .nil))))))
def d_law_made_edges : Df := ⟨"_law_made_edges", 1, ["way", "empty", "one", "other", "caught", "less"], b_law_made_edges⟩
def b_law_copied : S := .asg (.name 3) (.int 0) (.frl (.name 4) (.seq (.call f_law_made (.cons (.var 0) (.cons (.int 5) (.cons (.int 8) (.cons (.var 2) .nil)))))) (.asg (.name 5) (.ife (.cmp .Eq (.idx (.var 4) (.int 0)) (.str "copy")) (.bin .Sub (.idx (.var 4) (.int 3)) (.idx (.var 4) (.int 2))) (.bi .len (.cons (.idx (.var 4) (.int 1)) .nil))) (.ite (.chain .LtE .Lt (.var 3) (.var 1) (.bin .Add (.var 3) (.var 5))) (.ret (.cmp .Eq (.idx (.var 4) (.int 0)) (.str "copy")) .nil) .nil (.aug 3 .Add (.var 5) .nil))) (.ret (.bl false) .nil))
def d_law_copied : Df := ⟨"_law_copied", 3, ["script", "place", "sources", "at", "deed", "size"], b_law_copied⟩
def b_are_edits : S := .ite (.or (.not (.isi (.var 0) .tuple)) (.one (.cmp .Gt (.bi .len (.cons (.var 0) .nil)) (.cst "MOST_EDITS" (.int 19))))) (.ret (.bl false) .nil) .nil (.asg (.name 2) (.int 0) (.frl (.name 3) (.seq (.var 0)) (.ite (.or (.not (.isi (.var 3) .tuple)) (.or (.cmp .NotEq (.bi .len (.cons (.var 3) .nil)) (.int 3)) (.one (.not (.call f_is_text (.cons (.idx (.var 3) (.int 2)) .nil)))))) (.ret (.bl false) .nil) .nil (.ite (.or (.not (.call f_is_within (.cons (.idx (.var 3) (.int 0)) (.cons (.var 2) (.cons (.var 1) .nil))))) (.one (.not (.call f_is_within (.cons (.idx (.var 3) (.int 1)) (.cons (.idx (.var 3) (.int 0)) (.cons (.var 1) .nil))))))) (.ret (.bl false) .nil) .nil (.asg (.name 2) (.idx (.var 3) (.int 1)) .nil))) (.ret (.bl true) .nil)))
def d_are_edits : Df := ⟨"are_edits", 2, ["thing", "size", "last", "edit"], b_are_edits⟩
def b_look_edits : S := .ite (.not (.call f_is_text (.cons (.var 0) .nil))) (.rse 2 .nil) .nil (.ite (.not (.call f_are_edits (.cons (.var 1) (.cons (.bi .len (.cons (.var 0) .nil)) .nil)))) (.rse 3 .nil) .nil (.ite (.cmp .Gt (.bin .Add (.bi .len (.cons (.var 0) .nil)) (.bi .sum (.cons (.comp (.bin .Sub (.bi .len (.cons (.var 4) .nil)) (.bin .Sub (.var 3) (.var 2))) (.t3 (.name 2) (.name 3) (.name 4)) (.seq (.var 1)) .none) .nil))) (.cst "MOST_SIZE" (.int 1000))) (.rse 5 .nil) .nil .nil))
def d_look_edits : Df := ⟨"look_edits", 2, ["text", "edits", "begin", "end", "new"], b_look_edits⟩
def b_changed : S := .exp (.call f_look_edits (.cons (.var 0) (.cons (.var 1) .nil))) (.asg (.name 2) (.lst .nil) (.asg (.name 3) (.int 0) (.frl (.t3 (.name 4) (.name 5) (.name 6)) (.seq (.var 1)) (.asg (.name 2) (.bin .Add (.var 2) (.lst (.cons (.tup (.cons (.str "copy") (.cons (.int 0) (.cons (.var 3) (.cons (.var 4) .nil))))) (.cons (.tup (.cons (.str "put") (.cons (.var 6) .nil))) .nil)))) (.asg (.name 3) (.var 5) .nil)) (.ret (.call f_made (.cons (.tup (.cons (.var 0) .nil)) (.cons (.bi .tuple (.cons (.bin .Add (.var 2) (.lst (.cons (.tup (.cons (.str "copy") (.cons (.int 0) (.cons (.var 3) (.cons (.bi .len (.cons (.var 0) .nil)) .nil))))) .nil))) .nil)) .nil))) .nil))))
def d_changed : Df := ⟨"changed", 2, ["text", "edits", "deeds", "at", "begin", "end", "new"], b_changed⟩
def b_undone : S := .exp (.call f_look_edits (.cons (.var 0) (.cons (.var 1) .nil))) (.new 2 (.lst .nil) (.asg (.name 3) (.int 0) (.frl (.t3 (.name 4) (.name 5) (.name 6)) (.seq (.var 1)) (.app 2 (.tup (.cons (.bin .Add (.var 4) (.var 3)) (.cons (.bin .Add (.bin .Add (.var 4) (.var 3)) (.bi .len (.cons (.var 6) .nil))) (.cons (.sl (.var 0) (.some (.var 4)) (.some (.var 5))) .nil)))) (.aug 3 .Add (.bin .Sub (.bi .len (.cons (.var 6) .nil)) (.bin .Sub (.var 5) (.var 4))) .nil)) (.ret (.bi .tuple (.cons (.ow 2) .nil)) .nil))))
def d_undone : Df := ⟨"undone", 2, ["text", "edits", "found", "grown", "begin", "end", "new"], b_undone⟩
def b_moved : S := .exp (.call f_look_edits (.cons (.var 0) (.cons (.var 1) .nil))) (.ite (.not (.call f_is_within (.cons (.var 2) (.cons (.int 0) (.cons (.bin .Sub (.bi .len (.cons (.var 0) .nil)) (.int 1)) .nil))))) (.rse 1 .nil) .nil (.asg (.name 3) (.int 0) (.frl (.t3 (.name 4) (.name 5) (.name 6)) (.seq (.var 1)) (.ite (.chain .LtE .Lt (.var 4) (.var 2) (.var 5)) (.ret .non .nil) .nil (.ite (.cmp .LtE (.var 5) (.var 2)) (.aug 3 .Add (.bin .Sub (.bi .len (.cons (.var 6) .nil)) (.bin .Sub (.var 5) (.var 4))) .nil) .nil .nil)) (.ret (.bin .Add (.var 2) (.var 3)) .nil))))
def d_moved : Df := ⟨"moved", 3, ["text", "edits", "place", "grown", "begin", "end", "new"], b_moved⟩
def b_law_edits : S := .asg (.name 3) (.bi .sorted (.cons (.comp (.call f_law_mix (.cons (.bin .Add (.call f_law_cell (.cons (.var 0) (.cons (.bin .Add (.var 1) (.bin .Mod (.var 5) (.int 3))) .nil))) (.bin .Mult (.bin .Mult (.int 53) (.var 5)) (.var 5))) (.cons (.int 9949) (.cons (.bin .Add (.bi .len (.cons (.var 2) .nil)) (.int 1)) .nil)))) (.name 5) (.rng1 (.int 10)) .none) .nil)) (.new 4 (.lst .nil) (.frl (.name 5) (.rng1 (.bin .Mod (.call f_law_cell (.cons (.var 0) (.cons (.bin .Add (.var 1) (.int 3)) .nil))) (.int 6))) (.app 4 (.tup (.cons (.idx (.var 3) (.bin .Mult (.int 2) (.var 5))) (.cons (.idx (.var 3) (.bin .Add (.bin .Mult (.int 2) (.var 5)) (.int 1))) (.cons (.call f_law_text (.cons (.call f_law_seed (.cons (.bin .Add (.call f_law_cell (.cons (.var 0) (.cons (.bin .Add (.var 1) (.int 4)) .nil))) (.var 5)) (.cons (.var 5) .nil))) (.cons (.int 5) .nil))) .nil)))) .nil) (.ret (.bi .tuple (.cons (.ow 4) .nil)) .nil)))
def d_law_edits : Df := ⟨"_law_edits", 3, ["script", "at", "text", "cuts", "found", "k"], b_law_edits⟩
def b_law_no_edits : S := .asg (.name 3) (.bi .len (.cons (.var 1) .nil)) (.new 4 (.lst (.cons (.bi .list (.cons (.var 2) .nil)) (.cons .non (.cons (.bin .Add (.var 2) (.tup (.cons (.tup (.cons (.int 0) (.cons (.int 0) .nil))) .nil))) (.cons (.tup (.cons (.tup (.cons (.int 0) (.cons (.bin .Add (.var 3) (.int 1)) (.cons (.str "") .nil)))) .nil)) (.cons (.tup (.cons (.tup (.cons (.neg (.int 1)) (.cons (.int 0) (.cons (.str "") .nil)))) .nil)) (.cons (.tup (.cons (.tup (.cons (.int 0) (.cons (.int 0) (.cons (.int 3) .nil)))) .nil)) (.cons (.tup (.cons (.tup (.cons (.bl true) (.cons (.int 1) (.cons (.str "") .nil)))) .nil)) .nil)))))))) (.new 4 (.bin .Add (.ow 4) (.lst (.cons (.tup (.cons (.tup (.cons (.var 3) (.cons (.var 3) (.cons (.str "") .nil)))) (.cons (.tup (.cons (.int 0) (.cons (.int 0) (.cons (.str "") .nil)))) .nil))) (.cons (.bin .Mult (.tup (.cons (.tup (.cons (.int 0) (.cons (.int 0) (.cons (.str "") .nil)))) .nil)) (.int 20)) (.cons (.tup (.cons (.lst (.cons (.int 0) (.cons (.int 0) (.cons (.str "") .nil)))) .nil)) .nil))))) (.ite (.cmp .Eq (.var 3) (.int 0)) (.seti 4 (.int 7) (.tup (.cons (.tup (.cons (.int 1) (.cons (.int 1) (.cons (.str "") .nil)))) .nil)) .nil) .nil (.new 5 (.lst .nil) (.frl (.name 6) (.rng1 (.int 4)) (.try [2, 3, 1] (.ite (.cmp .Eq (.var 6) (.int 0)) (.exp (.call f_changed (.cons (.var 1) (.cons (.idx (.ow 4) (.bin .Mod (.call f_law_cell (.cons (.var 0) (.cons (.int 8) .nil))) (.int 10))) .nil))) .nil) (.ite (.cmp .Eq (.var 6) (.int 1)) (.exp (.call f_undone (.cons (.var 1) (.cons (.idx (.ow 4) (.bin .Mod (.call f_law_cell (.cons (.var 0) (.cons (.int 8) .nil))) (.int 10))) .nil))) .nil) (.ite (.cmp .Eq (.var 6) (.int 2)) (.exp (.call f_moved (.cons (.idx (.lst (.cons .non (.cons (.int 3) (.cons (.bin .Mult (.str "a") (.int 1001)) .nil)))) (.bin .Mod (.call f_law_cell (.cons (.var 0) (.cons (.int 8) .nil))) (.int 3))) (.cons .non (.cons .non .nil)))) .nil) (.exp (.call f_moved (.cons (.var 1) (.cons (.var 2) (.cons (.idx (.lst (.cons (.var 3) (.cons (.neg (.int 1)) (.cons .non (.cons (.bl true) .nil))))) (.bin .Mod (.call f_law_cell (.cons (.var 0) (.cons (.int 8) .nil))) (.int 4))) .nil)))) .nil) .nil) .nil) .nil) (.cons 2 (.app 5 (.str "text") .nil) (.cons 3 (.app 5 (.str "deed") .nil) (.cons 1 (.app 5 (.str "place") .nil) .nil))) .nil) (.ret (.cmp .Eq (.ow 5) (.lst (.cons (.str "deed") (.cons (.str "deed") (.cons (.str "text") (.cons (.str "place") .nil)))))) .nil))))))
def d_law_no_edits : Df := ⟨"_law_no_edits", 3, ["script", "text", "edits", "size", "some", "caught", "way"], b_law_no_edits⟩
def b_spot : S := .ite (.not (.call f_is_text (.cons (.var 0) .nil))) (.rse 2 .nil) .nil (.ite (.not (.call f_is_within (.cons (.var 1) (.cons (.int 0) (.cons (.bi .len (.cons (.var 0) .nil)) .nil))))) (.rse 1 .nil) .nil (.asg (.name 2) (.sl (.var 0) .none (.some (.var 1))) (.ret (.tup (.cons (.mt .count (.var 2) (.cons (.str "\n") .nil)) (.cons (.bin .Sub (.var 1) (.bin .Add (.mt .rfind (.var 2) (.cons (.str "\n") .nil)) (.int 1))) .nil))) .nil)))
def d_spot : Df := ⟨"spot", 2, ["text", "place", "ahead"], b_spot⟩
def b_place_of : S := .ite (.not (.call f_is_text (.cons (.var 0) .nil))) (.rse 2 .nil) .nil (.asg (.name 3) (.mt .split (.var 0) (.cons (.str "\n") .nil)) (.ite (.or (.not (.call f_is_within (.cons (.var 1) (.cons (.int 0) (.cons (.bin .Sub (.bi .len (.cons (.var 3) .nil)) (.int 1)) .nil))))) (.one (.not (.call f_is_within (.cons (.var 2) (.cons (.int 0) (.cons (.bi .len (.cons (.idx (.var 3) (.var 1)) .nil)) .nil))))))) (.rse 1 .nil) .nil (.ret (.bin .Add (.bi .sum (.cons (.comp (.bin .Add (.bi .len (.cons (.var 4) .nil)) (.int 1)) (.name 4) (.seq (.sl (.var 3) .none (.some (.var 1)))) .none) .nil)) (.var 2)) .nil)))
def d_place_of : Df := ⟨"place_of", 3, ["text", "row", "column", "rows", "one"], b_place_of⟩
def b_code_of : S := .asg (.name 1) (.str "") (.whl (.cmp .Gt (.var 0) (.int 31)) (.asg (.name 1) (.bin .Add (.var 1) (.idx (.cst "SIGNS" (.str "ABCDEFGHIJKLMNOPQRSTUVWXYZabcdefghijklmnopqrstuvwxyz0123456789+/")) (.bin .Add (.int 32) (.bin .Mod (.var 0) (.int 32))))) (.asg (.name 0) (.bin .FloorDiv (.var 0) (.int 32)) .nil)) (.ret (.bin .Add (.var 1) (.idx (.cst "SIGNS" (.str "ABCDEFGHIJKLMNOPQRSTUVWXYZabcdefghijklmnopqrstuvwxyz0123456789+/")) (.var 0))) .nil))
def d_code_of : Df := ⟨"code_of", 1, ["number", "found"], b_code_of⟩
def b_doubled : S := .ret (.ife (.cmp .GtE (.var 0) (.int 0)) (.bin .Mult (.int 2) (.var 0)) (.bin .Sub (.bin .Mult (.neg (.int 2)) (.var 0)) (.int 1))) .nil
def d_doubled : Df := ⟨"doubled", 1, ["number"], b_doubled⟩
def b_halved : S := .ret (.ife (.cmp .Eq (.bin .Mod (.var 0) (.int 2)) (.int 0)) (.bin .FloorDiv (.var 0) (.int 2)) (.bin .Sub (.neg (.bin .FloorDiv (.var 0) (.int 2))) (.int 1))) .nil
def d_halved : Df := ⟨"halved", 1, ["number"], b_halved⟩
def b_code : S := .ite (.not (.call f_is_within (.cons (.var 0) (.cons (.neg (.cst "MOST" (.int 99999))) (.cons (.cst "MOST" (.int 99999)) .nil))))) (.rse 4 .nil) .nil (.ret (.call f_code_of (.cons (.call f_doubled (.cons (.var 0) .nil)) .nil)) .nil)
def d_code : Df := ⟨"code", 1, ["number"], b_code⟩
def b_number_at : S := .asg (.name 2) (.int 0) (.asg (.name 3) (.int 1) (.whl (.bl true) (.asg (.name 4) (.ife (.cmp .Lt (.var 1) (.bi .len (.cons (.var 0) .nil))) (.mt .find (.cst "SIGNS" (.str "ABCDEFGHIJKLMNOPQRSTUVWXYZabcdefghijklmnopqrstuvwxyz0123456789+/")) (.cons (.idx (.var 0) (.var 1)) .nil)) (.neg (.int 1))) (.ite (.or (.cmp .Lt (.var 4) (.int 0)) (.or (.cmp .Gt (.var 3) (.bin .Pow (.int 32) (.int 4))) (.one (.and (.cmp .Gt (.var 3) (.int 1)) (.one (.cmp .Eq (.var 4) (.int 0))))))) (.rse 2 .nil) .nil (.aug 2 .Add (.bin .Mult (.bin .Mod (.var 4) (.int 32)) (.var 3)) (.aug 1 .Add (.int 1) (.ite (.cmp .Lt (.var 4) (.int 32)) (.ret (.tup (.cons (.var 2) (.cons (.var 1) .nil))) .nil) .nil (.asg (.name 3) (.bin .Mult (.var 3) (.int 32)) .nil)))))) .nil))
def d_number_at : Df := ⟨"number_at", 2, ["text", "at", "found", "worth", "value"], b_number_at⟩
def b_decode : S := .ite (.not (.isi (.var 0) .str)) (.rse 2 .nil) .nil (.asg (.t2 (.name 1) (.name 2)) (.call f_number_at (.cons (.var 0) (.cons (.int 0) .nil))) (.ite (.or (.cmp .NotEq (.var 2) (.bi .len (.cons (.var 0) .nil))) (.one (.not (.call f_is_within (.cons (.call f_halved (.cons (.var 1) .nil)) (.cons (.neg (.cst "MOST" (.int 99999))) (.cons (.cst "MOST" (.int 99999)) .nil))))))) (.rse 2 .nil) .nil (.ret (.call f_halved (.cons (.var 1) .nil)) .nil)))
def d_decode : Df := ⟨"decode", 1, ["text", "found", "end"], b_decode⟩
def b_law_whole : S := .ret (.and (.isi (.var 0) .int) (.one (.not (.isi (.var 0) .bool)))) .nil
def d_law_whole : Df := ⟨"_law_whole", 1, ["found"], b_law_whole⟩
def b_law_signs : S := .ret (.str "ABCDEFGHIJKLMNOPQRSTUVWXYZabcdefghijklmnopqrstuvwxyz0123456789+/") .nil
def d_law_signs : Df := ⟨"_law_signs", 0, [], b_law_signs⟩
def b_law_groups : S := .asg (.name 1) (.str "") (.whl (.or (.cmp .Gt (.var 0) (.int 31)) (.or (.cmp .Eq (.var 1) (.str "")) (.one (.cmp .Gt (.var 0) (.int 0))))) (.asg (.name 2) (.bin .Mod (.var 0) (.int 32)) (.asg (.name 0) (.bin .FloorDiv (.var 0) (.int 32)) (.asg (.name 1) (.bin .Add (.var 1) (.idx (.call f_law_signs .nil) (.bin .Add (.var 2) (.ife (.cmp .Gt (.var 0) (.int 0)) (.int 32) (.int 0))))) (.ite (.cmp .Eq (.var 0) (.int 0)) (.ret (.var 1) .nil) .nil .nil)))) (.ret (.var 1) .nil))
def d_law_groups : Df := ⟨"_law_groups", 1, ["number", "found", "rest"], b_law_groups⟩
def b_law_code : S := .ret (.call f_law_groups (.cons (.ife (.cmp .GtE (.var 0) (.int 0)) (.bin .Mult (.int 2) (.var 0)) (.bin .Sub (.bin .Mult (.neg (.int 2)) (.var 0)) (.int 1))) .nil)) .nil
def d_law_code : Df := ⟨"_law_code", 1, ["number"], b_law_code⟩
def b_law_is_code : S := .asg (.name 1) (.comp (.mt .find (.call f_law_signs .nil) (.cons (.var 4) .nil)) (.name 4) (.seq (.var 0)) .none) (.ite (.or (.cmp .Eq (.var 1) (.lst .nil)) (.or (.cmp .Lt (.bi .min (.cons (.var 1) .nil)) (.int 0)) (.or (.cmp .NotEq (.comp (.var 3) (.name 3) (.seq (.sl (.var 1) .none (.some (.neg (.int 1))))) (.some (.cmp .Lt (.var 3) (.int 32)))) (.lst .nil)) (.one (.cmp .Gt (.idx (.var 1) (.neg (.int 1))) (.int 31)))))) (.ret (.bl false) .nil) .nil (.ite (.or (.and (.cmp .Gt (.bi .len (.cons (.var 1) .nil)) (.int 1)) (.one (.cmp .Eq (.idx (.var 1) (.neg (.int 1))) (.int 0)))) (.one (.cmp .Gt (.bi .len (.cons (.var 1) .nil)) (.int 9)))) (.ret (.bl false) .nil) .nil (.asg (.name 2) (.int 0) (.frl (.name 3) (.seq (.rev (.var 1))) (.asg (.name 2) (.bin .Add (.bin .Mult (.var 2) (.int 32)) (.bin .Mod (.var 3) (.int 32))) .nil) (.ret (.cmp .Lt (.var 2) (.int 199999)) .nil)))))
def d_law_is_code : Df := ⟨"_law_is_code", 1, ["text", "values", "number", "value", "sign"], b_law_is_code⟩
def b_written : S := .asg (.t2 (.name 1) (.name 2)) (.call f_least (.cons (.call f_checked (.cons (.var 0) .nil)) .nil)) (.asg (.name 3) (.call f_code_of (.cons (.var 1) .nil)) (.asg (.name 4) (.int 0) (.frl (.t2 (.t2 (.name 5) (.name 6)) (.name 7)) (.zip (.var 2) (.call f_ends_of (.cons (.var 2) (.cons (.var 1) .nil)))) (.asg (.name 3) (.bin .Add (.bin .Add (.var 3) (.str ",")) (.call f_code_of (.cons (.bin .Sub (.var 7) (.var 5)) .nil))) (.ite (.isn (.var 6) true) (.asg (.name 3) (.bin .Add (.bin .Add (.var 3) (.ife (.cmp .Eq (.idx (.var 6) (.int 0)) (.str "along")) (.str "=") (.str "."))) (.call f_code_of (.cons (.idx (.var 6) (.int 1)) .nil))) (.asg (.name 3) (.bin .Add (.var 3) (.call f_code_of (.cons (.call f_doubled (.cons (.bin .Sub (.idx (.var 6) (.int 2)) (.var 4)) .nil)) .nil))) (.asg (.name 4) (.bin .Add (.idx (.var 6) (.int 2)) (.ife (.cmp .Eq (.idx (.var 6) (.int 0)) (.str "along")) (.bin .Sub (.var 7) (.var 5)) (.int 0))) .nil))) .nil .nil)) (.ret (.var 3) .nil))))
def d_written : Df := ⟨"written", 1, ["one", "size", "pieces", "found", "due", "begin", "origin", "end"], b_written⟩
def b_piece_at : S := .asg (.t2 (.name 3) (.name 4)) (.call f_number_at (.cons (.var 0) (.cons (.int 0) .nil))) (.ite (.cmp .Eq (.var 4) (.bi .len (.cons (.var 0) .nil))) (.ret (.tup (.cons (.tup (.cons (.var 1) (.cons .non .nil))) (.cons (.bin .Add (.var 1) (.var 3)) (.cons (.var 2) .nil)))) .nil) .nil (.ite (.cmp .NotIn (.idx (.var 0) (.var 4)) (.tup (.cons (.str "=") (.cons (.str ".") .nil)))) (.rse 2 .nil) .nil (.asg (.t2 (.name 5) (.name 6)) (.call f_number_at (.cons (.var 0) (.cons (.bin .Add (.var 4) (.int 1)) .nil))) (.asg (.t2 (.name 7) (.name 6)) (.call f_number_at (.cons (.var 0) (.cons (.var 6) .nil))) (.asg (.name 8) (.bin .Add (.var 2) (.call f_halved (.cons (.var 7) .nil))) (.ite (.cmp .NotEq (.var 6) (.bi .len (.cons (.var 0) .nil))) (.rse 2 .nil) .nil (.ite (.cmp .Eq (.idx (.var 0) (.var 4)) (.str ".")) (.ret (.tup (.cons (.tup (.cons (.var 1) (.cons (.tup (.cons (.str "point") (.cons (.var 5) (.cons (.var 8) .nil)))) .nil))) (.cons (.bin .Add (.var 1) (.var 3)) (.cons (.var 8) .nil)))) .nil) .nil (.ret (.tup (.cons (.tup (.cons (.var 1) (.cons (.tup (.cons (.str "along") (.cons (.var 5) (.cons (.var 8) .nil)))) .nil))) (.cons (.bin .Add (.var 1) (.var 3)) (.cons (.bin .Add (.var 8) (.var 3)) .nil)))) .nil))))))))
def d_piece_at : Df := ⟨"piece_at", 3, ["text", "begin", "due", "size", "at", "source", "end", "far", "place"], b_piece_at⟩
def b_read : S := .ite (.not (.isi (.var 0) .str)) (.rse 2 .nil) .nil (.asg (.name 1) (.mt .split (.var 0) (.cons (.str ",") .nil)) (.asg (.t2 (.name 2) (.name 3)) (.call f_number_at (.cons (.idx (.var 1) (.int 0)) (.cons (.int 0) .nil))) (.new 4 (.lst .nil) (.asg (.name 5) (.int 0) (.asg (.name 6) (.int 0) (.frl (.name 7) (.seq (.sl (.var 1) (.some (.int 1)) .none)) (.asg (.t3 (.name 8) (.name 5) (.name 6)) (.call f_piece_at (.cons (.var 7) (.cons (.var 5) (.cons (.var 6) .nil)))) (.app 4 (.var 8) .nil)) (.asg (.name 9) (.tup (.cons (.var 2) (.cons (.bi .tuple (.cons (.ow 4) .nil)) .nil))) (.ite (.or (.cmp .NotEq (.var 3) (.bi .len (.cons (.idx (.var 1) (.int 0)) .nil))) (.or (.cmp .NotEq (.var 5) (.var 2)) (.or (.not (.call f_is_map (.cons (.var 9) .nil))) (.one (.cmp .NotEq (.call f_written (.cons (.var 9) .nil)) (.var 0)))))) (.rse 2 .nil) .nil (.ret (.var 9) .nil)))))))))
def d_read : Df := ⟨"read", 1, ["text", "words", "size", "end", "pieces", "at", "due", "word", "piece", "found"], b_read⟩
def b_law_asks : S := .ite (.cmp .Eq (.var 0) (.int 0)) (.ret (.call f_joined (.cons (.var 1) (.cons (.call f_whole (.cons (.int 1000) (.cons (.int 0) .nil))) .nil))) .nil) .nil (.ite (.cmp .Eq (.var 0) (.int 1)) (.ret (.call f_exchanged (.cons (.var 1) (.cons (.int 0) (.cons (.int 0) (.cons (.call f_whole (.cons (.int 1000) (.cons (.int 0) .nil))) .nil))))) .nil) .nil (.ite (.cmp .Eq (.var 0) (.int 2)) (.ret (.call f_made (.cons (.tup (.cons (.bin .Mult (.str "a") (.int 600)) .nil)) (.cons (.tup (.cons (.tup (.cons (.str "copy") (.cons (.int 0) (.cons (.int 0) (.cons (.int 600) .nil))))) (.cons (.tup (.cons (.str "copy") (.cons (.int 0) (.cons (.int 0) (.cons (.int 600) .nil))))) .nil))) .nil))) .nil) .nil (.ite (.cmp .Eq (.var 0) (.int 3)) (.ret (.call f_changed (.cons (.bin .Mult (.str "a") (.int 600)) (.cons (.var 2) .nil))) .nil) .nil (.ite (.cmp .Eq (.var 0) (.int 4)) (.ret (.call f_undone (.cons (.bin .Mult (.str "a") (.int 600)) (.cons (.var 2) .nil))) .nil) .nil (.ret (.call f_moved (.cons (.bin .Mult (.str "a") (.int 600)) (.cons (.var 2) (.cons .non .nil)))) .nil)))))
def d_law_asks : Df := ⟨"_law_asks", 3, ["way", "one", "edits"], b_law_asks⟩
def b_law_deeds_of : S := .ite (.cmp .Eq (.var 0) (.int 0)) (.ret (.call f_least (.cons (.tup (.cons (.int 1) (.cons (.tup .nil) .nil))) .nil)) .nil) .nil (.ite (.cmp .Eq (.var 0) (.int 1)) (.ret (.call f_lead (.cons (.tup (.cons (.int 0) (.cons (.tup .nil) .nil))) (.cons (.int 0) .nil))) .nil) .nil (.ite (.cmp .Eq (.var 0) (.int 2)) (.ret (.call f_decode (.cons (.str "") .nil)) .nil) .nil (.ite (.cmp .Eq (.var 0) (.int 3)) (.ret (.call f_changed (.cons (.str "") (.cons (.tup (.cons (.tup (.cons (.int 0) (.cons (.int 1) (.cons (.str "") .nil)))) .nil)) .nil))) .nil) .nil (.ite (.cmp .Eq (.var 0) (.int 4)) (.ret (.call f_whole (.cons (.int 1001) (.cons (.int 0) .nil))) .nil) .nil (.ret (.call f_joined (.cons (.call f_whole (.cons (.int 1000) (.cons (.int 0) .nil))) (.cons (.call f_whole (.cons (.int 1) (.cons (.int 0) .nil))) .nil))) .nil)))))
def d_law_deeds_of : Df := ⟨"_law_deeds_of", 1, ["way"], b_law_deeds_of⟩
def b_law_kinds_of : S := .asg (.name 1) (.lst .nil) (.tryk 1 2 (.exp (.call f_law_deeds_of (.cons (.var 0) .nil)) .nil) (.ret (.var 1) .nil))
def d_law_kinds_of : Df := ⟨"_law_kinds_of", 1, ["way", "some", "e"], b_law_kinds_of⟩
def b_law_of_map : S := .ite (.cmp .Eq (.var 0) (.int 0)) (.ret (.call f_least (.cons (.var 1) .nil)) .nil) .nil (.ite (.cmp .Eq (.var 0) (.int 1)) (.ret (.call f_are_alike (.cons (.tup (.cons (.int 0) (.cons (.tup .nil) .nil))) (.cons (.var 1) .nil))) .nil) .nil (.ite (.cmp .Eq (.var 0) (.int 2)) (.ret (.call f_cut (.cons (.var 1) (.cons .non (.cons .non .nil)))) .nil) .nil (.ite (.cmp .Eq (.var 0) (.int 3)) (.ret (.call f_exchanged (.cons (.var 1) (.cons .non (.cons .non (.cons .non .nil))))) .nil) .nil (.ite (.cmp .Eq (.var 0) (.int 4)) (.ret (.call f_renumbered (.cons (.var 1) (.cons .non .nil))) .nil) .nil (.ite (.cmp .Eq (.var 0) (.int 5)) (.ret (.call f_back (.cons (.var 1) (.cons .non (.cons .non .nil)))) .nil) .nil (.ite (.cmp .Eq (.var 0) (.int 6)) (.ret (.call f_turned (.cons (.var 1) (.cons .non (.cons .non .nil)))) .nil) .nil (.ret (.ife (.cmp .Eq (.var 0) (.int 7)) (.call f_shares (.cons (.var 1) .nil)) (.call f_written (.cons (.var 1) .nil))) .nil)))))))
def d_law_of_map : Df := ⟨"_law_of_map", 2, ["way", "one"], b_law_of_map⟩
def b_wall : S := .whl (.bl true) (.pass .nil) .nil
def d_wall : Df := ⟨"_wall", 1, ["k"], b_wall⟩
def b_overlaid : S := .exp (.call f_checked (.cons (.var 0) .nil)) (.exp (.call f_checked (.cons (.var 1) .nil)) (.ite (.cmp .NotEq (.idx (.var 0) (.int 0)) (.idx (.var 1) (.int 0))) (.rse 0 .nil) .nil (.ret (.call f_map_of (.cons (.comp (.ife (.isn (.var 2) false) (.var 3) (.var 2)) (.t2 (.name 2) (.name 3)) (.zip (.call f_leads_of (.cons (.var 0) .nil)) (.call f_leads_of (.cons (.var 1) .nil))) .none) .nil)) .nil)))
def d_overlaid : Df := ⟨"overlaid", 2, ["one", "other", "mine", "theirs"], b_overlaid⟩
def b_without : S := .exp (.call f_checked (.cons (.var 0) .nil)) (.ite (.not (.call f_is_within (.cons (.var 1) (.cons (.int 0) (.cons (.cst "MOST_SOURCE" (.int 9)) .nil))))) (.rse 4 .nil) .nil (.ret (.call f_map_of (.cons (.comp (.ife (.and (.isn (.var 2) true) (.one (.cmp .Eq (.idx (.var 2) (.int 0)) (.var 1)))) .non (.var 2)) (.name 2) (.seq (.call f_leads_of (.cons (.var 0) .nil))) .none) .nil)) .nil))
def d_without : Df := ⟨"without", 2, ["one", "source", "told"], b_without⟩
def b_agreed : S := .exp (.call f_checked (.cons (.var 0) .nil)) (.exp (.call f_checked (.cons (.var 1) .nil)) (.ite (.cmp .NotEq (.idx (.var 0) (.int 0)) (.idx (.var 1) (.int 0))) (.rse 0 .nil) .nil (.ret (.call f_map_of (.cons (.comp (.ife (.cmp .Eq (.var 2) (.var 3)) (.var 2) .non) (.t2 (.name 2) (.name 3)) (.zip (.call f_leads_of (.cons (.var 0) .nil)) (.call f_leads_of (.cons (.var 1) .nil))) .none) .nil)) .nil)))
def d_agreed : Df := ⟨"agreed", 2, ["one", "other", "mine", "theirs"], b_agreed⟩
def b_mirrored : S := .ret (.call f_map_of (.cons (.rev (.call f_leads_of (.cons (.call f_checked (.cons (.var 0) .nil)) .nil))) .nil)) .nil
def d_mirrored : Df := ⟨"mirrored", 1, ["one"], b_mirrored⟩
def b_doubles : S := .dnew 1 true (.frl (.name 2) (.seq (.call f_leads_of (.cons (.call f_checked (.cons (.var 0) .nil)) .nil))) (.ite (.isn (.var 2) true) (.dset 1 (.var 2) (.bin .Add (.dget 1 (.var 2) (.int 0)) (.int 1)) .nil) .nil .nil) (.ret (.bi .sorted (.cons (.lockd 1 (.comp (.bin .Add (.var 2) (.tup (.cons (.didx 1 (.var 2)) .nil))) (.name 2) (.dks 1) (.some (.cmp .Gt (.didx 1 (.var 2)) (.int 1))))) .nil)) .nil))
def d_doubles : Df := ⟨"doubles", 1, ["one", "found", "told"], b_doubles⟩
def b_clashes_of : S := .new 2 (.lst .nil) (.frl (.t2 (.name 3) (.t3 (.name 4) (.name 5) (.name 6))) (.enum (.var 0)) (.frl (.t2 (.name 7) (.t3 (.name 8) (.name 9) (.name 10))) (.enum (.var 1)) (.ite (.or (.and (.cmp .Lt (.var 4) (.var 9)) (.one (.cmp .Lt (.var 8) (.var 5)))) (.one (.and (.cmp .Eq (.var 4) (.var 8)) (.one (.or (.cmp .Eq (.var 4) (.var 5)) (.one (.cmp .Eq (.var 8) (.var 9)))))))) (.app 2 (.tup (.cons (.var 3) (.cons (.var 7) .nil))) .nil) .nil .nil) .nil) (.frz 2 (.ret (.var 2) .nil)))
def d_clashes_of : Df := ⟨"clashes_of", 2, ["edits", "others", "found", "at", "begin", "end", "new", "where", "first", "last", "other"], b_clashes_of⟩
def b_clashes : S := .exp (.call f_look_edits (.cons (.var 0) (.cons (.var 1) .nil))) (.exp (.call f_look_edits (.cons (.var 0) (.cons (.var 2) .nil))) (.ret (.call f_clashes_of (.cons (.var 1) (.cons (.var 2) .nil))) .nil))
def d_clashes : Df := ⟨"clashes", 3, ["text", "edits", "others"], b_clashes⟩
def b_put_in_order : S := .new 2 (.comp (.tup (.cons (.idx (.var 4) (.int 0)) (.cons (.idx (.var 4) (.int 1)) (.cons (.int 0) (.cons (.var 3) (.cons (.var 4) .nil)))))) (.t2 (.name 3) (.name 4)) (.enum (.var 0)) .none) (.ext 2 (.comp (.tup (.cons (.idx (.var 4) (.int 0)) (.cons (.idx (.var 4) (.int 1)) (.cons (.int 1) (.cons (.var 3) (.cons (.var 4) .nil)))))) (.t2 (.name 3) (.name 4)) (.enum (.var 1)) .none) (.ret (.bi .tuple (.cons (.comp (.idx (.var 5) (.int 4)) (.name 5) (.seq (.bi .sorted (.cons (.ow 2) .nil))) .none) .nil)) .nil))
def d_put_in_order : Df := ⟨"put_in_order", 2, ["edits", "others", "rows", "at", "edit", "row"], b_put_in_order⟩
def b_merged : S := .exp (.call f_look_edits (.cons (.var 0) (.cons (.var 1) .nil))) (.exp (.call f_look_edits (.cons (.var 0) (.cons (.var 2) .nil))) (.ite (.call f_clashes_of (.cons (.var 1) (.cons (.var 2) .nil))) (.rse 6 .nil) .nil (.asg (.name 3) (.call f_put_in_order (.cons (.var 1) (.cons (.var 2) .nil))) (.ite (.cmp .Gt (.bi .len (.cons (.var 3) .nil)) (.cst "MOST_EDITS" (.int 19))) (.rse 5 .nil) .nil (.exp (.call f_look_edits (.cons (.var 0) (.cons (.var 3) .nil))) (.ret (.var 3) .nil))))))
def d_merged : Df := ⟨"merged", 3, ["text", "edits", "others", "found"], b_merged⟩
def b_longest : S := .new 2 (.lst (.cons (.bin .Mult (.lst (.cons (.int 0) .nil)) (.bin .Add (.bi .len (.cons (.var 1) .nil)) (.int 1))) .nil)) (.frl (.name 3) (.seq (.var 0)) (.new 4 (.lst (.cons (.int 0) .nil)) (.frl (.t2 (.name 5) (.name 6)) (.enum (.var 1)) (.app 4 (.ife (.cmp .Eq (.var 3) (.var 6)) (.bin .Add (.idx (.idx (.ow 2) (.neg (.int 1))) (.var 5)) (.int 1)) (.bi .max (.cons (.idx (.ow 4) (.var 5)) (.cons (.idx (.idx (.ow 2) (.neg (.int 1))) (.bin .Add (.var 5) (.int 1))) .nil)))) .nil) (.frz 4 (.app 2 (.var 4) .nil)))) (.frz 2 (.ret (.var 2) .nil)))
def d_longest : Df := ⟨"longest", 2, ["one", "other", "rows", "sign", "row", "at", "there"], b_longest⟩
def b_look_short : S := .ite (.or (.not (.call f_is_text (.cons (.var 0) .nil))) (.or (.not (.call f_is_text (.cons (.var 1) .nil))) (.or (.cmp .Gt (.bi .len (.cons (.var 0) .nil)) (.cst "MOST_SHORT" (.int 30))) (.one (.cmp .Gt (.bi .len (.cons (.var 1) .nil)) (.cst "MOST_SHORT" (.int 30))))))) (.rse 2 .nil) .nil .nil
def d_look_short : Df := ⟨"look_short", 2, ["one", "other"], b_look_short⟩
def b_in_common : S := .exp (.call f_look_short (.cons (.var 0) (.cons (.var 1) .nil))) (.ret (.idx (.idx (.call f_longest (.cons (.var 0) (.cons (.var 1) .nil))) (.neg (.int 1))) (.neg (.int 1))) .nil)
def d_in_common : Df := ⟨"in_common", 2, ["one", "other"], b_in_common⟩
def b_edits_between : S := .exp (.call f_look_short (.cons (.var 0) (.cons (.var 1) .nil))) (.asg (.name 2) (.call f_longest (.cons (.var 0) (.cons (.var 1) .nil))) (.par 3 4 (.bi .len (.cons (.var 0) .nil)) (.bi .len (.cons (.var 1) .nil)) (.new 5 (.lst .nil) (.par 6 7 (.var 3) (.var 4) (.whl (.or (.cmp .Gt (.var 3) (.int 0)) (.one (.cmp .Gt (.var 4) (.int 0)))) (.ite (.and (.cmp .Gt (.var 3) (.int 0)) (.and (.cmp .Gt (.var 4) (.int 0)) (.one (.cmp .Eq (.idx (.var 0) (.bin .Sub (.var 3) (.int 1))) (.idx (.var 1) (.bin .Sub (.var 4) (.int 1))))))) (.ite (.cmp .NotEq (.tup (.cons (.var 3) (.cons (.var 4) .nil))) (.tup (.cons (.var 6) (.cons (.var 7) .nil)))) (.app 5 (.tup (.cons (.var 3) (.cons (.var 6) (.cons (.sl (.var 1) (.some (.var 4)) (.some (.var 7))) .nil)))) .nil) .nil (.aug 3 .Sub (.int 1) (.aug 4 .Sub (.int 1) (.par 6 7 (.var 3) (.var 4) .nil)))) (.ite (.or (.cmp .Eq (.var 4) (.int 0)) (.one (.and (.cmp .Gt (.var 3) (.int 0)) (.one (.cmp .GtE (.idx (.idx (.var 2) (.bin .Sub (.var 3) (.int 1))) (.var 4)) (.idx (.idx (.var 2) (.var 3)) (.bin .Sub (.var 4) (.int 1)))))))) (.aug 3 .Sub (.int 1) .nil) (.aug 4 .Sub (.int 1) .nil) .nil) .nil) (.ite (.cmp .NotEq (.tup (.cons (.int 0) (.cons (.int 0) .nil))) (.tup (.cons (.var 6) (.cons (.var 7) .nil)))) (.app 5 (.tup (.cons (.int 0) (.cons (.var 6) (.cons (.sl (.var 1) .none (.some (.var 7))) .nil)))) .nil) .nil (.ret (.bi .tuple (.cons (.rev (.ow 5)) .nil)) .nil)))))))
def d_edits_between : Df := ⟨"edits_between", 2, ["one", "other", "rows", "at", "where", "found", "end", "last"], b_edits_between⟩
def b_law_told_of : S := .ite (.cmp .Lt (.var 0) (.int 3)) (.ret (.ife (.cmp .Eq (.var 0) (.int 0)) (.call f_overlaid (.cons (.idx (.var 1) (.int 0)) (.cons (.idx (.var 1) (.int 1)) .nil))) (.ife (.cmp .Eq (.var 0) (.int 1)) (.call f_agreed (.cons (.idx (.var 1) (.int 0)) (.cons (.idx (.var 1) (.int 1)) .nil))) (.call f_without (.cons (.idx (.var 1) (.int 0)) (.cons (.idx (.var 1) (.int 1)) .nil))))) .nil) .nil (.ite (.cmp .Lt (.var 0) (.int 5)) (.ret (.ife (.cmp .Eq (.var 0) (.int 3)) (.call f_mirrored (.cons (.idx (.var 1) (.int 0)) .nil)) (.call f_doubles (.cons (.idx (.var 1) (.int 0)) .nil))) .nil) .nil (.ite (.cmp .Lt (.var 0) (.int 7)) (.ret (.ife (.cmp .Eq (.var 0) (.int 5)) (.call f_clashes (.cons (.idx (.var 1) (.int 0)) (.cons (.idx (.var 1) (.int 1)) (.cons (.idx (.var 1) (.int 2)) .nil)))) (.call f_merged (.cons (.idx (.var 1) (.int 0)) (.cons (.idx (.var 1) (.int 1)) (.cons (.idx (.var 1) (.int 2)) .nil))))) .nil) .nil (.ite (.cmp .Lt (.var 0) (.int 9)) (.ret (.ife (.cmp .Eq (.var 0) (.int 7)) (.call f_in_common (.cons (.idx (.var 1) (.int 0)) (.cons (.idx (.var 1) (.int 1)) .nil))) (.call f_edits_between (.cons (.idx (.var 1) (.int 0)) (.cons (.idx (.var 1) (.int 1)) .nil)))) .nil) .nil .bad)))
def d_law_told_of : Df := ⟨"_law_told_of", 2, ["way", "a"], b_law_told_of⟩
def b_law_told_word : S := .asg (.name 2) (.str "") (.try [0, 4, 2, 3, 6, 5] (.exp (.call f_law_told_of (.cons (.var 0) (.cons (.var 1) .nil))) .nil) (.cons 0 (.asg (.name 2) (.str "map") .nil) (.cons 4 (.asg (.name 2) (.str "number") .nil) (.cons 2 (.asg (.name 2) (.str "text") .nil) (.cons 3 (.asg (.name 2) (.str "deed") .nil) (.cons 6 (.asg (.name 2) (.str "clash") .nil) (.cons 5 (.asg (.name 2) (.str "big") .nil) .nil)))))) (.ret (.var 2) .nil))
def d_law_told_word : Df := ⟨"_law_told_word", 2, ["way", "a", "word"], b_law_told_word⟩
def b_law_clashes : S := .new 2 (.lst .nil) (.frl (.t2 (.name 3) (.t3 (.name 4) (.name 5) (.name 6))) (.enum (.var 0)) (.frl (.t2 (.name 7) (.t3 (.name 8) (.name 9) (.name 10))) (.enum (.var 1)) (.asg (.name 11) (.comp (.var 13) (.name 13) (.rng2 (.var 4) (.var 5)) (.some (.chain .LtE .Lt (.var 8) (.var 13) (.var 9)))) (.asg (.name 12) (.or (.and (.cmp .Eq (.var 4) (.var 5)) (.one (.chain .Lt .Lt (.var 8) (.var 4) (.var 9)))) (.one (.and (.cmp .Eq (.var 8) (.var 9)) (.one (.chain .Lt .Lt (.var 4) (.var 8) (.var 5)))))) (.ite (.or (.cmp .NotEq (.var 11) (.lst .nil)) (.or (.var 12) (.one (.and (.cmp .Eq (.var 4) (.var 8)) (.one (.or (.cmp .Eq (.var 4) (.var 5)) (.one (.cmp .Eq (.var 8) (.var 9))))))))) (.app 2 (.tup (.cons (.var 3) (.cons (.var 7) .nil))) .nil) .nil .nil))) .nil) (.frz 2 (.ret (.var 2) .nil)))
def d_law_clashes : Df := ⟨"_law_clashes", 2, ["edits", "others", "found", "at", "begin", "end", "new", "where", "first", "last", "other", "signs_both", "inside", "sign"], b_law_clashes⟩
def b_law_hands : S := .asg (.name 2) (.lst .nil) (.frl (.name 3) (.seq (.sset (.comp (.sl (.var 4) .none (.some (.int 2))) (.name 4) (.seq (.bin .Add (.var 0) (.var 1))) .none))) (.asg (.name 2) (.bin .Add (.var 2) (.comp (.var 4) (.name 4) (.seq (.bin .Add (.var 0) (.var 1))) (.some (.cmp .Eq (.sl (.var 4) .none (.some (.int 2))) (.var 3))))) .nil) (.ret (.bi .tuple (.cons (.var 2) .nil)) .nil))
def d_law_hands : Df := ⟨"_law_hands", 2, ["edits", "others", "found", "spot_here", "edit"], b_law_hands⟩
def b_law_common : S := .dnew 2 true (.frl (.name 3) (.rng1 (.bin .Add (.bi .len (.cons (.var 0) .nil)) (.int 1))) (.frl (.name 4) (.rng1 (.bin .Add (.bi .len (.cons (.var 1) .nil)) (.int 1))) (.ite (.or (.cmp .Eq (.var 3) (.int 0)) (.one (.cmp .Eq (.var 4) (.int 0)))) (.dset 2 (.tup (.cons (.var 3) (.cons (.var 4) .nil))) (.int 0) .nil) (.asg (.name 5) (.bin .Add (.didx 2 (.tup (.cons (.bin .Sub (.var 3) (.int 1)) (.cons (.bin .Sub (.var 4) (.int 1)) .nil)))) (.bi .toInt (.cons (.cmp .Eq (.idx (.var 0) (.bin .Sub (.var 3) (.int 1))) (.idx (.var 1) (.bin .Sub (.var 4) (.int 1)))) .nil))) (.dset 2 (.tup (.cons (.var 3) (.cons (.var 4) .nil))) (.bi .max (.cons (.var 5) (.cons (.didx 2 (.tup (.cons (.bin .Sub (.var 3) (.int 1)) (.cons (.var 4) .nil)))) (.cons (.didx 2 (.tup (.cons (.var 3) (.cons (.bin .Sub (.var 4) (.int 1)) .nil)))) .nil)))) .nil)) .nil) .nil) (.ret (.didx 2 (.tup (.cons (.bi .len (.cons (.var 0) .nil)) (.cons (.bi .len (.cons (.var 1) .nil)) .nil)))) .nil))
def d_law_common : Df := ⟨"_law_common", 2, ["one", "other", "found", "at", "where", "more"], b_law_common⟩
def b_law_short : S := .ret (.mt .join (.str "") (.cons (.comp (.idx (.str "ab\nc") (.call f_law_pick (.cons (.call f_law_seed (.cons (.var 0) (.cons (.var 1) .nil))) (.cons (.idx (.lst (.cons (.int 2) (.cons (.int 4) .nil))) (.bin .Mod (.bin .FloorDiv (.var 0) (.int 11)) (.int 2))) .nil)))) (.name 1) (.rng1 (.bin .Mod (.bin .FloorDiv (.var 0) (.int 7)) (.int 31))) .none) .nil)) .nil
def d_law_short : Df := ⟨"_law_short", 1, ["seed", "k"], b_law_short⟩
def b_law_draft : S := .asg (.name 2) .non (.try [3, 5, 7] .bad (.cons 3 (.asg (.name 2) (.str "deed") .nil) (.cons 5 (.asg (.name 2) (.str "big") .nil) (.cons 7 (.asg (.name 2) (.str "nothing") .nil) .nil))) (.ret (.var 2) .nil))
def d_law_draft : Df := ⟨"_law_draft", 2, ["one", "deed", "found"], b_law_draft⟩
def b_law_no_place : S := .asg (.name 2) (.bl false) (.try [1] .bad (.cons 1 (.asg (.name 2) (.bl true) .nil) .nil) (.ret (.var 2) .nil))
def d_law_no_place : Df := ⟨"_law_no_place", 2, ["one", "place", "caught"], b_law_no_place⟩
def b_law_short2 : S := .ret (.mt .join (.str "") (.cons (.comp (.idx (.str "ab\nc") (.call f_law_pick (.cons (.call f_law_seed (.cons (.var 0) (.cons (.var 1) .nil))) (.cons (.idx (.lst (.cons (.int 2) (.cons (.int 4) .nil))) (.bin .Mod (.bin .FloorDiv (.var 0) (.int 11)) (.int 2))) .nil)))) (.name 1) (.rng1 (.bin .Mod (.bin .FloorDiv (.var 0) (.int 7)) (.int 29))) .none) .nil)) .nil
def d_law_short2 : Df := ⟨"_law_short", 1, ["seed", "k"], b_law_short2⟩
def b_law_twin : S := .ite (.not (.isi (.var 0) .list)) (.ret (.var 0) .nil) .nil (.ret (.comp (.call f_law_twin (.cons (.var 1) .nil)) (.name 1) (.seq (.var 0)) .none) .nil)
def d_law_twin : Df := ⟨"_law_twin", 1, ["thing", "one"], b_law_twin⟩
def T : List Df := [d_is_within, d_is_origin, d_ends_of, d_is_map, d_checked, d_led, d_leads_of, d_leads, d_lead, d_goes_on, d_map_of, d_least, d_law_cell, d_law_seed, d_law_pick, d_law_leads, d_law_least, d_law_goes_on, d_law_map, d_law_drawn, d_law_once, d_are_alike, d_law_mix, d_look_stretch, d_cut, d_joined, d_exchanged, d_whole, d_through, d_behind, d_law_low, d_renumbered, d_look_sign, d_back, d_turned, d_law_no_sign, d_shares, d_is_text, d_look_texts, d_is_deed, d_piece_of, d_made, d_law_text, d_law_made, d_law_made_edges, d_law_copied, d_are_edits, d_look_edits, d_changed, d_undone, d_moved, d_law_edits, d_law_no_edits, d_spot, d_place_of, d_code_of, d_doubled, d_halved, d_code, d_number_at, d_decode, d_law_whole, d_law_signs, d_law_groups, d_law_code, d_law_is_code, d_written, d_piece_at, d_read, d_law_asks, d_law_deeds_of, d_law_kinds_of, d_law_of_map, d_wall, d_overlaid, d_without, d_agreed, d_mirrored, d_doubles, d_clashes_of, d_clashes, d_put_in_order, d_merged, d_longest, d_look_short, d_in_common, d_edits_between, d_law_told_of, d_law_told_word, d_law_clashes, d_law_hands, d_law_common, d_law_short, d_law_draft, d_law_no_place, d_law_short2, d_law_twin]
theorem T_is_within : T[f_is_within]? = some d_is_within := rfl
theorem T_is_origin : T[f_is_origin]? = some d_is_origin := rfl
theorem T_ends_of : T[f_ends_of]? = some d_ends_of := rfl
theorem T_is_map : T[f_is_map]? = some d_is_map := rfl
theorem T_checked : T[f_checked]? = some d_checked := rfl
theorem T_led : T[f_led]? = some d_led := rfl
theorem T_leads_of : T[f_leads_of]? = some d_leads_of := rfl
theorem T_leads : T[f_leads]? = some d_leads := rfl
theorem T_lead : T[f_lead]? = some d_lead := rfl
theorem T_goes_on : T[f_goes_on]? = some d_goes_on := rfl
theorem T_map_of : T[f_map_of]? = some d_map_of := rfl
theorem T_least : T[f_least]? = some d_least := rfl
theorem T_law_cell : T[f_law_cell]? = some d_law_cell := rfl
theorem T_law_seed : T[f_law_seed]? = some d_law_seed := rfl
theorem T_law_pick : T[f_law_pick]? = some d_law_pick := rfl
theorem T_law_leads : T[f_law_leads]? = some d_law_leads := rfl
theorem T_law_least : T[f_law_least]? = some d_law_least := rfl
theorem T_law_goes_on : T[f_law_goes_on]? = some d_law_goes_on := rfl
theorem T_law_map : T[f_law_map]? = some d_law_map := rfl
theorem T_law_drawn : T[f_law_drawn]? = some d_law_drawn := rfl
theorem T_law_once : T[f_law_once]? = some d_law_once := rfl
theorem T_are_alike : T[f_are_alike]? = some d_are_alike := rfl
theorem T_law_mix : T[f_law_mix]? = some d_law_mix := rfl
theorem T_look_stretch : T[f_look_stretch]? = some d_look_stretch := rfl
theorem T_cut : T[f_cut]? = some d_cut := rfl
theorem T_joined : T[f_joined]? = some d_joined := rfl
theorem T_exchanged : T[f_exchanged]? = some d_exchanged := rfl
theorem T_whole : T[f_whole]? = some d_whole := rfl
theorem T_through : T[f_through]? = some d_through := rfl
theorem T_behind : T[f_behind]? = some d_behind := rfl
theorem T_law_low : T[f_law_low]? = some d_law_low := rfl
theorem T_renumbered : T[f_renumbered]? = some d_renumbered := rfl
theorem T_look_sign : T[f_look_sign]? = some d_look_sign := rfl
theorem T_back : T[f_back]? = some d_back := rfl
theorem T_turned : T[f_turned]? = some d_turned := rfl
theorem T_law_no_sign : T[f_law_no_sign]? = some d_law_no_sign := rfl
theorem T_shares : T[f_shares]? = some d_shares := rfl
theorem T_is_text : T[f_is_text]? = some d_is_text := rfl
theorem T_look_texts : T[f_look_texts]? = some d_look_texts := rfl
theorem T_is_deed : T[f_is_deed]? = some d_is_deed := rfl
theorem T_piece_of : T[f_piece_of]? = some d_piece_of := rfl
theorem T_made : T[f_made]? = some d_made := rfl
theorem T_law_text : T[f_law_text]? = some d_law_text := rfl
theorem T_law_made : T[f_law_made]? = some d_law_made := rfl
theorem T_law_made_edges : T[f_law_made_edges]? = some d_law_made_edges := rfl
theorem T_law_copied : T[f_law_copied]? = some d_law_copied := rfl
theorem T_are_edits : T[f_are_edits]? = some d_are_edits := rfl
theorem T_look_edits : T[f_look_edits]? = some d_look_edits := rfl
theorem T_changed : T[f_changed]? = some d_changed := rfl
theorem T_undone : T[f_undone]? = some d_undone := rfl
theorem T_moved : T[f_moved]? = some d_moved := rfl
theorem T_law_edits : T[f_law_edits]? = some d_law_edits := rfl
theorem T_law_no_edits : T[f_law_no_edits]? = some d_law_no_edits := rfl
theorem T_spot : T[f_spot]? = some d_spot := rfl
theorem T_place_of : T[f_place_of]? = some d_place_of := rfl
theorem T_code_of : T[f_code_of]? = some d_code_of := rfl
theorem T_doubled : T[f_doubled]? = some d_doubled := rfl
theorem T_halved : T[f_halved]? = some d_halved := rfl
theorem T_code : T[f_code]? = some d_code := rfl
theorem T_number_at : T[f_number_at]? = some d_number_at := rfl
theorem T_decode : T[f_decode]? = some d_decode := rfl
theorem T_law_whole : T[f_law_whole]? = some d_law_whole := rfl
theorem T_law_signs : T[f_law_signs]? = some d_law_signs := rfl
theorem T_law_groups : T[f_law_groups]? = some d_law_groups := rfl
theorem T_law_code : T[f_law_code]? = some d_law_code := rfl
theorem T_law_is_code : T[f_law_is_code]? = some d_law_is_code := rfl
theorem T_written : T[f_written]? = some d_written := rfl
theorem T_piece_at : T[f_piece_at]? = some d_piece_at := rfl
theorem T_read : T[f_read]? = some d_read := rfl
theorem T_law_asks : T[f_law_asks]? = some d_law_asks := rfl
theorem T_law_deeds_of : T[f_law_deeds_of]? = some d_law_deeds_of := rfl
theorem T_law_kinds_of : T[f_law_kinds_of]? = some d_law_kinds_of := rfl
theorem T_law_of_map : T[f_law_of_map]? = some d_law_of_map := rfl
theorem T_wall : T[f_wall]? = some d_wall := rfl
theorem T_overlaid : T[f_overlaid]? = some d_overlaid := rfl
theorem T_without : T[f_without]? = some d_without := rfl
theorem T_agreed : T[f_agreed]? = some d_agreed := rfl
theorem T_mirrored : T[f_mirrored]? = some d_mirrored := rfl
theorem T_doubles : T[f_doubles]? = some d_doubles := rfl
theorem T_clashes_of : T[f_clashes_of]? = some d_clashes_of := rfl
theorem T_clashes : T[f_clashes]? = some d_clashes := rfl
theorem T_put_in_order : T[f_put_in_order]? = some d_put_in_order := rfl
theorem T_merged : T[f_merged]? = some d_merged := rfl
theorem T_longest : T[f_longest]? = some d_longest := rfl
theorem T_look_short : T[f_look_short]? = some d_look_short := rfl
theorem T_in_common : T[f_in_common]? = some d_in_common := rfl
theorem T_edits_between : T[f_edits_between]? = some d_edits_between := rfl
theorem T_law_told_of : T[f_law_told_of]? = some d_law_told_of := rfl
theorem T_law_told_word : T[f_law_told_word]? = some d_law_told_word := rfl
theorem T_law_clashes : T[f_law_clashes]? = some d_law_clashes := rfl
theorem T_law_hands : T[f_law_hands]? = some d_law_hands := rfl
theorem T_law_common : T[f_law_common]? = some d_law_common := rfl
theorem T_law_short : T[f_law_short]? = some d_law_short := rfl
theorem T_law_draft : T[f_law_draft]? = some d_law_draft := rfl
theorem T_law_no_place : T[f_law_no_place]? = some d_law_no_place := rfl
theorem T_law_short2 : T[f_law_short2]? = some d_law_short2 := rfl
theorem T_law_twin : T[f_law_twin]? = some d_law_twin := rfl
end M

set_option linter.all false
set_option maxRecDepth 100000
namespace M
open PySem
/-! ### the evaluator's equations, without binders: for simp -/
section
variable {Φ : Nat → List D → R D} {env : Env}
def k1 (f : D → R D) : R D → R D
  | .ok x => f x
  | .exc c => .exc c
  | .bad => .bad
@[simp] theorem k1_ok (f : D → R D) (x : D) : k1 f (.ok x) = f x := (rfl)
@[simp] theorem k1_exc (f : D → R D) (c : Nat) : k1 f (.exc c) = .exc c := (rfl)
@[simp] theorem k1_bad (f : D → R D) : k1 f .bad = .bad := (rfl)
def k2 (f : D → D → R D) : R D → R D → R D
  | .ok x, .ok y => f x y
  | .ok _, .exc c => .exc c
  | .ok _, .bad => .bad
  | .exc c, _ => .exc c
  | .bad, _ => .bad
@[simp] theorem k2_ok (f : D → D → R D) (x y : D) : k2 f (.ok x) (.ok y) = f x y := (rfl)
@[simp] theorem k2_exc1 (f : D → D → R D) (c : Nat) (y : R D) : k2 f (.exc c) y = .exc c := (rfl)
@[simp] theorem k2_exc2 (f : D → D → R D) (c : Nat) (x : D) : k2 f (.ok x) (.exc c) = .exc c := (rfl)
def kB (f : Bool → D) : R Bool → R D
  | .ok b => .ok (f b)
  | .exc c => .exc c
  | .bad => .bad
@[simp] theorem kB_ok (f : Bool → D) (b : Bool) : kB f (.ok b) = .ok (f b) := (rfl)
def kT : R D → R Bool
  | .ok x => truth x
  | .exc c => .exc c
  | .bad => .bad
@[simp] theorem kT_ok (x : D) : kT (.ok x) = truth x := (rfl)
@[simp] theorem kT_exc (c : Nat) : kT (.exc c) = .exc c := (rfl)
@[simp] theorem e_var (i : Nat) : evE Φ (.var i) env = getV env i := by simp only [evE]
@[simp] theorem e_ow (i : Nat) : evE Φ (.ow i) env = getO env i := by simp only [evE]
@[simp] theorem e_non : evE Φ .non env = .ok .none := by simp only [evE]
@[simp] theorem e_bl (b : Bool) : evE Φ (.bl b) env = .ok (.bool b) := by simp only [evE]
@[simp] theorem e_int (i : Int) : evE Φ (.int i) env = .ok (.int i) := by simp only [evE]
@[simp] theorem e_str (x : Str) : evE Φ (.str x) env = .ok (.str x) := by simp only [evE]
@[simp] theorem e_cst (x : Str) (d : D) : evE Φ (.cst x d) env = .ok d := by simp only [evE]
@[simp] theorem e_bin (o : Operator) (a b : E) : evE Φ (.bin o a b) env = k2 (binD o) (evE Φ a env) (evE Φ b env) := by
  simp only [evE]
  cases evE Φ a env <;> first | rfl | (cases evE Φ b env <;> rfl)
@[simp] theorem e_neg (a : E) : evE Φ (.neg a) env = k1 negD (evE Φ a env) := by
  simp only [evE]
  cases evE Φ a env <;> rfl
@[simp] theorem e_not (a : E) : evE Φ (.not a) env = kB (fun b => .bool (!b)) (kT (evE Φ a env)) := by
  simp only [evE]
  cases evE Φ a env <;> first | rfl | skip
  simp only [ok_bind, kT_ok]
  rename_i x
  cases truth x <;> rfl
def kAnd (Φ : Nat → List D → R D) (r : E) (env : Env) : D → R Bool → R D
  | x, .ok b => if b then evE Φ r env else .ok x
  | _, .exc c => .exc c
  | _, .bad => .bad
def kOr (Φ : Nat → List D → R D) (r : E) (env : Env) : D → R Bool → R D
  | x, .ok b => if b then .ok x else evE Φ r env
  | _, .exc c => .exc c
  | _, .bad => .bad
@[simp] theorem kAnd_ok (r : E) (x : D) (b : Bool) : kAnd Φ r env x (.ok b) = if b then evE Φ r env else .ok x := (rfl)
@[simp] theorem kOr_ok (r : E) (x : D) (b : Bool) : kOr Φ r env x (.ok b) = if b then .ok x else evE Φ r env := (rfl)
def kAnd1 (Φ : Nat → List D → R D) (r : E) (env : Env) : R D → R D
  | .ok x => kAnd Φ r env x (truth x)
  | .exc c => .exc c
  | .bad => .bad
def kOr1 (Φ : Nat → List D → R D) (r : E) (env : Env) : R D → R D
  | .ok x => kOr Φ r env x (truth x)
  | .exc c => .exc c
  | .bad => .bad
@[simp] theorem kAnd1_ok (r : E) (x : D) : kAnd1 Φ r env (.ok x) = kAnd Φ r env x (truth x) := (rfl)
@[simp] theorem kOr1_ok (r : E) (x : D) : kOr1 Φ r env (.ok x) = kOr Φ r env x (truth x) := (rfl)
@[simp] theorem kAnd1_exc (r : E) (c : Nat) : kAnd1 Φ r env (.exc c) = .exc c := (rfl)
@[simp] theorem kOr1_exc (r : E) (c : Nat) : kOr1 Φ r env (.exc c) = .exc c := (rfl)
@[simp] theorem e_and (a r : E) : evE Φ (.and a r) env = kAnd1 Φ r env (evE Φ a env) := by
  simp only [evE]
  cases evE Φ a env <;> first | rfl | skip
  simp only [ok_bind, kAnd1_ok]
  rename_i x
  cases truth x <;> rfl
@[simp] theorem e_or (a r : E) : evE Φ (.or a r) env = kOr1 Φ r env (evE Φ a env) := by
  simp only [evE]
  cases evE Φ a env <;> first | rfl | skip
  simp only [ok_bind, kOr1_ok]
  rename_i x
  cases truth x <;> rfl
@[simp] theorem e_one (a : E) : evE Φ (.one a) env = evE Φ a env := by simp only [evE]
@[simp] theorem e_cmp (o : CmpOp) (a b : E) : evE Φ (.cmp o a b) env = k2 (cmpD o) (evE Φ a env) (evE Φ b env) := by
  simp only [evE]
  cases evE Φ a env <;> first | rfl | (cases evE Φ b env <;> rfl)
def kCh (Φ : Nat → List D → R D) (o : CmpOp) (c : E) (env : Env) : D → R D → R D
  | y, .ok (.bool b) => if b then k2 (cmpD o) (.ok y) (evE Φ c env) else .ok (.bool false)
  | _, _ => .bad
@[simp] theorem kCh_ok (o : CmpOp) (c : E) (y : D) (b : Bool) : kCh Φ o c env y (.ok (.bool b)) = if b then k2 (cmpD o) (.ok y) (evE Φ c env) else .ok (.bool false) := (rfl)
def kCh2 (Φ : Nat → List D → R D) (o o' : CmpOp) (c : E) (env : Env) : R D → R D → R D
  | .ok x, .ok y => kCh Φ o' c env y (cmpD o x y)
  | .ok _, .exc c => .exc c
  | .ok _, .bad => .bad
  | .exc c, _ => .exc c
  | .bad, _ => .bad
@[simp] theorem kCh2_ok (o o' : CmpOp) (c : E) (x y : D) : kCh2 Φ o o' c env (.ok x) (.ok y) = kCh Φ o' c env y (cmpD o x y) := (rfl)
@[simp] theorem e_chain (o o' : CmpOp) (a b c : E) : evE Φ (.chain o o' a b c) env = kCh2 Φ o o' c env (evE Φ a env) (evE Φ b env) := by
  simp only [evE]
  cases evE Φ a env <;> first | rfl | skip
  cases evE Φ b env <;> first | rfl | skip
  simp only [ok_bind, kCh2_ok]
  rename_i x y
  cases cmpD o x y with
  | ok d =>
    cases d <;> first | rfl | skip
    rename_i b
    cases b
    · rfl
    · simp only [kCh_ok, if_true]
      cases evE Φ c env <;> rfl
  | exc c => rfl
  | bad => rfl
@[simp] theorem e_isn (a : E) (neg : Bool) : evE Φ (.isn a neg) env = k1 (fun x => .ok (.bool (if neg then !isNone x else isNone x))) (evE Φ a env) := by
  simp only [evE]
  cases evE Φ a env <;> rfl
def isbD (b neg : Bool) : D → R D
  | .bool c => .ok (.bool (if neg then !decide (c = b) else decide (c = b)))
  | _ => .bad
@[simp] theorem e_isb (a : E) (b neg : Bool) : evE Φ (.isb a b neg) env = k1 (isbD b neg) (evE Φ a env) := by
  simp only [evE]
  cases evE Φ a env with
  | ok x => cases x <;> rfl
  | exc c => rfl
  | bad => rfl
def kIf (Φ : Nat → List D → R D) (a b : E) (env : Env) : R Bool → R D
  | .ok k => if k then evE Φ a env else evE Φ b env
  | .exc c => .exc c
  | .bad => .bad
@[simp] theorem kIf_ok (a b : E) (k : Bool) : kIf Φ a b env (.ok k) = if k then evE Φ a env else evE Φ b env := (rfl)
@[simp] theorem kIf_exc (a b : E) (c : Nat) : kIf Φ a b env (.exc c) = .exc c := (rfl)
@[simp] theorem e_ife (c a b : E) : evE Φ (.ife c a b) env = kIf Φ a b env (kT (evE Φ c env)) := by
  simp only [evE]
  cases evE Φ c env <;> first | rfl | skip
  simp only [ok_bind, kT_ok]
  rename_i x
  cases truth x <;> rfl
def kL (f : List D → R D) : R (List D) → R D
  | .ok xs => f xs
  | .exc c => .exc c
  | .bad => .bad
@[simp] theorem kL_ok (f : List D → R D) (xs : List D) : kL f (.ok xs) = f xs := (rfl)
@[simp] theorem kL_exc (f : List D → R D) (c : Nat) : kL f (.exc c) = .exc c := (rfl)
def mkTup (xs : List D) : R D := if xs.length ≤ lim then .ok (.tuple xs) else .bad
def mkLst (xs : List D) : R D := if xs.length ≤ lim then .ok (.list xs) else .bad
@[simp] theorem e_tup (es : Es) : evE Φ (.tup es) env = kL mkTup (evEs Φ es env) := by
  simp only [evE]
  cases evEs Φ es env <;> rfl
@[simp] theorem e_lst (es : Es) : evE Φ (.lst es) env = kL mkLst (evEs Φ es env) := by
  simp only [evE]
  cases evEs Φ es env <;> rfl
@[simp] theorem e_idx (a i : E) : evE Φ (.idx a i) env = k2 idxD (evE Φ a env) (evE Φ i env) := by
  simp only [evE]
  cases evE Φ a env <;> first | rfl | (cases evE Φ i env <;> rfl)
def kSl : R D → R (Option Int) → R (Option Int) → R D
  | .ok x, .ok l, .ok h => slD x l h
  | .ok _, .ok _, .exc c => .exc c
  | .ok _, .ok _, .bad => .bad
  | .ok _, .exc c, _ => .exc c
  | .ok _, .bad, _ => .bad
  | .exc c, _, _ => .exc c
  | .bad, _, _ => .bad
@[simp] theorem kSl_ok (x : D) (l h : Option Int) : kSl (.ok x) (.ok l) (.ok h) = slD x l h := (rfl)
@[simp] theorem e_sl (a : E) (lo hi : O) : evE Φ (.sl a lo hi) env = kSl (evE Φ a env) (evO Φ lo env) (evO Φ hi env) := by
  simp only [evE]
  cases evE Φ a env <;> first | rfl | skip
  cases evO Φ lo env <;> first | rfl | skip
  cases evO Φ hi env <;> rfl
@[simp] theorem e_rev (a : E) : evE Φ (.rev a) env = k1 revLD (evE Φ a env) := by
  simp only [evE]
  cases evE Φ a env <;> rfl
@[simp] theorem e_call (f : Nat) (es : Es) : evE Φ (.call f es) env = kL (Φ f) (evEs Φ es env) := by
  simp only [evE]
  cases evEs Φ es env <;> rfl
@[simp] theorem e_bi (b : Bi) (es : Es) : evE Φ (.bi b es) env = kL (biD b) (evEs Φ es env) := by
  simp only [evE]
  cases evEs Φ es env <;> rfl
@[simp] theorem e_isi (a : E) (t : Ty) : evE Φ (.isi a t) env = k1 (fun x => kB .bool (isT t x)) (evE Φ a env) := by
  simp only [evE]
  cases evE Φ a env <;> first | rfl | skip
  simp only [ok_bind, k1_ok]
  rename_i x
  cases isT t x <;> rfl
def kMt (m : Mt) : R D → R (List D) → R D
  | .ok x, r => if mtTy m x then kL (mtD m x) r else .bad
  | .exc c, _ => .exc c
  | .bad, _ => .bad
@[simp] theorem kMt_ok (m : Mt) (x : D) (r : R (List D)) : kMt m (.ok x) r = if mtTy m x then kL (mtD m x) r else .bad := (rfl)
@[simp] theorem e_mt (m : Mt) (a : E) (es : Es) : evE Φ (.mt m a es) env = kMt m (evE Φ a env) (evEs Φ es env) := by
  simp only [evE]
  cases evE Φ a env <;> first | rfl | skip
  simp only [ok_bind, kMt_ok]
  split
  · cases evEs Φ es env <;> rfl
  · rfl
/-- one turn of a comprehension, at an environment -/
def compAt (Φ : Nat → List D → R D) (x : E) (c : O) : Option Env → R (Option D)
  | none => .bad
  | some env1 => match evC Φ c env1 with
    | .ok k => if k then (match evE Φ x env1 with
      | .ok y => .ok (some y)
      | .exc c => .exc c
      | .bad => .bad) else .ok none
    | .exc c => .exc c
    | .bad => .bad
def compB (Φ : Nat → List D → R D) (x : E) (t : Tg) (c : O) (env : Env) (xs : List D) : R D :=
  if xs.length ≤ lim then (match compF (fun d => compAt Φ x c (asgn t d (wipeE env t.slots))) xs with
    | .ok ys => .ok (.list ys)
    | .exc c => .exc c
    | .bad => .bad) else .bad
@[simp] theorem e_comp (x : E) (t : Tg) (it : I) (c : O) : evE Φ (.comp x t it c) env = kL (compB Φ x t c env) (evI Φ it env) := by
  simp only [evE]
  cases evI Φ it env <;> first | rfl | skip
  simp only [ok_bind, kL_ok, compB]
  rename_i xs
  have e : (fun d => match asgn t d (wipeE env t.slots) with
      | none => (.bad : R (Option D))
      | some env1 => do
        let k ← evC Φ c env1
        if k then do
          let y ← evE Φ x env1
          pure (some y)
        else pure none) = fun d => compAt Φ x c (asgn t d (wipeE env t.slots)) := by
    funext d
    cases asgn t d (wipeE env t.slots) with
    | none => rfl
    | some env1 =>
      simp only [compAt]
      cases evC Φ c env1 with
      | ok k =>
        simp only [ok_bind]
        split
        · cases evE Φ x env1 <;> rfl
        · rfl
      | exc c => rfl
      | bad => rfl
  rw [← e]
  split
  · cases (compF _ xs) <;> rfl
  · rfl
@[simp] theorem e_trng (a : E) : evE Φ (.trng a) env = k1 trngD (evE Φ a env) := by
  simp only [evE]
  cases evE Φ a env <;> rfl
@[simp] theorem es_nil : evEs Φ .nil env = .ok [] := by simp only [evEs]
def kC : R D → R (List D) → R (List D)
  | .ok x, .ok xs => .ok (x :: xs)
  | .ok _, .exc c => .exc c
  | .ok _, .bad => .bad
  | .exc c, _ => .exc c
  | .bad, _ => .bad
@[simp] theorem kC_ok (x : D) (xs : List D) : kC (.ok x) (.ok xs) = .ok (x :: xs) := (rfl)
@[simp] theorem kC_exc (c : Nat) (r : R (List D)) : kC (.exc c) r = .exc c := (rfl)
@[simp] theorem kC_exc2 (x : D) (c : Nat) : kC (.ok x) (.exc c) = .exc c := (rfl)
@[simp] theorem es_cons (a : E) (r : Es) : evEs Φ (.cons a r) env = kC (evE Φ a env) (evEs Φ r env) := by
  simp only [evEs]
  cases evE Φ a env <;> first | rfl | (cases evEs Φ r env <;> rfl)
def kO : R D → R (Option Int)
  | .ok (.int i) => .ok (some i)
  | .exc c => .exc c
  | _ => .bad
@[simp] theorem kO_ok (i : Int) : kO (.ok (.int i)) = .ok (some i) := (rfl)
@[simp] theorem o_none : evO Φ .none env = .ok none := by simp only [evO]
@[simp] theorem o_some (a : E) : evO Φ (.some a) env = kO (evE Φ a env) := by
  simp only [evO]
  cases evE Φ a env with
  | ok x => cases x <;> rfl
  | exc c => rfl
  | bad => rfl
@[simp] theorem c_none' : evC Φ .none env = .ok true := by simp only [evC]
@[simp] theorem c_some (a : E) : evC Φ (.some a) env = kT (evE Φ a env) := by
  simp only [evC]
  cases evE Φ a env <;> rfl
def kI (f : D → R (List D)) : R D → R (List D)
  | .ok x => f x
  | .exc c => .exc c
  | .bad => .bad
@[simp] theorem kI_ok (f : D → R (List D)) (x : D) : kI f (.ok x) = f x := (rfl)
@[simp] theorem kI_exc (f : D → R (List D)) (c : Nat) : kI f (.exc c) = .exc c := (rfl)
def rngD : D → R (List D)
  | .int j => if decide (-(2 ^ 62) ≤ j) && decide (j ≤ lim) then .ok ((List.range j.toNat).map fun (k : Nat) => .int (k : Int)) else .bad
  | _ => .bad
def rng2D : D → D → R (List D)
  | .int i, .int j => if decide (-(2 ^ 61) ≤ i) && decide (i < 2 ^ 61) && decide (-(2 ^ 61) ≤ j) && decide (j < 2 ^ 61) then .ok ((List.range (j - i).toNat).map fun (k : Nat) => .int (i + (k : Int))) else .bad
  | _, _ => .bad
@[simp] theorem i_rng1' (a : E) : evI Φ (.rng1 a) env = kI rngD (evE Φ a env) := by
  simp only [evI]
  cases evE Φ a env with
  | ok x => cases x <;> rfl
  | exc c => rfl
  | bad => rfl
def kI2 (f : D → D → R (List D)) : R D → R D → R (List D)
  | .ok x, .ok y => f x y
  | .ok _, .exc c => .exc c
  | .ok _, .bad => .bad
  | .exc c, _ => .exc c
  | .bad, _ => .bad
@[simp] theorem kI2_ok (f : D → D → R (List D)) (x y : D) : kI2 f (.ok x) (.ok y) = f x y := (rfl)
@[simp] theorem i_rng2' (a b : E) : evI Φ (.rng2 a b) env = kI2 rng2D (evE Φ a env) (evE Φ b env) := by
  simp only [evI]
  cases evE Φ a env with
  | ok x =>
    cases evE Φ b env with
    | ok y => cases x <;> cases y <;> rfl
    | exc c => rfl
    | bad => rfl
  | exc c => rfl
  | bad => rfl
def kEn : R (List D) → R (List D)
  | .ok xs => .ok (enumD xs)
  | .exc c => .exc c
  | .bad => .bad
@[simp] theorem kEn_ok (xs : List D) : kEn (.ok xs) = .ok (enumD xs) := (rfl)
@[simp] theorem i_enum' (a : E) : evI Φ (.enum a) env = kEn (kI seqN (evE Φ a env)) := by
  simp only [evI]
  cases evE Φ a env with
  | ok x => simp only [ok_bind, kI_ok]; cases seqN x <;> rfl
  | exc c => rfl
  | bad => rfl
def zipD (x y : D) : R (List D) := match seqN x, seqN y with
  | .ok xs, .ok ys => .ok (List.zipWith (fun p q => .tuple [p, q]) xs ys)
  | _, _ => .bad
theorem seqN_noexc (x : D) (c : Nat) : seqN x ≠ .exc c := by cases x <;> simp [seqN]
@[simp] theorem i_zip' (a b : E) : evI Φ (.zip a b) env = kI2 zipD (evE Φ a env) (evE Φ b env) := by
  simp only [evI]
  cases evE Φ a env with
  | ok x =>
    cases evE Φ b env with
    | ok y =>
      simp only [ok_bind, kI2_ok, zipD]
      cases hx : seqN x with
      | ok xs =>
        cases hy : seqN y with
        | ok ys => rfl
        | exc c => exact absurd hy (seqN_noexc y c)
        | bad => rfl
      | exc c => exact absurd hx (seqN_noexc x c)
      | bad => rfl
    | exc c => rfl
    | bad => rfl
  | exc c => rfl
  | bad => rfl
@[simp] theorem i_seq' (a : E) : evI Φ (.seq a) env = kI seqD (evE Φ a env) := by
  simp only [evI]
  cases evE Φ a env <;> rfl
end
section
variable {Φ : Nat → List D → R D} {env : Env}
/-! statements -/
def kSeq (Φ : Nat → List D → R D) (r : S) : Rs → Rs
  | .nx env => evS Φ r env
  | .rt d => .rt d
  | .exc c env => .exc c env
  | .bad => .bad
@[simp] theorem kSeq_nx (r : S) : kSeq Φ r (.nx env) = evS Φ r env := (rfl)
@[simp] theorem kSeq_rt (r : S) (d : D) : kSeq Φ r (.rt d) = .rt d := (rfl)
@[simp] theorem kSeq_exc (r : S) (c : Nat) : kSeq Φ r (.exc c env) = .exc c env := (rfl)
theorem seq_eq (r : S) (x : Rs) : x.seq (evS Φ r) = kSeq Φ r x := by cases x <;> rfl
def kAsg2 (Φ : Nat → List D → R D) (r : S) : Option Env → Rs
  | some env => evS Φ r env
  | none => .bad
@[simp] theorem kAsg2_some (r : S) : kAsg2 Φ r (some env) = evS Φ r env := (rfl)
def kAsg (Φ : Nat → List D → R D) (t : Tg) (r : S) (env : Env) : R D → Rs
  | .ok d => kAsg2 Φ r (asgn t d env)
  | .exc c => .exc c env
  | .bad => .bad
@[simp] theorem kAsg_ok (t : Tg) (r : S) (d : D) : kAsg Φ t r env (.ok d) = kAsg2 Φ r (asgn t d env) := (rfl)
@[simp] theorem kAsg_exc (t : Tg) (r : S) (c : Nat) : kAsg Φ t r env (.exc c) = .exc c env := (rfl)
@[simp] theorem s_nil' : evS Φ .nil env = .nx env := by simp only [evS]
@[simp] theorem s_asg' (t : Tg) (e : E) (r : S) : evS Φ (.asg t e r) env = kAsg Φ t r env (evE Φ e env) := by
  simp only [evS]
  cases evE Φ e env with
  | ok d => simp only [ok_then, kAsg_ok]; cases asgn t d env <;> rfl
  | exc c => rfl
  | bad => rfl
def kPar (Φ : Nat → List D → R D) (i j : Nat) (r : S) (env : Env) : R D → R D → Rs
  | .ok x, .ok y => if i < env.length ∧ j < env.length then evS Φ r ((env.set i (some (.val x))).set j (some (.val y))) else .bad
  | .ok _, .exc c => .exc c env
  | .ok _, .bad => .bad
  | .exc c, _ => .exc c env
  | .bad, _ => .bad
@[simp] theorem kPar_ok (i j : Nat) (r : S) (x y : D) : kPar Φ i j r env (.ok x) (.ok y) = if i < env.length ∧ j < env.length then evS Φ r ((env.set i (some (.val x))).set j (some (.val y))) else .bad := (rfl)
@[simp] theorem s_par' (i j : Nat) (a b : E) (r : S) : evS Φ (.par i j a b r) env = kPar Φ i j r env (evE Φ a env) (evE Φ b env) := by
  simp only [evS]
  cases evE Φ a env <;> first | rfl | (cases evE Φ b env <;> rfl)
def kNew (Φ : Nat → List D → R D) (i : Nat) (r : S) (env : Env) : R D → Rs
  | .ok (.list ds) => if i < env.length then evS Φ r (env.set i (some (.own ds))) else .bad
  | .exc c => .exc c env
  | _ => .bad
@[simp] theorem kNew_ok (i : Nat) (r : S) (ds : List D) : kNew Φ i r env (.ok (.list ds)) = if i < env.length then evS Φ r (env.set i (some (.own ds))) else .bad := (rfl)
@[simp] theorem s_new' (i : Nat) (e : E) (r : S) : evS Φ (.new i e r) env = kNew Φ i r env (evE Φ e env) := by
  simp only [evS]
  cases evE Φ e env with
  | ok d =>
    cases d <;> first | rfl | skip
    simp only [ok_then, kNew_ok, putW]
    split <;> rfl
  | exc c => rfl
  | bad => rfl
def kApp (Φ : Nat → List D → R D) (i : Nat) (r : S) (env : Env) (ds : List D) : R D → Rs
  | .ok d => if ds.length < lim then evS Φ r (env.set i (some (.own (ds ++ [d])))) else .bad
  | .exc c => .exc c env
  | .bad => .bad
@[simp] theorem kApp_ok (i : Nat) (r : S) (ds : List D) (d : D) : kApp Φ i r env ds (.ok d) = if ds.length < lim then evS Φ r (env.set i (some (.own (ds ++ [d])))) else .bad := (rfl)
def kApp1 (Φ : Nat → List D → R D) (i : Nat) (r : S) (env : Env) (x : R D) : Option (Option W) → Rs
  | some (some (.own ds)) => kApp Φ i r env ds x
  | _ => .bad
@[simp] theorem kApp1_ok (i : Nat) (r : S) (ds : List D) (x : R D) : kApp1 Φ i r env x (some (some (.own ds))) = kApp Φ i r env ds x := (rfl)
@[simp] theorem s_app' (i : Nat) (e : E) (r : S) : evS Φ (.app i e r) env = kApp1 Φ i r env (evE Φ e env) env[i]? := by
  simp only [evS]
  rcases env[i]? with _ | _ | w <;> first | rfl | skip
  cases w <;> first | rfl | skip
  simp only [kApp1_ok]
  cases evE Φ e env <;> rfl
def kExt (Φ : Nat → List D → R D) (i : Nat) (r : S) (env : Env) (ds : List D) : R D → Rs
  | .ok (.list es) => if ds.length + es.length ≤ lim then evS Φ r (env.set i (some (.own (ds ++ es)))) else .bad
  | .exc c => .exc c env
  | _ => .bad
@[simp] theorem kExt_ok (i : Nat) (r : S) (ds es : List D) : kExt Φ i r env ds (.ok (.list es)) = if ds.length + es.length ≤ lim then evS Φ r (env.set i (some (.own (ds ++ es)))) else .bad := (rfl)
def kExt1 (Φ : Nat → List D → R D) (i : Nat) (r : S) (env : Env) (x : R D) : Option (Option W) → Rs
  | some (some (.own ds)) => kExt Φ i r env ds x
  | _ => .bad
@[simp] theorem kExt1_ok (i : Nat) (r : S) (ds : List D) (x : R D) : kExt1 Φ i r env x (some (some (.own ds))) = kExt Φ i r env ds x := (rfl)
@[simp] theorem s_ext' (i : Nat) (e : E) (r : S) : evS Φ (.ext i e r) env = kExt1 Φ i r env (evE Φ e env) env[i]? := by
  simp only [evS]
  rcases env[i]? with _ | _ | w <;> first | rfl | skip
  cases w <;> first | rfl | skip
  simp only [kExt1_ok]
  cases evE Φ e env with
  | ok d => cases d <;> rfl
  | exc c => rfl
  | bad => rfl
def kFrz (Φ : Nat → List D → R D) (i : Nat) (r : S) (env : Env) : Option (Option W) → Rs
  | some (some (.own ds)) => evS Φ r (env.set i (some (.val (.list ds))))
  | _ => .bad
@[simp] theorem kFrz_ok (i : Nat) (r : S) (ds : List D) : kFrz Φ i r env (some (some (.own ds))) = evS Φ r (env.set i (some (.val (.list ds)))) := (rfl)
@[simp] theorem s_frz' (i : Nat) (r : S) : evS Φ (.frz i r) env = kFrz Φ i r env env[i]? := by
  simp only [evS]
  rcases env[i]? with _ | _ | w <;> first | rfl | (cases w <;> rfl)
def kSet2 (Φ : Nat → List D → R D) (i : Nat) (r : S) (env : Env) (ds : List D) (d : D) : Option Nat → Rs
  | some j => evS Φ r (env.set i (some (.own (ds.set j d))))
  | none => .bad
@[simp] theorem kSet2_ok (i : Nat) (r : S) (ds : List D) (d : D) (j : Nat) : kSet2 Φ i r env ds d (some j) = evS Φ r (env.set i (some (.own (ds.set j d)))) := (rfl)
def kSet (Φ : Nat → List D → R D) (i : Nat) (r : S) (env : Env) (ds : List D) : R D → R D → Rs
  | .ok d, .ok (.int n) => kSet2 Φ i r env ds d (L2.ixN ds.length n)
  | .ok _, .exc c => .exc c env
  | .ok _, _ => .bad
  | .exc c, _ => .exc c env
  | .bad, _ => .bad
@[simp] theorem kSet_ok (i : Nat) (r : S) (ds : List D) (d : D) (n : Int) : kSet Φ i r env ds (.ok d) (.ok (.int n)) = kSet2 Φ i r env ds d (L2.ixN ds.length n) := (rfl)
def kSet1 (Φ : Nat → List D → R D) (i : Nat) (r : S) (env : Env) (x k : R D) : Option (Option W) → Rs
  | some (some (.own ds)) => kSet Φ i r env ds x k
  | _ => .bad
@[simp] theorem kSet1_ok (i : Nat) (r : S) (ds : List D) (x k : R D) : kSet1 Φ i r env x k (some (some (.own ds))) = kSet Φ i r env ds x k := (rfl)
@[simp] theorem s_seti' (i : Nat) (k e : E) (r : S) : evS Φ (.seti i k e r) env = kSet1 Φ i r env (evE Φ e env) (evE Φ k env) env[i]? := by
  simp only [evS]
  rcases env[i]? with _ | _ | w <;> first | rfl | skip
  cases w <;> first | rfl | skip
  simp only [kSet1_ok]
  cases evE Φ e env with
  | ok d =>
    cases evE Φ k env with
    | ok x =>
      cases x <;> first | rfl | (simp only [ok_then, kSet_ok]; rename_i ds n; cases L2.ixN ds.length n <;> rfl)
    | exc c => rfl
    | bad => rfl
  | exc c => rfl
  | bad => rfl
def kAug (Φ : Nat → List D → R D) (o : Operator) (i : Nat) (r : S) (env : Env) : R D → Rs
  | .ok z => kSeq Φ r (augW o env i z)
  | .exc c => .exc c env
  | .bad => .bad
@[simp] theorem kAug_ok (o : Operator) (i : Nat) (r : S) (z : D) : kAug Φ o i r env (.ok z) = kSeq Φ r (augW o env i z) := (rfl)
@[simp] theorem augW_add (i : Nat) (n : Int) : augW .Add env i (.int n) = .nx (env.set i (some (.val (.int n)))) := (rfl)
@[simp] theorem augW_sub (i : Nat) (n : Int) : augW .Sub env i (.int n) = .nx (env.set i (some (.val (.int n)))) := (rfl)
@[simp] theorem s_aug' (i : Nat) (o : Operator) (e : E) (r : S) : evS Φ (.aug i o e r) env = kAug Φ o i r env (k2 (binD o) (getV env i) (evE Φ e env)) := by
  simp only [evS]
  cases getV env i with
  | ok x =>
    cases evE Φ e env with
    | ok y =>
      simp only [ok_then, k2_ok]
      cases binD o x y with
      | ok z => simp only [ok_then, kAug_ok, seq_eq]
      | exc c => rfl
      | bad => rfl
    | exc c => rfl
    | bad => rfl
  | exc c => rfl
  | bad => rfl
def kExp (Φ : Nat → List D → R D) (r : S) (env : Env) : R D → Rs
  | .ok _ => evS Φ r env
  | .exc c => .exc c env
  | .bad => .bad
@[simp] theorem kExp_ok (r : S) (d : D) : kExp Φ r env (.ok d) = evS Φ r env := (rfl)
@[simp] theorem kExp_exc (r : S) (c : Nat) : kExp Φ r env (.exc c) = .exc c env := (rfl)
@[simp] theorem s_exp' (e : E) (r : S) : evS Φ (.exp e r) env = kExp Φ r env (evE Φ e env) := by
  simp only [evS]
  cases evE Φ e env <;> rfl
def kRet (env : Env) : R D → Rs
  | .ok d => .rt d
  | .exc c => .exc c env
  | .bad => .bad
@[simp] theorem kRet_ok (d : D) : kRet env (.ok d) = .rt d := (rfl)
@[simp] theorem kRet_exc (c : Nat) : kRet env (.exc c) = .exc c env := (rfl)
@[simp] theorem s_ret' (e : E) (r : S) : evS Φ (.ret e r) env = kRet env (evE Φ e env) := by
  simp only [evS]
  cases evE Φ e env <;> rfl
def kIte (Φ : Nat → List D → R D) (a b r : S) (env : Env) : R Bool → Rs
  | .ok k => if k then kSeq Φ r (evS Φ a env) else kSeq Φ r (evS Φ b env)
  | .exc c => .exc c env
  | .bad => .bad
@[simp] theorem kIte_ok (a b r : S) (k : Bool) : kIte Φ a b r env (.ok k) = if k then kSeq Φ r (evS Φ a env) else kSeq Φ r (evS Φ b env) := (rfl)
@[simp] theorem kIte_exc (a b r : S) (c : Nat) : kIte Φ a b r env (.exc c) = .exc c env := (rfl)
@[simp] theorem s_ite' (c : E) (a b r : S) : evS Φ (.ite c a b r) env = kIte Φ a b r env (kT (evE Φ c env)) := by
  simp only [evS, seq_eq]
  cases evE Φ c env with
  | ok x =>
    simp only [ok_then, kT_ok]
    cases truth x with
    | ok k => simp only [ok_then, kIte_ok]; cases k <;> rfl
    | exc c => rfl
    | bad => rfl
  | exc c => rfl
  | bad => rfl
/-- a for's turns -/
def forB (Φ : Nat → List D → R D) (t : Tg) (b : S) : List D → Env → Rs
  | [], env => .nx env
  | d :: ds, env => (kAsg2 Φ b (asgn t d env)).seq (forB Φ t b ds)
def kFor (Φ : Nat → List D → R D) (t : Tg) (b r : S) (env : Env) : R (List D) → Rs
  | .ok xs => kSeq Φ r (forB Φ t b xs env)
  | .exc c => .exc c env
  | .bad => .bad
@[simp] theorem kFor_ok (t : Tg) (b r : S) (xs : List D) : kFor Φ t b r env (.ok xs) = kSeq Φ r (forB Φ t b xs env) := (rfl)
theorem forB_eq (t : Tg) (b : S) : ∀ (xs : List D) (env : Env), forL (fun d env => match asgn t d env with
    | some env' => evS Φ b env'
    | none => .bad) xs env = forB Φ t b xs env
  | [], env => rfl
  | d :: ds, env => by
    simp only [forL, forB]
    cases asgn t d env with
    | none => rfl
    | some env' =>
      simp only [kAsg2_some]
      cases evS Φ b env' <;> first | rfl | skip
      exact forB_eq t b ds _
@[simp] theorem s_frl' (t : Tg) (it : I) (b r : S) : evS Φ (.frl t it b r) env = kFor Φ t b r env (evI Φ it env) := by
  simp only [evS, seq_eq]
  cases evI Φ it env with
  | ok xs =>
    simp only [ok_then, kFor_ok]
    congr 1
    exact forB_eq t b xs env
  | exc c => rfl
  | bad => rfl
@[simp] theorem forB_nil (t : Tg) (b : S) : forB Φ t b [] env = .nx env := (rfl)
theorem forB_cons (t : Tg) (b : S) (d : D) (ds : List D) : forB Φ t b (d :: ds) env = (kAsg2 Φ b (asgn t d env)).seq (forB Φ t b ds) := rfl
/-- a while's turns -/
def whlB (Φ : Nat → List D → R D) (c : E) (b : S) (n : Nat) (env : Env) : Rs := whileL (fun env => do let x ← evE Φ c env; truth x) (evS Φ b) n env
@[simp] theorem s_whl' (c : E) (b r : S) : evS Φ (.whl c b r) env = kSeq Φ r (whlB Φ c b WF env) := by
  simp only [evS, seq_eq, whlB]
def kWh (Φ : Nat → List D → R D) (c : E) (b : S) (n : Nat) (env : Env) : R Bool → Rs
  | .ok k => if k then (evS Φ b env).seq (whlB Φ c b n) else .nx env
  | .exc c => .exc c env
  | .bad => .bad
@[simp] theorem kWh_ok (c : E) (b : S) (n : Nat) (k : Bool) : kWh Φ c b n env (.ok k) = if k then (evS Φ b env).seq (whlB Φ c b n) else .nx env := (rfl)
theorem whlB_succ (c : E) (b : S) (n : Nat) : whlB Φ c b (n + 1) env = kWh Φ c b n env (kT (evE Φ c env)) := by
  unfold whlB
  rw [whileL]
  cases evE Φ c env with
  | ok x =>
    simp only [ok_bind, kT_ok]
    cases truth x <;> rfl
  | exc c => rfl
  | bad => rfl
def kTry (Φ : Nat → List D → R D) (ps : List Nat) (h : Hs) : Rs → Rs
  | .exc c env => if ps.contains c then evH Φ h c env else .bad
  | .nx env => .nx env
  | .rt d => .rt d
  | .bad => .bad
@[simp] theorem kTry_exc (ps : List Nat) (h : Hs) (c : Nat) : kTry Φ ps h (.exc c env) = if ps.contains c then evH Φ h c env else .bad := (rfl)
@[simp] theorem kTry_nx (ps : List Nat) (h : Hs) : kTry Φ ps h (.nx env) = .nx env := (rfl)
@[simp] theorem kTry_rt (ps : List Nat) (h : Hs) (d : D) : kTry Φ ps h (.rt d) = .rt d := (rfl)
@[simp] theorem s_try' (ps : List Nat) (b : S) (h : Hs) (r : S) : evS Φ (.try ps b h r) env = kSeq Φ r (kTry Φ ps h (evS Φ b env)) := by
  simp only [evS, seq_eq]
  cases evS Φ b env <;> rfl
@[simp] theorem s_rse' (c : Nat) (r : S) : evS Φ (.rse c r) env = .exc c env := by simp only [evS]
@[simp] theorem s_pass' (r : S) : evS Φ (.pass r) env = evS Φ r env := by simp only [evS]
def kH : Rs → Rs
  | .exc _ _ => .bad
  | .nx env => .nx env
  | .rt d => .rt d
  | .bad => .bad
@[simp] theorem kH_nx : kH (.nx env) = .nx env := (rfl)
@[simp] theorem kH_rt (d : D) : kH (.rt d) = .rt d := (rfl)
@[simp] theorem h_nil' (c : Nat) : evH Φ .nil c env = .exc c env := by simp only [evH]
@[simp] theorem h_cons' (c' : Nat) (s : S) (h : Hs) (c : Nat) : evH Φ (.cons c' s h) c env = if c = c' then kH (evS Φ s env) else evH Φ h c env := by
  simp only [evH]
  split
  · cases evS Φ s env <;> rfl
  · rfl
/-! slots -/
@[simp] theorem getV_0 (w : D) (r : Env) : getV (some (.val w) :: r) 0 = .ok w := (rfl)
@[simp] theorem getV_s (w : Option W) (r : Env) (i : Nat) : getV (w :: r) (i + 1) = getV r i := (rfl)
@[simp] theorem getO_0 (ds : List D) (r : Env) : getO (some (.own ds) :: r) 0 = .ok (.list ds) := (rfl)
@[simp] theorem getO_s (w : Option W) (r : Env) (i : Nat) : getO (w :: r) (i + 1) = getO r i := (rfl)
@[simp] theorem asgn_name (i : Nat) (d : D) : asgn (.name i) d env = if i < env.length then some (env.set i (some (.val d))) else none := (rfl)
@[simp] theorem asgn_2 (a b : Tg) (x y : D) : asgn (.t2 a b) (.tuple [x, y]) env = (asgn a x env).bind fun e => asgn b y e := (rfl)
@[simp] theorem asgn_3 (a b c : Tg) (x y z : D) : asgn (.t3 a b c) (.tuple [x, y, z]) env = (asgn a x env).bind fun e => (asgn b y e).bind fun e => asgn c z e := (rfl)
@[simp] theorem asgn_4 (a b c d : Tg) (x y z w : D) : asgn (.t4 a b c d) (.tuple [x, y, z, w]) env = (asgn a x env).bind fun e => (asgn b y e).bind fun e => (asgn c z e).bind fun e => asgn d w e := (rfl)
/-- a def's end -/
def endR : Rs → R D
  | .nx _ => .ok .none
  | .rt d => .ok d
  | .exc c _ => .exc c
  | .bad => .bad
@[simp] theorem endR_nx : endR (.nx env) = .ok .none := (rfl)
@[simp] theorem endR_rt (d : D) : endR (.rt d) = .ok d := (rfl)
@[simp] theorem endR_exc (c : Nat) : endR (.exc c env) = .exc c := (rfl)
theorem run_eq (d : Df) (args : List D) : run Φ d args = endR (evS Φ d.body (env0 d.N.length args)) := by
  unfold run
  cases evS Φ d.body (env0 d.N.length args) <;> rfl
theorem call_eq {T : List Df} {k f : Nat} {d : Df} {args : List D} (h : T[f]? = some d) (hl : args.length = d.ps) : call T (k + 1) f args = endR (evS (call T k) d.body (env0 d.N.length args)) := by
  simp only [call, h, hl, if_true]
  exact run_eq d args
end
end M

set_option linter.all false
set_option maxRecDepth 100000
namespace M
open PySem
/-! ### the data's equations: for simp -/
@[simp] theorem limE : lim = 100000 := (rfl)
@[simp] theorem bAdd (a b : D) : binD .Add a b = addD a b := (rfl)
@[simp] theorem bSub (a b : D) : binD .Sub a b = subD a b := (rfl)
@[simp] theorem bMul (a b : D) : binD .Mult a b = mulD a b := (rfl)
@[simp] theorem bMod (a b : D) : binD .Mod a b = modD a b := (rfl)
@[simp] theorem bDiv (a b : D) : binD .FloorDiv a b = divD a b := (rfl)
@[simp] theorem bPow (a b : D) : binD .Pow a b = powD a b := (rfl)
@[simp] theorem addI (i j : Int) : addD (.int i) (.int j) = .ok (.int (i + j)) := (rfl)
@[simp] theorem subI (i j : Int) : subD (.int i) (.int j) = .ok (.int (i - j)) := (rfl)
@[simp] theorem addS (x y : Str) : addD (.str x) (.str y) = if x.length + y.length ≤ 100000 then .ok (.str (x ++ y)) else .bad := (rfl)
@[simp] theorem addL (x y : List D) : addD (.list x) (.list y) = if x.length + y.length ≤ 100000 then .ok (.list (x ++ y)) else .bad := (rfl)
@[simp] theorem addT (x y : List D) : addD (.tuple x) (.tuple y) = if x.length + y.length ≤ 100000 then .ok (.tuple (x ++ y)) else .bad := (rfl)
@[simp] theorem mulI (i j : Int) : mulD (.int i) (.int j) = if smallI i || smallI j then .ok (.int (i * j)) else .bad := (rfl)
@[simp] theorem mulL (xs : List D) (k : Int) : mulD (.list xs) (.int k) = if decide (k < 2 ^ 63) && decide (-(2 ^ 63) ≤ k) && decide (xs.length * k.toNat ≤ 100000) then .ok (.list (List.replicate k.toNat xs).flatten) else .bad := (rfl)
@[simp] theorem mulS (x : Str) (k : Int) : mulD (.str x) (.int k) = if decide (0 ≤ k) && decide (k ≤ 10000) && decide (x.length * k.toNat ≤ 100000) then .ok (.str (Txt.mul x k)) else .bad := (rfl)
@[simp] theorem mulT (xs : List D) (k : Int) : mulD (.tuple xs) (.int k) = if !xs.isEmpty && (decide (2 ≤ k) && (decide (k ≤ 1000) && decide (xs.length ≤ 1000))) then .ok (.tuple (List.replicate k.toNat xs).flatten) else .bad := (rfl)
@[simp] theorem modI (i j : Int) : modD (.int i) (.int j) = if 0 < j then .ok (.int (i % j)) else .bad := (rfl)
@[simp] theorem divI (i j : Int) : divD (.int i) (.int j) = if decide (0 < j) && decide (j < 1073741824) then .ok (.int (i / j)) else .bad := (rfl)
@[simp] theorem powI (i j : Int) : powD (.int i) (.int j) = if decide (0 ≤ j) && decide (j ≤ 1000000) && decide (i.natAbs < 2 ^ 64) then .ok (.int (i ^ j.toNat)) else .bad := (rfl)
@[simp] theorem negI (i : Int) : negD (.int i) = .ok (.int (-i)) := (rfl)
@[simp] theorem cEq (a b : D) : cmpD .Eq a b = kB .bool (eqD a b) := by
  simp only [cmpD]
  cases eqD a b <;> rfl
@[simp] theorem cNe (a b : D) : cmpD .NotEq a b = kB (fun c => .bool (!c)) (eqD a b) := by
  simp only [cmpD]
  cases eqD a b <;> rfl
@[simp] theorem cLt (i j : Int) : cmpD .Lt (.int i) (.int j) = .ok (.bool (decide (i < j))) := (rfl)
@[simp] theorem cLe (i j : Int) : cmpD .LtE (.int i) (.int j) = .ok (.bool (decide (i ≤ j))) := (rfl)
@[simp] theorem cGt (i j : Int) : cmpD .Gt (.int i) (.int j) = .ok (.bool (decide (j < i))) := (rfl)
@[simp] theorem cGe (i j : Int) : cmpD .GtE (.int i) (.int j) = .ok (.bool (decide (j ≤ i))) := (rfl)
@[simp] theorem cIn (a b : D) : cmpD .In a b = kB .bool (inD a b) := by
  simp only [cmpD]
  cases inD a b <;> rfl
@[simp] theorem cNi (a b : D) : cmpD .NotIn a b = kB (fun c => .bool (!c)) (inD a b) := by
  simp only [cmpD]
  cases inD a b <;> rfl
@[simp] theorem kB_exc (f : Bool → D) (c : Nat) : kB f (.exc c) = .exc c := (rfl)
@[simp] theorem trN : truth .none = .ok false := (rfl)
@[simp] theorem trB (b : Bool) : truth (.bool b) = .ok b := (rfl)
@[simp] theorem trI (i : Int) : truth (.int i) = .ok (i != 0) := (rfl)
@[simp] theorem trS (x : Str) : truth (.str x) = if x.length ≤ 100000 then .ok (x.length != 0) else .bad := (rfl)
@[simp] theorem trL (xs : List D) : truth (.list xs) = .ok (!xs.isEmpty) := (rfl)
@[simp] theorem trT (xs : List D) : truth (.tuple xs) = .ok (!xs.isEmpty) := (rfl)
@[simp] theorem eqI (i j : Int) : eqD (.int i) (.int j) = .ok (decide (i = j)) := by
  have e : ∀ i : Int, SeqAt.shaped (.int i) = true := fun i => by simp [SeqAt.shaped, PyData.canLay0, PyData.depth]
  unfold eqD
  rw [e, e]
  simp only [Bool.and_self, if_true, PyData.eqv]
  rfl
def kAt : Option D → R D
  | some d => .ok d
  | none => .bad
@[simp] theorem kAt_some (d : D) : kAt (some d) = .ok d := (rfl)
@[simp] theorem idL (xs : List D) (i : Int) : idxD (.list xs) (.int i) = kAt (L2.atI xs i) := by
  simp only [idxD]
  cases L2.atI xs i <;> rfl
@[simp] theorem idT (xs : List D) (i : Int) : idxD (.tuple xs) (.int i) = kAt (L2.atI xs i) := by
  simp only [idxD]
  cases L2.atI xs i <;> rfl
def kAtS : Option Nat → R D
  | some c => .ok (.str ⟨#[c]⟩)
  | none => .bad
@[simp] theorem kAtS_some (c : Nat) : kAtS (some c) = .ok (.str ⟨#[c]⟩) := (rfl)
@[simp] theorem idS (z : Str) (i : Int) : idxD (.str z) (.int i) = if z.length ≤ 100000 then kAtS (L2.atI z.cps.toList i) else .bad := by
  by_cases h : z.length ≤ lim
  · have h' : z.length ≤ 100000 := h
    rw [if_pos h', idxD, if_pos h]
    cases L2.atI z.cps.toList i <;> rfl
  · have h' : ¬ z.length ≤ 100000 := h
    rw [if_neg h', idxD, if_neg h]
/-! places in lists that are written out -/
theorem atI_get {α : Type} {xs : List α} {i : Int} {x : α} (h0 : 0 ≤ i) (h : xs[i.toNat]? = some x) : L2.atI xs i = some x := by
  have h1 := (List.getElem?_eq_some_iff.mp h).1
  unfold L2.atI L2.ixN
  rw [if_pos h0, if_pos (by omega), Option.bind_some, h]
@[simp] theorem at0 {α : Type} (x : α) (xs : List α) : L2.atI (x :: xs) 0 = some x := atI_get (by decide) rfl
@[simp] theorem at1 {α : Type} (x y : α) (xs : List α) : L2.atI (x :: y :: xs) 1 = some y := atI_get (by decide) rfl
@[simp] theorem at2 {α : Type} (x y z : α) (xs : List α) : L2.atI (x :: y :: z :: xs) 2 = some z := atI_get (by decide) rfl
@[simp] theorem at3 {α : Type} (x y z w : α) (xs : List α) : L2.atI (x :: y :: z :: w :: xs) 3 = some w := atI_get (by decide) rfl
@[simp] theorem atNat {α : Type} (xs : List α) (i : Nat) (h : i < xs.length) : L2.atI xs (i : Int) = some xs[i] := atI_get (by omega) (by simp)
@[simp] theorem tIi (i : Int) : isT .int (.int i) = .ok true := (rfl)
@[simp] theorem tIb (b : Bool) : isT .int (.bool b) = .ok true := (rfl)
@[simp] theorem tIn : isT .int .none = .ok false := (rfl)
@[simp] theorem tIs (x : Str) : isT .int (.str x) = .ok false := (rfl)
@[simp] theorem tIl (x : List D) : isT .int (.list x) = .ok false := (rfl)
@[simp] theorem tIt' (x : List D) : isT .int (.tuple x) = .ok false := (rfl)
@[simp] theorem tBi (i : Int) : isT .bool (.int i) = .ok false := (rfl)
@[simp] theorem tBb (b : Bool) : isT .bool (.bool b) = .ok true := (rfl)
@[simp] theorem tBn : isT .bool .none = .ok false := (rfl)
@[simp] theorem tBs (x : Str) : isT .bool (.str x) = .ok false := (rfl)
@[simp] theorem tBl (x : List D) : isT .bool (.list x) = .ok false := (rfl)
@[simp] theorem tBt (x : List D) : isT .bool (.tuple x) = .ok false := (rfl)
@[simp] theorem tSi (i : Int) : isT .str (.int i) = .ok false := (rfl)
@[simp] theorem tSb (b : Bool) : isT .str (.bool b) = .ok false := (rfl)
@[simp] theorem tSn : isT .str .none = .ok false := (rfl)
@[simp] theorem tSs (x : Str) : isT .str (.str x) = .ok true := (rfl)
@[simp] theorem tSl (x : List D) : isT .str (.list x) = .ok false := (rfl)
@[simp] theorem tSt' (x : List D) : isT .str (.tuple x) = .ok false := (rfl)
@[simp] theorem tTi (i : Int) : isT .tuple (.int i) = .ok false := (rfl)
@[simp] theorem tTb (b : Bool) : isT .tuple (.bool b) = .ok false := (rfl)
@[simp] theorem tTn : isT .tuple .none = .ok false := (rfl)
@[simp] theorem tTs (x : Str) : isT .tuple (.str x) = .ok false := (rfl)
@[simp] theorem tTl (x : List D) : isT .tuple (.list x) = .ok false := (rfl)
@[simp] theorem tTt' (x : List D) : isT .tuple (.tuple x) = .ok true := (rfl)
@[simp] theorem tLi (i : Int) : isT .list (.int i) = .ok false := (rfl)
@[simp] theorem tLb (b : Bool) : isT .list (.bool b) = .ok false := (rfl)
@[simp] theorem tLn : isT .list .none = .ok false := (rfl)
@[simp] theorem tLs (x : Str) : isT .list (.str x) = .ok false := (rfl)
@[simp] theorem tLl (x : List D) : isT .list (.list x) = .ok true := (rfl)
@[simp] theorem tLt (x : List D) : isT .list (.tuple x) = .ok false := (rfl)
@[simp] theorem lenL (xs : List D) : biD .len [.list xs] = .ok (.int xs.length) := (rfl)
@[simp] theorem lenT (xs : List D) : biD .len [.tuple xs] = .ok (.int xs.length) := (rfl)
@[simp] theorem lenS (x : Str) : biD .len [.str x] = if x.length ≤ 100000 then .ok (.int x.length) else .bad := (rfl)
@[simp] theorem toTup (xs : List D) : biD .tuple [.list xs] = .ok (.tuple xs) := (rfl)
@[simp] theorem toTup2 (xs : List D) : biD .tuple [.tuple xs] = .ok (.tuple xs) := (rfl)
@[simp] theorem toLst (xs : List D) : biD .list [.list xs] = .ok (.list xs) := (rfl)
@[simp] theorem toLst2 (xs : List D) : biD .list [.tuple xs] = .ok (.list xs) := (rfl)
@[simp] theorem toInt1 (b : Bool) : biD .toInt [.bool b] = .ok (.int (if b then 1 else 0)) := (rfl)
@[simp] theorem toInt2 (i : Int) : biD .toInt [.int i] = .ok (.int i) := (rfl)
@[simp] theorem min2 (i j : Int) : biD .min [.int i, .int j] = .ok (.int (if j < i then j else i)) := (rfl)
@[simp] theorem max2 (i j : Int) : biD .max [.int i, .int j] = .ok (.int (if j > i then j else i)) := (rfl)
@[simp] theorem mkTupE (xs : List D) : mkTup xs = if xs.length ≤ 100000 then .ok (.tuple xs) else .bad := (rfl)
@[simp] theorem mkLstE (xs : List D) : mkLst xs = if xs.length ≤ 100000 then .ok (.list xs) else .bad := (rfl)
@[simp] theorem slL (xs : List D) (l h : Option Int) : slD (.list xs) l h = .ok (.list (cutL xs l h)) := (rfl)
@[simp] theorem slT (xs : List D) (l h : Option Int) : slD (.tuple xs) l h = .ok (.tuple (cutL xs l h)) := (rfl)
@[simp] theorem slS (z : Str) (l h : Option Int) : slD (.str z) l h = if z.length ≤ 100000 then .ok (.str ⟨(cutL z.cps.toList l h).toArray⟩) else .bad := (rfl)
@[simp] theorem seqL (xs : List D) : seqD (.list xs) = .ok xs := (rfl)
@[simp] theorem seqT (xs : List D) : seqD (.tuple xs) = .ok xs := (rfl)
@[simp] theorem seqS (x : Str) : seqD (.str x) = .ok (x.cps.toList.map fun c => .str ⟨#[c]⟩) := (rfl)
@[simp] theorem seqNL (xs : List D) : seqN (.list xs) = .ok xs := (rfl)
@[simp] theorem seqNT (xs : List D) : seqN (.tuple xs) = .ok xs := (rfl)
@[simp] theorem seqNS (x : Str) : seqN (.str x) = .ok (x.cps.toList.map fun c => .str ⟨#[c]⟩) := (rfl)
@[simp] theorem isNn : isNone .none = true := (rfl)
@[simp] theorem isNi (i : Int) : isNone (.int i) = false := (rfl)
@[simp] theorem isNb (b : Bool) : isNone (.bool b) = false := (rfl)
@[simp] theorem isNs (x : Str) : isNone (.str x) = false := (rfl)
@[simp] theorem isNl (x : List D) : isNone (.list x) = false := (rfl)
@[simp] theorem isNt (x : List D) : isNone (.tuple x) = false := (rfl)
@[simp] theorem revL' (xs : List D) : revLD (.list xs) = .ok (.list xs.reverse) := (rfl)
@[simp] theorem revT' (xs : List D) : revLD (.tuple xs) = .ok (.tuple xs.reverse) := (rfl)
@[simp] theorem env0E (n : Nat) (args : List D) : env0 n args = args.map (fun d => some (.val d)) ++ List.replicate (n - args.length) none := (rfl)
end M

set_option linter.all false
set_option maxRecDepth 100000
namespace M
open PySem
/-! ### dicts: for simp -/
section
variable {Φ : Nat → List D → R D} {env : Env}
def kHas (neg : Bool) : R (Option D) → R D
  | .ok o => .ok (.bool (if neg then !o.isSome else o.isSome))
  | .exc c => .exc c
  | .bad => .bad
@[simp] theorem kHas_ok (neg : Bool) (o : Option D) : kHas neg (.ok o) = .ok (.bool (if neg then !o.isSome else o.isSome)) := (rfl)
@[simp] theorem e_dhas (i : Nat) (k : E) (neg : Bool) : evE Φ (.dhas i k neg) env = k1 (fun x => kHas neg (dlook env i x)) (evE Φ k env) := by
  simp only [evE]
  cases evE Φ k env with
  | ok x => simp only [ok_bind, k1_ok]; cases dlook env i x <;> rfl
  | exc c => rfl
  | bad => rfl
def kGet (y : D) : R (Option D) → R D
  | .ok o => .ok (o.getD y)
  | .exc c => .exc c
  | .bad => .bad
@[simp] theorem kGet_ok (y : D) (o : Option D) : kGet y (.ok o) = .ok (o.getD y) := (rfl)
@[simp] theorem e_dget (i : Nat) (k d : E) : evE Φ (.dget i k d) env = if isDct env i then k2 (fun x y => kGet y (dlook env i x)) (evE Φ k env) (evE Φ d env) else .bad := by
  simp only [evE]
  split
  · cases evE Φ k env with
    | ok x =>
      cases evE Φ d env with
      | ok y => simp only [ok_bind, k2_ok]; cases dlook env i x <;> rfl
      | exc c => rfl
      | bad => rfl
    | exc c => rfl
    | bad => rfl
  · rfl
def kIdx : R (Option D) → R D
  | .ok o => kAt o
  | .exc c => .exc c
  | .bad => .bad
@[simp] theorem kIdx_ok (o : Option D) : kIdx (.ok o) = kAt o := (rfl)
@[simp] theorem e_didx (i : Nat) (k : E) : evE Φ (.didx i k) env = if isDct env i then k1 (fun x => kIdx (dlook env i x)) (evE Φ k env) else .bad := by
  simp only [evE]
  split
  · cases evE Φ k env with
    | ok x =>
      simp only [ok_bind, k1_ok]
      cases dlook env i x with
      | ok o => cases o <;> rfl
      | exc c => rfl
      | bad => rfl
    | exc c => rfl
    | bad => rfl
  · rfl
@[simp] theorem e_dsorted (i : Nat) : evE Φ (.dsorted i) env = dkeys env i := by simp only [evE]
@[simp] theorem e_dlit (k1' v1 k2' v2 : Str) (a : E) : evE Φ (.dlit k1' v1 k2' v2 a) env = k1 (dlitD k1' v1 k2' v2) (evE Φ a env) := by
  simp only [evE]
  cases evE Φ a env <;> rfl
@[simp] theorem s_dnew' (i : Nat) (tp : Bool) (r : S) : evS Φ (.dnew i tp r) env = if i < env.length then evS Φ r (env.set i (some (if tp then .dt [] else .dk []))) else .bad := by
  simp only [evS, putW]
  split <;> rfl
def kDs (Φ : Nat → List D → R D) (i : Nat) (r : S) (env : Env) (kvs : List (Int × D)) : R D → R D → Rs
  | .ok d, .ok (.int n) => if kvs.length < 100000 then evS Φ r (env.set i (some (.dk (putI n d kvs)))) else .bad
  | .ok _, .exc c => .exc c env
  | .ok _, _ => .bad
  | .exc c, _ => .exc c env
  | .bad, _ => .bad
@[simp] theorem kDs_ok (i : Nat) (r : S) (kvs : List (Int × D)) (d : D) (n : Int) : kDs Φ i r env kvs (.ok d) (.ok (.int n)) = if kvs.length < 100000 then evS Φ r (env.set i (some (.dk (putI n d kvs)))) else .bad := (rfl)
def kDt2 (Φ : Nat → List D → R D) (i : Nat) (r : S) (env : Env) (kvs : List (List Int × D)) (d : D) : Option (List Int) → Rs
  | some ns => if kvs.length < 100000 then evS Φ r (env.set i (some (.dt (putT ns d kvs)))) else .bad
  | none => .bad
@[simp] theorem kDt2_ok (i : Nat) (r : S) (kvs : List (List Int × D)) (d : D) (ns : List Int) : kDt2 Φ i r env kvs d (some ns) = if kvs.length < 100000 then evS Φ r (env.set i (some (.dt (putT ns d kvs)))) else .bad := (rfl)
def kDt (Φ : Nat → List D → R D) (i : Nat) (r : S) (env : Env) (kvs : List (List Int × D)) : R D → R D → Rs
  | .ok d, .ok (.tuple ds) => kDt2 Φ i r env kvs d (intsOf ds)
  | .ok _, .exc c => .exc c env
  | .ok _, _ => .bad
  | .exc c, _ => .exc c env
  | .bad, _ => .bad
@[simp] theorem kDt_ok (i : Nat) (r : S) (kvs : List (List Int × D)) (d : D) (ds : List D) : kDt Φ i r env kvs (.ok d) (.ok (.tuple ds)) = kDt2 Φ i r env kvs d (intsOf ds) := (rfl)
def kDset (Φ : Nat → List D → R D) (i : Nat) (r : S) (env : Env) (x k : R D) : Option (Option W) → Rs
  | some (some (.dk kvs)) => kDs Φ i r env kvs x k
  | some (some (.dt kvs)) => kDt Φ i r env kvs x k
  | _ => .bad
@[simp] theorem kDset_k (i : Nat) (r : S) (kvs : List (Int × D)) (x k : R D) : kDset Φ i r env x k (some (some (.dk kvs))) = kDs Φ i r env kvs x k := (rfl)
@[simp] theorem kDset_t (i : Nat) (r : S) (kvs : List (List Int × D)) (x k : R D) : kDset Φ i r env x k (some (some (.dt kvs))) = kDt Φ i r env kvs x k := (rfl)
@[simp] theorem s_dset' (i : Nat) (k e : E) (r : S) : evS Φ (.dset i k e r) env = kDset Φ i r env (evE Φ e env) (evE Φ k env) env[i]? := by
  simp only [evS]
  rcases env[i]? with _ | _ | w <;> first | rfl | skip
  cases w <;> first | rfl | skip
  · simp only [kDset_k]
    cases evE Φ e env with
    | ok d =>
      cases evE Φ k env with
      | ok x => cases x <;> rfl
      | exc c => rfl
      | bad => rfl
    | exc c => rfl
    | bad => rfl
  · simp only [kDset_t]
    cases evE Φ e env with
    | ok d =>
      cases evE Φ k env with
      | ok x =>
        cases x <;> first | rfl | skip
        all_goals (simp only [ok_then, kDt_ok])
        all_goals (first | done | (rename_i ds; cases intsOf ds <;> rfl))
      | exc c => rfl
      | bad => rfl
    | exc c => rfl
    | bad => rfl
def kTk (i j : Nat) : Rs → Rs
  | .exc c env => if i < env.length ∧ j < env.length ∧ i ≠ j ∧ c < 6 then .nx ((env.set j none).set i (some (.val (.list (kindsL c))))) else .bad
  | .nx env => .nx env
  | .rt d => .rt d
  | .bad => .bad
@[simp] theorem kTk_exc (i j c : Nat) : kTk i j (.exc c env) = if i < env.length ∧ j < env.length ∧ i ≠ j ∧ c < 6 then .nx ((env.set j none).set i (some (.val (.list (kindsL c))))) else .bad := (rfl)
@[simp] theorem s_tryk' (i j : Nat) (b r : S) : evS Φ (.tryk i j b r) env = kSeq Φ r (kTk i j (evS Φ b env)) := by
  simp only [evS, seq_eq]
  cases evS Φ b env <;> rfl
@[simp] theorem isDct_k0 (kvs : List (Int × D)) (r : Env) : isDct (some (.dk kvs) :: r) 0 = true := (rfl)
@[simp] theorem isDct_t0 (kvs : List (List Int × D)) (r : Env) : isDct (some (.dt kvs) :: r) 0 = true := (rfl)
@[simp] theorem isDct_s (w : Option W) (r : Env) (i : Nat) : isDct (w :: r) (i + 1) = isDct r i := (rfl)
@[simp] theorem dlook_k0 (kvs : List (Int × D)) (r : Env) (n : Int) : dlook (some (.dk kvs) :: r) 0 (.int n) = .ok (lookI n kvs) := (rfl)
@[simp] theorem dlook_s (w : Option W) (r : Env) (i : Nat) (x : D) : dlook (w :: r) (i + 1) x = dlook r i x := (rfl)
@[simp] theorem dkeys_k0 (kvs : List (Int × D)) (r : Env) : dkeys (some (.dk kvs) :: r) 0 = if kvs.length < 64 then .ok (.list ((sortI (kvs.map (·.1))).map .int)) else .bad := (rfl)
@[simp] theorem dkeys_s (w : Option W) (r : Env) (i : Nat) : dkeys (w :: r) (i + 1) = dkeys r i := (rfl)
@[simp] theorem dlitE (k1' v1 k2' v2 x : Str) : dlitD k1' v1 k2' v2 (.str x) = if x = k1' then .ok (.str v1) else if x = k2' then .ok (.str v2) else .bad := (rfl)
end
theorem inL (d : D) (ds : List D) : inD d (.list ds) = if SeqAt.shaped d && SeqAt.shaped (.list ds) then .ok (ds.any fun z => PyData.eqv z d) else .bad := by cases d <;> rfl
@[simp] theorem mtc (ds : List D) (d : D) : mtD .lcount (.list ds) [d] = if SeqAt.shaped (.list ds) && SeqAt.shaped d then .ok (.int (ds.countP fun z => PyData.eqv z d : Nat)) else .bad := (rfl)
@[simp] theorem mtTyc (ds : List D) : mtTy .lcount (.list ds) = true := (rfl)
@[simp] theorem mtTyi (ds : List D) : mtTy .lindex (.list ds) = true := (rfl)
/-! tables -/
theorem lookI_put (k j : Int) (v : D) (kvs : List (Int × D)) : lookI j (putI k v kvs) = if j = k then some v else lookI j kvs := by
  unfold putI
  split
  · rename_i h
    induction kvs with
    | nil => simp at h
    | cons p r ih =>
      obtain ⟨a, b⟩ := p
      simp only [List.any_cons, Bool.or_eq_true, decide_eq_true_eq] at h
      rw [List.map_cons]
      by_cases ha : a = k
      · subst ha
        simp only [if_true, lookI]
        by_cases hj : j = a
        · simp [hj]
        · have hj' : ¬ a = j := fun z => hj z.symm
          simp only [hj', if_false, hj]
          have key : ∀ r : List (Int × D), lookI j (r.map fun kv => if kv.1 = a then (kv.1, v) else kv) = lookI j r := by
            intro r
            induction r with
            | nil => rfl
            | cons q r ih2 =>
              obtain ⟨c, d⟩ := q
              rw [List.map_cons]
              by_cases hc : c = a
              · have hcj : ¬ c = j := fun z => hj (z.symm.trans hc)
                simp only [hc, if_true, lookI, hj', if_false]
                exact ih2
              · simp only [hc, if_false, lookI, ih2]
          exact key r
      · have h2 := h.resolve_left ha
        have ih := ih h2
        simp only [ha, if_false, lookI, ih]
        by_cases hj : j = k
        · subst hj; simp [ha]
        · simp [hj]
  · rename_i h
    have key : ∀ r : List (Int × D), (r.any fun kv => decide (kv.1 = k)) = false → lookI j (r ++ [(k, v)]) = if j = k then some v else lookI j r := by
      intro r
      induction r with
      | nil =>
        intro _
        simp only [List.nil_append, lookI]
        by_cases hj : j = k
        · simp [hj]
        · have : ¬ k = j := fun z => hj z.symm
          simp [hj, this]
      | cons q r ih =>
        intro hq
        obtain ⟨c, d⟩ := q
        simp only [List.any_cons, Bool.or_eq_false_iff, decide_eq_false_iff_not] at hq
        rw [List.cons_append]
        simp only [lookI]
        rw [ih hq.2]
        by_cases hj : j = k
        · subst hj; simp [hq.1]
        · simp [hj]
    exact key kvs (Bool.eq_false_iff.mpr h)
theorem putI_len (k : Int) (v : D) (kvs : List (Int × D)) : (putI k v kvs).length ≤ kvs.length + 1 := by
  unfold putI; split <;> simp
/-- the keys of a table -/
theorem putI_keys (k : Int) (v : D) (kvs : List (Int × D)) : (putI k v kvs).map (·.1) = if k ∈ kvs.map (·.1) then kvs.map (·.1) else kvs.map (·.1) ++ [k] := by
  have e : ((kvs.any fun kv => decide (kv.1 = k)) = true) ↔ k ∈ kvs.map (·.1) := by
    simp [List.any_eq_true, List.mem_map]
  unfold putI
  by_cases h : (kvs.any fun kv => decide (kv.1 = k)) = true
  · rw [if_pos h, if_pos (e.mp h), List.map_map]
    apply List.map_congr_left
    intro p _
    simp only [Function.comp]
    split <;> rfl
  · rw [if_neg h, if_neg (fun z => h (e.mpr z)), List.map_append]
    rfl
theorem lookI_isSome (k : Int) : ∀ kvs : List (Int × D), (lookI k kvs).isSome = decide (k ∈ kvs.map (·.1))
  | [] => rfl
  | (a, b) :: r => by
    simp only [lookI, List.map_cons, List.mem_cons]
    by_cases h : a = k
    · simp [h]
    · have h' : ¬ k = a := fun z => h z.symm
      rw [if_neg h, lookI_isSome k r]
      simp [h']
end M

set_option linter.all false
set_option maxRecDepth 100000
namespace M
open PySem
/-! ### small defs -/
def isWithin (d : D) (lo hi : Int) : Bool := match d with
  | .int i => decide (lo ≤ i) && decide (i ≤ hi)
  | _ => false
theorem c_is_within (k : Nat) (d : D) (lo hi : Int) (hd : ∀ kvs, d ≠ .dict kvs) : call T (k+1) f_is_within [d, .int lo, .int hi] = .ok (.bool (isWithin d lo hi)) := by
  rw [call_eq T_is_within rfl]
  cases d with
  | dict kvs => exact absurd rfl (hd kvs)
  | int i =>
    by_cases h1 : lo ≤ i <;> by_cases h2 : i ≤ hi <;>
    simp [d_is_within, b_is_within, env0, isT, truth, cmpD, cmpI, isWithin, h1, h2]
  | _ => simp [d_is_within, b_is_within, env0, isT, truth, cmpD, cmpI, isWithin]
end M

set_option linter.all false
set_option maxRecDepth 100000
set_option maxHeartbeats 1000000
namespace M
open PySem
/-! ### equality of plain data -/
mutual
/-- no bool, no dict; texts of true signs -/
def pl : D → Bool
  | .none => true
  | .bool _ => false
  | .int _ => true
  | .str x => PyData.canLay0 (.str x)
  | .list xs => plL xs
  | .tuple xs => plL xs
  | .dict _ => false
def plL : List D → Bool
  | [] => true
  | x :: xs => pl x && plL xs
end
mutual
theorem pl_can : ∀ {d : D}, pl d = true → d.canLay0 = true
  | .none, _ => rfl
  | .bool _, _ => rfl
  | .int _, _ => rfl
  | .str x, h => h
  | .list xs, h => by rw [PyData.canLay0]; exact plL_can h
  | .tuple xs, h => by rw [PyData.canLay0]; exact plL_can h
  | .dict _, h => by cases h
theorem plL_can : ∀ {ds : List D}, plL ds = true → PyData.canLayAll0 ds = true
  | [], _ => by rw [PyData.canLayAll0]
  | x :: xs, h => by
    rw [plL, Bool.and_eq_true] at h
    rw [PyData.canLayAll0, pl_can h.1, plL_can h.2]; rfl
end
mutual
theorem eqv_pl : ∀ (a b : D), pl a = true → pl b = true → (PyData.eqv a b = true ↔ a = b)
  | .none, b, _, hb => by cases b <;> simp [PyData.eqv, pl] at hb ⊢
  | .bool _, b, ha, _ => by cases ha
  | .int i, b, _, hb => by cases b <;> simp [PyData.eqv, pl] at hb ⊢
  | .str x, b, _, hb => by cases b <;> simp [PyData.eqv, pl] at hb ⊢
  | .list xs, b, ha, hb => by
    cases b with
    | list ys => simp only [PyData.eqv, PyData.list.injEq]; exact eqv_plL xs ys ha hb
    | _ => simp [PyData.eqv, pl] at hb ⊢
  | .tuple xs, b, ha, hb => by
    cases b with
    | tuple ys => simp only [PyData.eqv, PyData.tuple.injEq]; exact eqv_plL xs ys ha hb
    | _ => simp [PyData.eqv, pl] at hb ⊢
  | .dict _, b, ha, _ => by cases ha
theorem eqv_plL : ∀ (as bs : List D), plL as = true → plL bs = true → (PyData.eqvAll as bs = true ↔ as = bs)
  | [], [], _, _ => by simp [PyData.eqvAll]
  | [], _ :: _, _, _ => by simp [PyData.eqvAll]
  | _ :: _, [], _, _ => by simp [PyData.eqvAll]
  | x :: xs, y :: ys, ha, hb => by
    rw [plL, Bool.and_eq_true] at ha hb
    rw [PyData.eqvAll, Bool.and_eq_true, eqv_pl x y ha.1 hb.1, eqv_plL xs ys ha.2 hb.2, List.cons.injEq]
end
/-- plain, not deep -/
def pd (d : D) : Prop := pl d = true ∧ d.depth ≤ 64
theorem pd_shaped {d : D} (h : pd d) : SeqAt.shaped d = true := by
  unfold SeqAt.shaped
  rw [pl_can h.1, decide_eq_true h.2]; rfl
theorem eqD_pd {a b : D} (ha : pd a) (hb : pd b) : eqD a b = .ok (PyData.eqv a b) := by
  unfold eqD
  rw [pd_shaped ha, pd_shaped hb]; rfl
theorem eqD_self {a : D} (ha : pd a) : eqD a a = .ok true := by
  rw [eqD_pd ha ha, (eqv_pl a a ha.1 ha.1).mpr rfl]
theorem eqD_ne {a b : D} (ha : pd a) (hb : pd b) (h : a ≠ b) : eqD a b = .ok false := by
  rw [eqD_pd ha hb]
  congr 1
  cases e : PyData.eqv a b
  · rfl
  · exact absurd ((eqv_pl a b ha.1 hb.1).mp e) h
theorem eqD_iff {a b : D} (ha : pd a) (hb : pd b) : ∃ c : Bool, eqD a b = .ok c ∧ (c = true ↔ a = b) := ⟨_, eqD_pd ha hb, eqv_pl a b ha.1 hb.1⟩
/-- numbers, texts, flat tuples -/
theorem depthAll_le {n : Nat} : ∀ {ds : List D}, (∀ d ∈ ds, d.depth ≤ n) → PyData.depthAll ds ≤ n
  | [], _ => Nat.zero_le _
  | x :: xs, h => by
    rw [PyData.depthAll]
    have := h x (by simp)
    have := depthAll_le (n := n) (ds := xs) fun d hd => h d (by simp [hd])
    omega
theorem plL_all : ∀ {ds : List D}, (∀ d ∈ ds, pl d = true) → plL ds = true
  | [], _ => rfl
  | x :: xs, h => by
    rw [plL, h x (by simp), plL_all fun d hd => h d (by simp [hd])]; rfl
/-! ### loops -/
theorem forB_inv {Φ : Nat → List D → R D} {t : Tg} {b : S} (Inv : Nat → Env → Prop) : ∀ (xs : List D) (i0 : Nat) (env : Env), Inv i0 env →
    (∀ i d env, xs[i]? = some d → Inv (i0 + i) env → ∃ env', kAsg2 Φ b (asgn t d env) = .nx env' ∧ Inv (i0 + i + 1) env') → ∃ env', forB Φ t b xs env = .nx env' ∧ Inv (i0 + xs.length) env'
  | [], i0, env, h, _ => ⟨env, rfl, h⟩
  | x :: xs, i0, env, h, hs => by
    obtain ⟨e1, h1, h2⟩ := hs 0 x env rfl h
    have hs' : ∀ i d env, xs[i]? = some d → Inv (i0 + 1 + i) env → ∃ env', kAsg2 Φ b (asgn t d env) = .nx env' ∧ Inv (i0 + 1 + i + 1) env' := by
      intro i d env' hd hI
      have e : i0 + 1 + i = i0 + (i + 1) := by omega
      rw [e] at hI ⊢
      exact hs (i + 1) d env' (by simpa using hd) hI
    obtain ⟨e2, h3, h4⟩ := forB_inv (Φ := Φ) (t := t) (b := b) Inv xs (i0 + 1) e1 (by simpa using h2) hs'
    refine ⟨e2, ?_, ?_⟩
    · rw [forB_cons, h1]; exact h3
    · have e : i0 + (x :: xs).length = i0 + 1 + xs.length := by simp; omega
      rw [e]; exact h4
theorem forB_ok {Φ : Nat → List D → R D} {t : Tg} {b : S} {xs : List D} {env : Env} (Inv : Nat → Env → Prop) (h0 : Inv 0 env)
    (hs : ∀ i d env, xs[i]? = some d → Inv i env → ∃ env', kAsg2 Φ b (asgn t d env) = .nx env' ∧ Inv (i + 1) env') : ∃ env', forB Φ t b xs env = .nx env' ∧ Inv xs.length env' := by
  have := forB_inv (Φ := Φ) (t := t) (b := b) Inv xs 0 env h0 fun i d env hd hI => by
    rw [Nat.zero_add] at hI ⊢; exact hs i d env hd hI
  rwa [Nat.zero_add] at this
theorem whlB_ok {Φ : Nat → List D → R D} {c : E} {b : S} (Inv : Nat → Env → Prop) (Post : Env → Prop)
    (hs : ∀ m env, Inv m env → (kT (evE Φ c env) = .ok false ∧ Post env) ∨ (kT (evE Φ c env) = .ok true ∧ ∃ env' m', evS Φ b env = .nx env' ∧ m' < m ∧ Inv m' env')) :
    ∀ (n m : Nat) (env : Env), Inv m env → m < n → ∃ env', whlB Φ c b n env = .nx env' ∧ Post env'
  | 0, m, env, _, h => by omega
  | n + 1, m, env, hI, h => by
    rw [whlB_succ]
    rcases hs m env hI with ⟨h1, h2⟩ | ⟨h1, env', m', h2, h3, h4⟩
    · rw [h1]; exact ⟨env, rfl, h2⟩
    · rw [h1, kWh_ok, if_pos rfl, h2]
      exact whlB_ok Inv Post hs n m' env' h4 (by omega)
/-! ### comprehensions -/
theorem compF_map {f : D → R (Option D)} {g : D → D} : ∀ (xs : List D), (∀ d ∈ xs, f d = .ok (some (g d))) → compF f xs = .ok (xs.map g)
  | [], _ => rfl
  | x :: xs, h => by
    rw [compF, h x (by simp), compF_map xs fun d hd => h d (by simp [hd])]; rfl
theorem compF_filterMap {f : D → R (Option D)} {g : D → Option D} : ∀ (xs : List D), (∀ d ∈ xs, f d = .ok (g d)) → compF f xs = .ok (xs.filterMap g)
  | [], _ => rfl
  | x :: xs, h => by
    rw [compF, h x (by simp), compF_filterMap xs fun d hd => h d (by simp [hd]), List.filterMap_cons]
    cases g x <;> rfl
theorem compB_map {Φ : Nat → List D → R D} {x : E} {t : Tg} {c : O} {env : Env} {xs : List D} {g : D → D} (hl : xs.length ≤ lim) (h : ∀ d ∈ xs, compAt Φ x c (asgn t d (wipeE env t.slots)) = .ok (some (g d))) :
    compB Φ x t c env xs = .ok (.list (xs.map g)) := by
  rw [compB, if_pos hl, compF_map xs h]
theorem compB_fm {Φ : Nat → List D → R D} {x : E} {t : Tg} {c : O} {env : Env} {xs : List D} {g : D → Option D} (hl : xs.length ≤ lim) (h : ∀ d ∈ xs, compAt Φ x c (asgn t d (wipeE env t.slots)) = .ok (g d)) :
    compB Φ x t c env xs = .ok (.list (xs.filterMap g)) := by
  rw [compB, if_pos hl, compF_filterMap xs h]
theorem compB_of {α : Type} {Φ : Nat → List D → R D} {x : E} {t : Tg} {c : O} {env : Env} (ys : List α) (φ g : α → D) (hl : ys.length ≤ lim) (h : ∀ y ∈ ys, compAt Φ x c (asgn t (φ y) (wipeE env t.slots)) = .ok (some (g y))) :
    compB Φ x t c env (ys.map φ) = .ok (.list (ys.map g)) := by
  have : ∀ (ys : List α), (∀ y ∈ ys, compAt Φ x c (asgn t (φ y) (wipeE env t.slots)) = .ok (some (g y))) → compF (fun d => compAt Φ x c (asgn t d (wipeE env t.slots))) (ys.map φ) = .ok (ys.map g) := by
    intro ys
    induction ys with
    | nil => intro _; rfl
    | cons y ys ih =>
      intro h
      rw [List.map_cons, compF, h y (by simp), ih fun d hd => h d (by simp [hd])]; rfl
  rw [compB, if_pos (by simpa using hl), this ys h]
theorem compB_off {α : Type} {Φ : Nat → List D → R D} {x : E} {t : Tg} {c : O} {env : Env} (ys : List α) (φ : α → D) (g : α → Option D) (hl : ys.length ≤ lim) (h : ∀ y ∈ ys, compAt Φ x c (asgn t (φ y) (wipeE env t.slots)) = .ok (g y)) :
    compB Φ x t c env (ys.map φ) = .ok (.list (ys.filterMap g)) := by
  have : ∀ (ys : List α), (∀ y ∈ ys, compAt Φ x c (asgn t (φ y) (wipeE env t.slots)) = .ok (g y)) → compF (fun d => compAt Φ x c (asgn t d (wipeE env t.slots))) (ys.map φ) = .ok (ys.filterMap g) := by
    intro ys
    induction ys with
    | nil => intro _; rfl
    | cons y ys ih =>
      intro h
      rw [List.map_cons, compF, h y (by simp), ih fun d hd => h d (by simp [hd]), List.filterMap_cons]
      cases g y <;> rfl
  rw [compB, if_pos (by simpa using hl), this ys h]
def kSome : R D → R (Option D)
  | .ok y => .ok (some y)
  | .exc c => .exc c
  | .bad => .bad
@[simp] theorem kSome_ok (y : D) : kSome (.ok y) = .ok (some y) := (rfl)
def kIfC (Φ : Nat → List D → R D) (x : E) (env : Env) : R Bool → R (Option D)
  | .ok b => if b then kSome (evE Φ x env) else .ok none
  | .exc c => .exc c
  | .bad => .bad
@[simp] theorem kIfC_ok {Φ : Nat → List D → R D} (x : E) (env : Env) (b : Bool) : kIfC Φ x env (.ok b) = if b then kSome (evE Φ x env) else .ok none := (rfl)
@[simp] theorem compAt_if {Φ : Nat → List D → R D} (x c : E) (env : Env) : compAt Φ x (.some c) (some env) = kIfC Φ x env (kT (evE Φ c env)) := by
  simp only [compAt, c_some]
  cases kT (evE Φ c env) with
  | ok b =>
    cases b
    · rfl
    · simp only [if_true, kIfC_ok]
      cases evE Φ x env <;> rfl
  | exc c => rfl
  | bad => rfl
@[simp] theorem compAt_some {Φ : Nat → List D → R D} (x : E) (env : Env) : compAt Φ x .none (some env) = kSome (evE Φ x env) := by
  simp only [compAt, c_none', if_true]
  cases evE Φ x env <;> rfl
/-! ### the script's cells -/
def cell (ns : List Int) (j : Int) : Int := ns.getD j.toNat 0
theorem c_cell (k : Nat) (ns : List Int) (j : Int) (h : 0 ≤ j) : call T (k+1) f_law_cell [scr ns, .int j] = .ok (.int (cell ns j)) := by
  rw [call_eq T_law_cell rfl]
  have hl : (List.map (fun n => (PyData.int n, PyData.none)) ns).length = ns.length := by simp
  by_cases h1 : j < ns.length
  · have h2 : j.toNat < ns.length := by omega
    have e : L2.atI (List.map (fun n => (PyData.int n, PyData.none)) ns) j = some (.int (cell ns j), .none) := by
      unfold L2.atI L2.ixN
      rw [hl, if_pos h, if_pos h1]
      simp [cell, h2]
    simp [d_law_cell, b_law_cell, env0, truth, cmpD, cmpI, biD, idxD, h1, e]
  · have e : cell ns j = 0 := by
      unfold cell
      rw [List.getD_eq_getElem?_getD, List.getElem?_eq_none (by omega)]; rfl
    simp [d_law_cell, b_law_cell, env0, truth, cmpD, cmpI, biD, idxD, h1, e]
def seedN (s k : Int) : Int := ((s * 1103515245 + 7919 * k + 12345) % 2147483647) ^ 5 % 2147483647
theorem seedN_ge (s k : Int) : 0 ≤ seedN s k := Int.emod_nonneg _ (by decide)
theorem seedN_lt (s k : Int) : seedN s k < 2147483647 := Int.emod_lt_of_pos _ (by decide)
theorem c_seed (n : Nat) (s k : Int) : call T (n+1) f_law_seed [.int s, .int k] = .ok (.int (seedN s k)) := by
  rw [call_eq T_law_seed rfl]
  have h1 : ((s * 1103515245 + 7919 * k + 12345) % 2147483647).natAbs < 18446744073709551616 := by
    have := Int.emod_nonneg (s * 1103515245 + 7919 * k + 12345) (b := 2147483647) (by decide)
    have := Int.emod_lt_of_pos (s * 1103515245 + 7919 * k + 12345) (b := 2147483647) (by decide)
    omega
  simp [d_law_seed, b_law_seed, env0, binD, mulD, addD, modD, powD, smallI, seedN, h1]
theorem c_pick (n : Nat) (s m : Int) (h : 0 < m) : call T (n+1) f_law_pick [.int s, .int m] = .ok (.int (s / 97 % m)) := by
  rw [call_eq T_law_pick rfl]
  simp [d_law_pick, b_law_pick, env0, binD, divD, modD, h]
def mixN (c p m : Int) : Int := (c * 48271 % p) ^ 3 % p % m
theorem mixN_ge (c p m : Int) (h : 0 < m) : 0 ≤ mixN c p m := Int.emod_nonneg _ (by omega)
theorem mixN_lt (c p m : Int) (h : 0 < m) : mixN c p m < m := Int.emod_lt_of_pos _ h
theorem c_mix (n : Nat) (c p m : Int) (hp : 0 < p) (hp2 : p < 1000000) (h : 0 < m) : call T (n+1) f_law_mix [.int c, .int p, .int m] = .ok (.int (mixN c p m)) := by
  rw [call_eq T_law_mix rfl]
  have h1 : (c * 48271 % p).natAbs < 18446744073709551616 := by
    have := Int.emod_nonneg (c * 48271) (b := p) (by omega)
    have := Int.emod_lt_of_pos (c * 48271) (b := p) (by omega)
    omega
  simp [d_law_mix, b_law_mix, env0, binD, mulD, modD, powD, smallI, mixN, h, hp, h1]
end M
namespace M
open PySem
/-! ### a loop, then the rest -/
theorem endR_for {Φ : Nat → List D → R D} {t : Tg} {b r : S} {xs : List D} {env : Env} {X : R D} (Inv : Nat → Env → Prop) (h0 : Inv 0 env)
    (hs : ∀ i d env, xs[i]? = some d → Inv i env → ∃ env', kAsg2 Φ b (asgn t d env) = .nx env' ∧ Inv (i + 1) env') (he : ∀ env', Inv xs.length env' → endR (evS Φ r env') = X) : endR (kSeq Φ r (forB Φ t b xs env)) = X := by
  obtain ⟨env', h1, h2⟩ := forB_ok (Φ := Φ) (t := t) (b := b) Inv h0 hs
  rw [h1, kSeq_nx]
  exact he env' h2
theorem endR_whl {Φ : Nat → List D → R D} {c : E} {b r : S} {env : Env} {X : R D} (Inv : Nat → Env → Prop) (Post : Env → Prop) (m : Nat) (hm : m < 100000) (h0 : Inv m env)
    (hs : ∀ m env, Inv m env → (kT (evE Φ c env) = .ok false ∧ Post env) ∨ (kT (evE Φ c env) = .ok true ∧ ∃ env' m', evS Φ b env = .nx env' ∧ m' < m ∧ Inv m' env'))
    (he : ∀ env', Post env' → endR (evS Φ r env') = X) : endR (kSeq Φ r (whlB Φ c b WF env)) = X := by
  obtain ⟨env', h1, h2⟩ := whlB_ok (Φ := Φ) (c := c) (b := b) Inv Post hs WF m env h0 hm
  rw [h1, kSeq_nx]
  exact he env' h2
theorem rng_get {n i : Nat} {d : D} (h : ((List.range n).map fun (k : Nat) => PyData.int (k : Int))[i]? = some d) : d = .int (i : Int) ∧ i < n := by
  rw [List.getElem?_map] at h
  cases hi : (List.range n)[i]? with
  | none => rw [hi] at h; cases h
  | some k =>
    have hk := List.getElem?_eq_some_iff.mp hi
    obtain ⟨h1, h2⟩ := hk
    rw [hi] at h
    simp at h1 h2 h
    subst h2
    exact ⟨h.symm, h1⟩
end M

set_option linter.all false
set_option maxRecDepth 100000
namespace M
open PySem
/-! ### walks of dicts, sorts, sets: for simp -/
section
variable {Φ : Nat → List D → R D} {env : Env}
def kNox : R D → R D
  | .ok d => .ok d
  | _ => .bad
@[simp] theorem kNox_ok (d : D) : kNox (.ok d) = .ok d := (rfl)
def kLk (Φ : Nat → List D → R D) (i : Nat) (a : E) (env : Env) : Option (Option W) → R D
  | some (some (.dt kvs)) => kNox (evE Φ a (env.set i (some (.dtf kvs))))
  | _ => .bad
@[simp] theorem kLk_ok (i : Nat) (a : E) (kvs : List (List Int × D)) : kLk Φ i a env (some (some (.dt kvs))) = kNox (evE Φ a (env.set i (some (.dtf kvs)))) := (rfl)
@[simp] theorem e_lockd (i : Nat) (a : E) : evE Φ (.lockd i a) env = kLk Φ i a env env[i]? := by
  simp only [evE]
  rcases env[i]? with _ | _ | w <;> first | rfl | skip
  cases w <;> first | rfl | skip
  all_goals (simp only [kLk_ok]; cases evE Φ a _ <;> rfl)
@[simp] theorem i_dks' (i : Nat) : evI Φ (.dks i) env = keysT env i := by simp only [evI]
@[simp] theorem keysT_0 (kvs : List (List Int × D)) (r : Env) : keysT (some (.dtf kvs) :: r) 0 = .ok (kvs.map fun kv => .tuple (kv.1.map .int)) := (rfl)
@[simp] theorem keysT_s (w : Option W) (r : Env) (i : Nat) : keysT (w :: r) (i + 1) = keysT r i := (rfl)
@[simp] theorem isDct_f0 (kvs : List (List Int × D)) (r : Env) : isDct (some (.dtf kvs) :: r) 0 = true := (rfl)
def kT2 (kvs : List (List Int × D)) : Option (List Int) → R (Option D)
  | some ns => .ok (lookT ns kvs)
  | none => .bad
@[simp] theorem kT2_ok (kvs : List (List Int × D)) (ns : List Int) : kT2 kvs (some ns) = .ok (lookT ns kvs) := (rfl)
@[simp] theorem dlook_t0 (kvs : List (List Int × D)) (r : Env) (ds : List D) : dlook (some (.dt kvs) :: r) 0 (.tuple ds) = kT2 kvs (intsOf ds) := by
  simp only [dlook, List.getElem?_cons_zero]
  cases intsOf ds <;> rfl
@[simp] theorem dlook_f0 (kvs : List (List Int × D)) (r : Env) (ds : List D) : dlook (some (.dtf kvs) :: r) 0 (.tuple ds) = kT2 kvs (intsOf ds) := by
  simp only [dlook, List.getElem?_cons_zero]
  cases intsOf ds <;> rfl
@[simp] theorem asgn_3l (a b c : Tg) (x y z : D) : asgn (.t3 a b c) (.list [x, y, z]) env = (asgn a x env).bind fun e => (asgn b y e).bind fun e => asgn c z e := (rfl)
@[simp] theorem e_sset (a : E) : evE Φ (.sset a) env = k1 ssetD (evE Φ a env) := by
  simp only [evE]
  cases evE Φ a env <;> rfl
def kDg (Φ : Nat → List D → R D) (k d : E) (env : Env) : Option (List (Int × D)) → R D
  | some ps => k2 (dctD ps) (evE Φ k env) (evE Φ d env)
  | none => .bad
@[simp] theorem kDg_ok (k d : E) (ps : List (Int × D)) : kDg Φ k d env (some ps) = k2 (dctD ps) (evE Φ k env) (evE Φ d env) := (rfl)
@[simp] theorem e_dctget (a k d : E) : evE Φ (.dctget a k d) env = k1 (fun x => kDg Φ k d env (dctP x)) (evE Φ a env) := by
  simp only [evE]
  cases evE Φ a env with
  | ok x =>
    simp only [ok_bind, k1_ok]
    cases dctP x with
    | none => rfl
    | some ps =>
      simp only [kDg_ok]
      cases evE Φ k env <;> first | rfl | skip
      cases evE Φ d env <;> rfl
  | exc c => rfl
  | bad => rfl
@[simp] theorem dctP_l (xs : List D) : dctP (.list xs) = pairsOf xs := (rfl)
@[simp] theorem dctD_i (ps : List (Int × D)) (n : Int) (d : D) : dctD ps (.int n) d = .ok ((lookI n (ps.foldl (fun acc kv => putI kv.1 kv.2 acc) [])).getD d) := (rfl)
end
/-! rows of ints as tuples -/
def tupI (t : List Int) : D := .tuple (t.map .int)
theorem intPre_map : ∀ t : List Int, intPre (t.map .int) = t
  | [] => rfl
  | x :: t => by rw [List.map_cons, intPre, intPre_map t]
theorem tkey_tupI (t : List Int) : tkey (tupI t) = t := intPre_map t
theorem tlen_tupI (t : List Int) : tlen (tupI t) = some t.length := by simp [tupI, tlen]
theorem insK_tupI (x : List Int) : ∀ ys : List (List Int), insK (tupI x) (ys.map tupI) = (insT x ys).map tupI
  | [] => rfl
  | y :: ys => by
    rw [List.map_cons, insK, insT, tkey_tupI, tkey_tupI]
    split
    · rfl
    · rw [insK_tupI x ys]; rfl
theorem sortK_tupI : ∀ ts : List (List Int), sortK (ts.map tupI) = (sortT ts).map tupI
  | [] => rfl
  | x :: xs => by rw [List.map_cons, sortK, sortT, sortK_tupI xs, insK_tupI]
theorem intsOf_tup (x : D) (ds : List D) (h : ∀ i, x ≠ .int i) : intsOf (x :: ds) = none := by
  cases x <;> first | rfl | exact absurd rfl (h _)
/-- sorted of tuples of ints, of one length -/
theorem sorted_tupI (ts : List (List Int)) (n : Nat) (hn : 1 ≤ n) (h : ∀ t ∈ ts, t.length = n) : biD .sorted [.list (ts.map tupI)] = .ok (.list ((sortT ts).map tupI)) := by
  cases ts with
  | nil => rfl
  | cons t ts =>
    simp only [biD, List.map_cons]
    rw [intsOf_tup _ _ (fun i z => by cases z)]
    have h0 := h t List.mem_cons_self
    have ok : tupsOk ((tlen (tupI t)).getD 0) (tkey (tupI t)).length (tupI t :: ts.map tupI) = true := by
      rw [tlen_tupI, tkey_tupI, ← List.map_cons]
      unfold tupsOk
      simp only [Bool.and_eq_true, List.all_eq_true, decide_eq_true_eq, Bool.or_eq_true, Option.getD_some, true_or, and_true]
      refine ⟨fun x hx => ?_, by omega⟩
      obtain ⟨y, hy, rfl⟩ := List.mem_map.mp hx
      rw [tlen_tupI, tkey_tupI, h y hy, h0]
      exact ⟨rfl, rfl⟩
    show (if tupsOk _ _ _ = true then _ else _) = _
    rw [if_pos ok, ← List.map_cons, sortK_tupI]
/-- by what is in them alone -/
theorem sortT_congr {a b : List (List Int)} (p : a.Perm b) : sortT a = sortT b := srtT_eq ((sortT_perm a).trans (p.trans (sortT_perm b).symm)) (sortT_sorted a) (sortT_sorted b)
theorem sortT_set {a b : List (List Int)} (ha : a.Nodup) (hb : b.Nodup) (h : ∀ x, x ∈ a ↔ x ∈ b) : sortT a = sortT b := sortT_congr (nodup_perm ha hb h)
end M

set_option linter.all false
set_option maxRecDepth 100000
set_option maxHeartbeats 1000000
namespace M
open PySem TL
/-! ### texts as lists of signs -/
abbrev mkS (cs : List Nat) : Str := ⟨cs.toArray⟩
theorem nl_eq : ("\n" : Str) = mkS [10] := by decide +kernel
@[simp] theorem len_mkS (cs : List Nat) : (mkS cs).length = cs.length := by simp [Str.length]
theorem tl_mkS (cs : List Nat) : tl (mkS cs) = cs := rfl
theorem mkS_inj {a b : List Nat} : mkS a = mkS b ↔ a = b := ⟨fun h => by have := congrArg tl h; simpa using this, fun h => by rw [h]⟩
/-- signs of the common kind -/
def plainCs (cs : List Nat) : Prop := ∀ c ∈ cs, c < 128
theorem strOk_plain {cs : List Nat} (h : plainCs cs) : PyData.canLay0 (.str (mkS cs)) = true := by
  rw [PyData.canLay0, PyData.strOk]
  show (cs.toArray.all fun x => decide (x < 1114112)) = true
  rw [List.all_toArray, List.all_eq_true]
  intro c hc
  have := h c hc
  exact decide_eq_true (by omega)
theorem pd_str {cs : List Nat} (h : plainCs cs) : pd (.str (mkS cs)) := ⟨by rw [pl]; exact strOk_plain h, by simp [PyData.depth]⟩
theorem pd_int (i : Int) : pd (.int i) := ⟨rfl, by simp [PyData.depth]⟩
theorem pd_none : pd .none := ⟨rfl, by simp [PyData.depth]⟩
theorem pd_ii (i j : Int) : pd (.tuple [.int i, .int j]) := ⟨rfl, by simp [PyData.depth, PyData.depthAll]⟩
/-! ### rows and columns -/
def stepRC (p : Nat × Nat) (c : Nat) : Nat × Nat := if c = 10 then (p.1 + 1, 0) else (p.1, p.2 + 1)
def walkRC (p : Nat × Nat) (cs : List Nat) : Nat × Nat := cs.foldl stepRC p
theorem walkRC_off (r c : Nat) : ∀ cs : List Nat, walkRC (r, c) cs = (r + (walkRC (0, c) cs).1, (walkRC (0, c) cs).2) := by
  intro cs
  suffices h : ∀ (cs : List Nat) (r0 c : Nat), walkRC (r + r0, c) cs = (r + (walkRC (r0, c) cs).1, (walkRC (r0, c) cs).2) from h cs 0 c
  intro cs
  induction cs with
  | nil => intro r0 c; rfl
  | cons x xs ih =>
    intro r0 c
    simp only [walkRC, List.foldl_cons] at ih ⊢
    by_cases h : x = 10
    · simp only [stepRC, h, if_true]
      exact ih (r0 + 1) 0
    · simp only [stepRC, h, if_false]
      exact ih r0 (c + 1)
theorem walkRC_snoc (p : Nat × Nat) (cs : List Nat) (c : Nat) : walkRC p (cs ++ [c]) = stepRC (walkRC p cs) c := by simp [walkRC]
/-- the rows -/
def rowsOf (acc cs : List Nat) : List (List Nat) := spl [10] 0 acc cs
theorem rowsOf_nil (acc : List Nat) : rowsOf acc [] = [acc] := rfl
theorem rowsOf_cons (acc : List Nat) (c : Nat) (r : List Nat) : rowsOf acc (c :: r) = if c = 10 then acc :: rowsOf [] r else rowsOf (acc ++ [c]) r := by
  show (if pre [10] (c :: r) = true then acc :: spl [10] 0 [] r else spl [10] 0 (acc ++ [c]) r) = _
  have e : (pre [10] (c :: r) = true) ↔ c = 10 := by simp [pre]
  simp only [e]
  rfl
/-- what the rows' lengths come to, with their ends -/
def sumL (ls : List (List Nat)) : Nat := (ls.map fun l => l.length + 1).sum
theorem rows_at : ∀ (cs acc : List Nat) (p : Nat), p ≤ cs.length → ∃ l, (rowsOf acc cs)[(walkRC (0, acc.length) (cs.take p)).1]? = some l ∧ (walkRC (0, acc.length) (cs.take p)).2 ≤ l.length ∧
    sumL ((rowsOf acc cs).take (walkRC (0, acc.length) (cs.take p)).1) + (walkRC (0, acc.length) (cs.take p)).2 = acc.length + p
  | [], acc, p, h => by
    have : p = 0 := by simpa using h
    subst this
    exact ⟨acc, rfl, Nat.le_refl _, by simp [walkRC, sumL]⟩
  | c :: r, acc, 0, h => by
    suffices q : ∀ (cs acc : List Nat), ∃ l, (rowsOf acc cs)[0]? = some l ∧ acc.length ≤ l.length by
      obtain ⟨l, h1, h2⟩ := q (c :: r) acc
      exact ⟨l, by simpa [walkRC] using h1, by simpa [walkRC] using h2, by simp [walkRC, sumL]⟩
    intro cs
    induction cs with
    | nil => intro acc; exact ⟨acc, rfl, Nat.le_refl _⟩
    | cons c r ih =>
      intro acc
      rw [rowsOf_cons]
      split
      · exact ⟨acc, rfl, Nat.le_refl _⟩
      · obtain ⟨l, h1, h2⟩ := ih (acc ++ [c])
        exact ⟨l, h1, by simp at h2; omega⟩
  | c :: r, acc, p + 1, h => by
    have hp : p ≤ r.length := by simpa using h
    rw [rowsOf_cons, List.take_succ_cons]
    by_cases hc : c = 10
    · have e : walkRC (0, acc.length) (c :: r.take p) = walkRC (1, 0) (r.take p) := by simp [walkRC, stepRC, hc]
      rw [e, walkRC_off 1 0, if_pos hc]
      obtain ⟨l, h1, h2, h3⟩ := rows_at r [] p hp
      refine ⟨l, ?_, h2, ?_⟩
      · rw [Nat.add_comm]; simpa using h1
      · rw [Nat.add_comm 1, List.take_succ_cons]
        simp only [sumL, List.map_cons, List.sum_cons, List.length_nil, Nat.zero_add] at h3 ⊢
        omega
    · have e : walkRC (0, acc.length) (c :: r.take p) = walkRC (0, (acc ++ [c]).length) (r.take p) := by simp [walkRC, stepRC, hc]
      rw [e, if_neg hc]
      obtain ⟨l, h1, h2, h3⟩ := rows_at r (acc ++ [c]) p hp
      exact ⟨l, h1, h2, by rw [h3]; simp; omega⟩
theorem rows_end : ∀ (cs acc : List Nat), (rowsOf acc cs).length = (walkRC (0, acc.length) cs).1 + 1 ∧ ∃ l, (rowsOf acc cs)[(walkRC (0, acc.length) cs).1]? = some l ∧ l.length = (walkRC (0, acc.length) cs).2
  | [], acc => ⟨rfl, acc, rfl, rfl⟩
  | c :: r, acc => by
    rw [rowsOf_cons]
    by_cases hc : c = 10
    · have e : walkRC (0, acc.length) (c :: r) = walkRC (1, 0) r := by simp [walkRC, stepRC, hc]
      rw [e, walkRC_off 1 0, if_pos hc]
      obtain ⟨h1, l, h2, h3⟩ := rows_end r []
      refine ⟨by rw [List.length_cons, h1]; simp; omega, l, ?_, h3⟩
      rw [Nat.add_comm]; simpa using h2
    · have e : walkRC (0, acc.length) (c :: r) = walkRC (0, (acc ++ [c]).length) r := by simp [walkRC, stepRC, hc]
      rw [e, if_neg hc]
      exact rows_end r (acc ++ [c])
theorem split_nl (cs : List Nat) : Txt.split (mkS cs) "\n" = (rowsOf [] cs).map mkS := by
  apply map_tl_inj
  rw [nl_eq, split_spl _ _ (by simp) (kind_ok (by decide +kernel))]
  rw [List.map_map]
  show spl [10] 0 [] cs = List.map (fun x => x) (rowsOf [] cs)
  rw [List.map_id'']
  · rfl
  · intro x; rfl
theorem cnt_nl (cs : List Nat) : Txt.count (mkS cs) "\n" = ((walkRC (0, 0) cs).1 : Int) := by
  rw [nl_eq, PyProof.Rows.count_cnt]
  show PyProof.Rows.cnt 10 cs = _
  suffices h : ∀ (cs : List Nat) (r c : Nat), (r : Int) + PyProof.Rows.cnt 10 cs = ((walkRC (r, c) cs).1 : Int) by
    have := h cs 0 0
    omega
  intro cs
  induction cs with
  | nil => intro r c; simp [PyProof.Rows.cnt_nil, walkRC]
  | cons x xs ih =>
    intro r c
    rw [PyProof.Rows.cnt_cons]
    by_cases hx : x = 10
    · have := ih (r + 1) 0
      simp only [walkRC, List.foldl_cons, stepRC, hx, if_true] at this ⊢
      omega
    · have := ih r (c + 1)
      simp only [walkRC, List.foldl_cons, stepRC, hx, if_false] at this ⊢
      omega
theorem col_is : ∀ (n : Nat) (cs : List Nat), cs.length = n → ((walkRC (0, 0) cs).2 = cs.length ∧ 10 ∉ cs) ∨ ((walkRC (0, 0) cs).2 < cs.length ∧ cs[cs.length - 1 - (walkRC (0, 0) cs).2]? = some 10 ∧ ∀ k, cs.length - 1 - (walkRC (0, 0) cs).2 < k → cs[k]? ≠ some 10)
  | 0, cs, h => by
    have : cs = [] := by simpa using h
    subst this
    exact .inl ⟨rfl, by simp⟩
  | n + 1, cs, h => by
    have hne : cs ≠ [] := by intro e; rw [e] at h; simp at h
    obtain ⟨ds, c, rfl⟩ : ∃ ds c, cs = ds ++ [c] := ⟨cs.dropLast, cs.getLast hne, (List.dropLast_concat_getLast hne).symm⟩
    have hl : ds.length = n := by simpa using h
    rw [walkRC_snoc]
    by_cases hc : c = 10
    · right
      simp only [stepRC, hc, if_true]
      refine ⟨by simp, by simp, fun k hk => ?_⟩
      rw [List.getElem?_eq_none (by simp at hk ⊢; omega)]
      simp
    · simp only [stepRC, hc, if_false]
      rcases col_is n ds hl with ⟨h1, h2⟩ | ⟨h1, h2, h3⟩
      · left
        refine ⟨by simp [h1], fun hm => ?_⟩
        rcases List.mem_append.mp hm with q | q
        · exact h2 q
        · simp at q; exact hc q.symm
      · right
        have e : (ds ++ [c]).length - 1 - ((walkRC (0, 0) ds).2 + 1) = ds.length - 1 - (walkRC (0, 0) ds).2 := by simp; omega
        rw [e]
        refine ⟨by simp; omega, by rw [List.getElem?_append_left (by omega)]; exact h2, fun k hk => ?_⟩
        by_cases hk2 : k < ds.length
        · rw [List.getElem?_append_left hk2]; exact h3 k hk
        · rw [List.getElem?_append_right (by omega)]
          by_cases hk3 : k = ds.length
          · subst hk3; simp [hc]
          · rw [List.getElem?_eq_none (by simp; omega)]; simp
theorem rfind_nl (cs : List Nat) : (cs.length : Int) - (Txt.rfind (mkS cs) "\n" + 1) = ((walkRC (0, 0) cs).2 : Int) := by
  rw [nl_eq]
  have at_ : ∀ k, StrLaws.At (mkS cs) (mkS [10]) (mkS cs).length k ↔ cs[k]? = some 10 := fun k => StrLaws.subAt_one (mkS cs) 10 k
  rcases PyProof.Rows.rfind_whole (mkS cs) (mkS [10]) with ⟨h1, h2⟩ | ⟨i, h1, h2, h3⟩
  · rw [h1]
    rcases col_is _ cs rfl with ⟨c1, _⟩ | ⟨_, c2, _⟩
    · omega
    · exact absurd ((at_ _).mpr c2) (h2 _)
  · rw [h1]
    have h2 := (at_ i).mp h2
    have hi : i < cs.length := (List.getElem?_eq_some_iff.mp h2).1
    rcases col_is _ cs rfl with ⟨_, c2⟩ | ⟨c1, c2, c3⟩
    · exact absurd (List.mem_of_getElem? h2) c2
    · have a1 : ¬ i < cs.length - 1 - (walkRC (0, 0) cs).2 := fun q => h3 _ q ((at_ _).mpr c2)
      have a2 : ¬ cs.length - 1 - (walkRC (0, 0) cs).2 < i := fun q => c3 _ q h2
      omega
end M

set_option linter.all false
set_option maxRecDepth 100000
set_option maxHeartbeats 1000000
namespace M
open PySem TL
theorem c_is_text (k : Nat) (cs : List Nat) (h : cs.length ≤ 1000) : call T (k+1) f_is_text [.str (mkS cs)] = .ok (.bool true) := by
  rw [call_eq T_is_text rfl]
  have h2 : cs.length ≤ 100000 := by omega
  have h3 : ((cs.length : Int) ≤ 1000) := by omega
  simp [d_is_text, b_is_text, env0, isT, truth, biD, cmpD, cmpI, lim, h2, h3]
def notText (d : D) : Bool := match d with
  | .str x => false
  | .dict _ => false
  | _ => true
theorem c_is_text_no (k : Nat) (d : D) (h : notText d = true) : call T (k+1) f_is_text [d] = .ok (.bool false) := by
  rw [call_eq T_is_text rfl]
  cases d <;> first | (cases h; done) | simp [d_is_text, b_is_text, env0, isT, truth]
/-! a text drawn -/
def signsT : List Nat := [97, 98, 32, 99, 10, 120, 121, 10, 122, 46, 44]
theorem signsT_eq : ("ab c\nxy\nz.," : Str) = mkS signsT := by decide +kernel
def textN (s m : Int) : List Nat := (List.range (s / 7 % (m + 1)).toNat).map fun (k : Nat) => signsT.getD ((seedN s k) / 97 % 11).toNat 0
theorem tl_join0 (xs : List (List Nat)) : Txt.join "" (xs.map mkS) = mkS xs.flatten := by
  apply ext_tl
  rw [join_eq, tl_join, List.map_map]
  have e : (tl ∘ mkS) = id := rfl
  rw [e, List.map_id]
  have e2 : tl ("" : Str) = [] := by decide +kernel
  rw [e2, tl_mkS]
  induction xs with
  | nil => rfl
  | cons a r ih =>
    cases r with
    | nil => simp [joinL]
    | cons b r => rw [joinL, ih]; simp
theorem strsOf_map : ∀ xs : List Str, strsOf (xs.map .str) = some xs
  | [] => rfl
  | x :: xs => by rw [List.map_cons, strsOf, strsOf_map xs]; rfl
theorem join0 (css : List (List Nat)) (h : css.flatten.length ≤ 100000) : mtD .join (.str "") [.list (css.map fun cs => .str (mkS cs))] = .ok (.str (mkS css.flatten)) := by
  have e : (css.map fun cs => PyData.str (mkS cs)) = (css.map mkS).map .str := by rw [List.map_map]; rfl
  have e0 : ("" : Str).length = 0 := by decide +kernel
  have e1 : ((css.map mkS).map fun x => x.length).sum = css.flatten.length := by
    rw [List.length_flatten, List.map_map]
    congr 1
  rw [e]
  simp only [mtD, strsOf_map, e0, Nat.mul_zero, Nat.add_zero, e1, lim, if_pos h, tl_join0]
theorem join1 {α : Type} (l : List α) (g : α → Nat) (h : l.length ≤ 100000) : mtD .join (.str "") [.list (l.map fun k => .str (mkS [g k]))] = .ok (.str (mkS (l.map g))) := by
  have e2 : (l.map fun k => [g k]).flatten = l.map g := by
    clear h
    induction l with
    | nil => rfl
    | cons a r ih => rw [List.map_cons, List.flatten_cons, ih]; rfl
  have := join0 (l.map fun k => [g k]) (by rw [e2]; simpa using h)
  rw [e2, List.map_map] at this
  exact this
theorem textN_len (s m : Int) (h : 0 ≤ m) : (textN s m).length ≤ m.toNat := by
  unfold textN
  rw [List.length_map, List.length_range]
  have := Int.emod_lt_of_pos (s / 7) (b := m + 1) (by omega)
  omega
theorem textN_plain (s m : Int) : plainCs (textN s m) := by
  intro c hc
  unfold textN at hc
  obtain ⟨k, _, rfl⟩ := List.mem_map.mp hc
  rw [List.getD_eq_getElem?_getD]
  cases h : signsT[((seedN s k) / 97 % 11).toNat]? with
  | none => decide
  | some c =>
    have := List.mem_of_getElem? h
    have h2 : ∀ c ∈ signsT, c < 128 := by decide
    exact h2 c this
theorem rng_ok (i : Int) (h0 : 0 ≤ i) (h1 : i ≤ 100000) : rngD (.int i) = .ok ((List.range i.toNat).map fun (k : Nat) => .int (k : Int)) := by
  have e1 : decide (-(2 ^ 62) ≤ i) = true := decide_eq_true (by omega)
  have e2 : decide (i ≤ (lim : Nat)) = true := decide_eq_true h1
  simp only [rngD, e1, e2, Bool.and_self, if_true]
@[simp] theorem rngI2 : rngD (.int 2) = .ok [.int 0, .int 1] := rng_ok 2 (by decide) (by decide)
@[simp] theorem rngI3 : rngD (.int 3) = .ok [.int 0, .int 1, .int 2] := rng_ok 3 (by decide) (by decide)
@[simp] theorem rngI4 : rngD (.int 4) = .ok [.int 0, .int 1, .int 2, .int 3] := rng_ok 4 (by decide) (by decide)
@[simp] theorem rngI5 : rngD (.int 5) = .ok [.int 0, .int 1, .int 2, .int 3, .int 4] := rng_ok 5 (by decide) (by decide)
@[simp] theorem rngI6 : rngD (.int 6) = .ok [.int 0, .int 1, .int 2, .int 3, .int 4, .int 5] := rng_ok 6 (by decide) (by decide)
theorem c_law_text (k : Nat) (s m : Int) (h0 : 0 ≤ m) (h1 : m < 1000) : call T (k+2) f_law_text [.int s, .int m] = .ok (.str (mkS (textN s m))) := by
  rw [call_eq T_law_text rfl]
  have hm : (0 : Int) < m + 1 := by omega
  have hm2 : m + 1 < 1073741824 := by omega
  have r1 := Int.emod_nonneg (s / 7) (b := m + 1) (by omega)
  have r2 := Int.emod_lt_of_pos (s / 7) (b := m + 1) (by omega)
  have e := compB_of (Φ := call T (k+1)) (x := .idx (.var 2) (.call f_law_pick (.cons (.call f_law_seed (.cons (.var 0) (.cons (.var 3) .nil))) (.cons (.bi .len (.cons (.var 2) .nil)) .nil)))) (t := .name 3) (c := .none)
    (env := [some (.val (.int s)), some (.val (.int m)), some (.val (.str (mkS signsT))), none]) (List.range (s / 7 % (m + 1)).toNat) (fun (k : Nat) => PyData.int (k : Int)) (fun (k : Nat) => .str (mkS [signsT.getD ((seedN s k) / 97 % 11).toNat 0]))
    (by simp [lim]; omega) fun j hj => by
      have q1 := Int.emod_nonneg (seedN s j / 97) (b := 11) (by omega)
      have q2 := Int.emod_lt_of_pos (seedN s j / 97) (b := 11) (by omega)
      have hl : signsT.length = 11 := rfl
      have e : L2.atI signsT (seedN s j / 97 % 11) = some (signsT.getD ((seedN s j) / 97 % 11).toNat 0) := atI_get q1 (by rw [List.getD_eq_getElem?_getD, List.getElem?_eq_getElem (by omega)]; rfl)
      simp [Tg.slots, wipeE, biD, c_seed, c_pick, idxD, hl, e, lim]
  have hmt := join1 (List.range (s / 7 % (m + 1)).toNat) (fun k => signsT.getD ((seedN s k) / 97 % 11).toNat 0) (by simp; omega)
  simp only [d_law_text, b_law_text, env0, signsT_eq]
  simp [binD, divD, modD, addD, hm, rng_ok _ r1 (by omega), mtTy]
  rw [e, kC_ok, kL_ok, hmt]
  rfl
/-! ### spot -/
theorem cutL_pre {α : Type} (xs : List α) (p : Nat) (h : p ≤ xs.length) : cutL xs none (some (p : Int)) = xs.take p := by
  unfold cutL
  rw [HT.sIx_none, HT.sIx_nat, Nat.min_eq_left h, List.drop_zero, Nat.sub_zero]
theorem c_spot (k : Nat) (cs : List Nat) (p : Nat) (h : cs.length ≤ 1000) (hp : p ≤ cs.length) :
    call T (k+2) f_spot [.str (mkS cs), .int p] = .ok (.tuple [.int ((walkRC (0, 0) (cs.take p)).1 : Nat), .int ((walkRC (0, 0) (cs.take p)).2 : Nat)]) := by
  rw [call_eq T_spot rfl]
  have h2 : cs.length ≤ 100000 := by omega
  have h3 : ((p : Int) ≤ cs.length) := by omega
  have ht : min p cs.length = p := Nat.min_eq_left hp
  have e1 := cnt_nl (cs.take p)
  have e2 := rfind_nl (cs.take p)
  rw [List.length_take, ht] at e2
  have hl3 : min p cs.length ≤ 100000 := by omega
  simp [d_spot, b_spot, env0, c_is_text _ _ h, truth, biD, lim, h2, c_is_within, isWithin, h3, slD, cutL_pre cs p hp, mtTy, mtD, hl3, e1, binD, addD, subD, mkTup, e2, lim]
theorem c_spot_notext (k : Nat) (d p : D) (h : notText d = true) : call T (k+2) f_spot [d, p] = .exc 2 := by
  rw [call_eq T_spot rfl]
  simp [d_spot, b_spot, env0, c_is_text_no _ _ h, truth]
theorem c_spot_noplace (k : Nat) (cs : List Nat) (p : D) (h : cs.length ≤ 1000) (hd : ∀ kvs, p ≠ .dict kvs) (hp : isWithin p 0 cs.length = false) : call T (k+2) f_spot [.str (mkS cs), p] = .exc 1 := by
  rw [call_eq T_spot rfl]
  have h2 : cs.length ≤ 100000 := by omega
  simp [d_spot, b_spot, env0, c_is_text _ _ h, truth, biD, lim, h2, c_is_within, hd, hp]
/-! ### place_of -/
theorem intsOf_map : ∀ xs : List Int, intsOf (xs.map .int) = some xs
  | [] => rfl
  | x :: xs => by rw [List.map_cons, intsOf, intsOf_map xs]; rfl
theorem atI_none {α : Type} {xs : List α} {i : Int} (h0 : (xs.length : Int) ≤ i) : L2.atI xs i = none := by
  unfold L2.atI L2.ixN
  rw [if_pos (by omega), if_neg (by omega)]; rfl
theorem rows_len (cs : List Nat) : (rowsOf [] cs).length ≤ cs.length + 1 := by
  have h := (rows_end cs []).1
  suffices q : ∀ (cs : List Nat) (r c : Nat), (walkRC (r, c) cs).1 ≤ r + cs.length by
    have := q cs 0 0
    simp at h
    omega
  intro cs
  induction cs with
  | nil => intro r c; simp [walkRC]
  | cons x xs ih =>
    intro r c
    by_cases hx : x = 10
    · have := ih (r + 1) 0
      simp only [walkRC, List.foldl_cons, stepRC, hx, if_true] at this ⊢
      simp; omega
    · have := ih r (c + 1)
      simp only [walkRC, List.foldl_cons, stepRC, hx, if_false] at this ⊢
      simp; omega
theorem row_len : ∀ (cs acc : List Nat) (l : List Nat), l ∈ rowsOf acc cs → l.length ≤ acc.length + cs.length
  | [], acc, l, h => by
    have : l = acc := by simpa [rowsOf_nil] using h
    rw [this]; omega
  | c :: r, acc, l, h => by
    rw [rowsOf_cons] at h
    split at h
    · rcases List.mem_cons.mp h with q | q
      · rw [q]; omega
      · have := row_len r [] l q
        simp at this ⊢; omega
    · have := row_len r _ l h
      simp at this ⊢; omega
theorem c_place_of (k : Nat) (cs l : List Nat) (r c : Nat) (h : cs.length ≤ 1000) (h1 : (rowsOf [] cs)[r]? = some l) (h2 : c ≤ l.length) :
    call T (k+2) f_place_of [.str (mkS cs), .int r, .int c] = .ok (.int ((sumL ((rowsOf [] cs).take r) + c : Nat) : Int)) := by
  rw [call_eq T_place_of rfl]
  have hc : cs.length ≤ 100000 := by omega
  have hr : r < (rowsOf [] cs).length := (List.getElem?_eq_some_iff.mp h1).1
  have hrl := rows_len cs
  have hsp := split_nl cs
  have hl := row_len cs [] l (List.mem_of_getElem? h1)
  have hl1 : l.length ≤ 100000 := by simp at hl; omega
  have h2i : (c : Int) ≤ l.length := by omega
  have hri : (r : Int) ≤ ((rowsOf [] cs).length : Int) - 1 := by omega
  have hsplit : mtD .split (.str (mkS cs)) [.str "\n"] = .ok (.list ((rowsOf [] cs).map fun l => .str (mkS l))) := by
    have e0 : (("\n" : Str).length == 0) = false := by decide +kernel
    simp only [mtD, hsp, len_mkS, lim, hc, decide_true, e0, Bool.not_false, Bool.and_self, if_true, List.map_map]
    rfl
  have hat : L2.atI ((rowsOf [] cs).map fun l => PyData.str (mkS l)) (r : Int) = some (.str (mkS l)) := atI_get (by omega) (by simp [h1])
  have hcut : cutL ((rowsOf [] cs).map fun l => PyData.str (mkS l)) none (some (r : Int)) = ((rowsOf [] cs).take r).map fun l => PyData.str (mkS l) := by
    rw [cutL_pre _ _ (by simp; omega), List.map_take]
  have e := compB_of (Φ := call T (k+1)) (x := .bin .Add (.bi .len (.cons (.var 4) .nil)) (.int 1)) (t := .name 4) (c := .none)
    (env := [some (.val (.str (mkS cs))), some (.val (.int r)), some (.val (.int c)), some (.val (.list ((rowsOf [] cs).map fun l => .str (mkS l)))), none]) ((rowsOf [] cs).take r) (fun l => PyData.str (mkS l)) (fun l => .int ((l.length : Int) + 1))
    (by rw [List.length_take]; simp [lim]; omega) fun y hy => by
      have hy1 := row_len cs [] y (List.mem_of_mem_take hy)
      have hy2 : y.length ≤ 100000 := by simp at hy1; omega
      simp [Tg.slots, wipeE, biD, binD, addD, lim, hy2]
  have hs : biD .sum [.list (((rowsOf [] cs).take r).map fun l => .int ((l.length : Int) + 1))] = .ok (.int (sumL ((rowsOf [] cs).take r) : Nat)) := by
    have e1 : (((rowsOf [] cs).take r).map fun l => PyData.int ((l.length : Int) + 1)) = (((rowsOf [] cs).take r).map fun l => ((l.length : Int) + 1)).map .int := by rw [List.map_map]; rfl
    rw [e1]
    simp only [biD, intsOf_map]
    congr 2
    unfold sumL
    generalize (rowsOf [] cs).take r = m
    induction m with
    | nil => rfl
    | cons a b ih => simp [ih]
  simp [d_place_of, b_place_of, c_is_text _ _ h, truth, mtTy, hsplit, biD, c_is_within, isWithin, hri, idxD, hat, lim, hl1, h2i, slD, hcut, seqD]
  rw [← List.map_take, e, kC_ok, kL_ok, hs]
  simp [binD, addD]
theorem c_place_of_notext (k : Nat) (d r c : D) (h : notText d = true) : call T (k+2) f_place_of [d, r, c] = .exc 2 := by
  rw [call_eq T_place_of rfl]
  simp [d_place_of, b_place_of, c_is_text_no _ _ h, truth]
/-- no row -/
theorem c_place_of_norow (k : Nat) (cs : List Nat) (r c : D) (h : cs.length ≤ 1000) (hd : ∀ kvs, r ≠ .dict kvs) (hr : isWithin r 0 ((rowsOf [] cs).length - 1) = false) : call T (k+2) f_place_of [.str (mkS cs), r, c] = .exc 1 := by
  rw [call_eq T_place_of rfl]
  have hc : cs.length ≤ 100000 := by omega
  have hsplit : mtD .split (.str (mkS cs)) [.str "\n"] = .ok (.list ((rowsOf [] cs).map fun l => .str (mkS l))) := by
    have e0 : (("\n" : Str).length == 0) = false := by decide +kernel
    simp only [mtD, split_nl cs, len_mkS, lim, hc, decide_true, e0, Bool.not_false, Bool.and_self, if_true, List.map_map]
    rfl
  simp [d_place_of, b_place_of, c_is_text _ _ h, truth, mtTy, hsplit, biD, c_is_within, hd, hr]
theorem c_place_of_nocol (k : Nat) (cs l : List Nat) (r : Nat) (c : D) (h : cs.length ≤ 1000) (h1 : (rowsOf [] cs)[r]? = some l) (hd : ∀ kvs, c ≠ .dict kvs) (hc0 : isWithin c 0 l.length = false) : call T (k+2) f_place_of [.str (mkS cs), .int r, c] = .exc 1 := by
  rw [call_eq T_place_of rfl]
  have hc : cs.length ≤ 100000 := by omega
  have hr : r < (rowsOf [] cs).length := (List.getElem?_eq_some_iff.mp h1).1
  have hl := row_len cs [] l (List.mem_of_getElem? h1)
  have hl1 : l.length ≤ 100000 := by simp at hl; omega
  have hri : (r : Int) ≤ ((rowsOf [] cs).length : Int) - 1 := by omega
  have hsplit : mtD .split (.str (mkS cs)) [.str "\n"] = .ok (.list ((rowsOf [] cs).map fun l => .str (mkS l))) := by
    have e0 : (("\n" : Str).length == 0) = false := by decide +kernel
    simp only [mtD, split_nl cs, len_mkS, lim, hc, decide_true, e0, Bool.not_false, Bool.and_self, if_true, List.map_map]
    rfl
  have hat : L2.atI ((rowsOf [] cs).map fun l => PyData.str (mkS l)) (r : Int) = some (.str (mkS l)) := atI_get (by omega) (by simp [h1])
  simp [d_place_of, b_place_of, c_is_text _ _ h, truth, mtTy, hsplit, biD, c_is_within, isWithin, hri, idxD, hat, lim, hl1]
  simp [c_is_within, hd, hc0, truth]
end M

set_option linter.all false
set_option maxRecDepth 100000
set_option maxHeartbeats 1000000
namespace M
open PySem
/-! ### maps: their stretches, and where they lead -/
abbrev Ld := Option (Int × Int)
inductive Og where
  | non | al (s a : Int) | pt (s a : Int)
abbrev Seg := Nat × Og
def ledO : Og → Nat → Ld
  | .non, _ => none
  | .al s a, k => some (s, a + (k : Nat))
  | .pt s a, _ => some (s, a)
def ldsS : List Seg → List Ld
  | [] => []
  | (n, o) :: r => (List.range n).map (ledO o) ++ ldsS r
def tot : List Seg → Nat
  | [] => 0
  | (n, _) :: r => n + tot r
theorem ldsS_app : ∀ a b : List Seg, ldsS (a ++ b) = ldsS a ++ ldsS b
  | [], _ => rfl
  | (n, o) :: r, b => by rw [List.cons_append, ldsS, ldsS, ldsS_app r b, List.append_assoc]
theorem tot_app : ∀ a b : List Seg, tot (a ++ b) = tot a + tot b
  | [], _ => by simp [tot]
  | (n, o) :: r, b => by rw [List.cons_append, tot, tot, tot_app r b]; omega
theorem ldsS_len : ∀ a : List Seg, (ldsS a).length = tot a
  | [] => rfl
  | (n, o) :: r => by rw [ldsS, tot, List.length_append, ldsS_len r]; simp
def okL : Ld → Prop
  | none => True
  | some (s, a) => 0 ≤ s ∧ s ≤ 9 ∧ 0 ≤ a ∧ a ≤ 9999
def okO : Nat → Og → Prop
  | _, .non => True
  | n, .al s a => 0 ≤ s ∧ s ≤ 9 ∧ 0 ≤ a ∧ a ≤ 9999 ∧ a + n - 1 ≤ 9999
  | _, .pt s a => 0 ≤ s ∧ s ≤ 9 ∧ 0 ≤ a ∧ a ≤ 9999
def okS (p : List Seg) : Prop := ∀ x ∈ p, 1 ≤ x.1 ∧ okO x.1 x.2
theorem okS_cons {x : Seg} {p : List Seg} : okS (x :: p) ↔ (1 ≤ x.1 ∧ okO x.1 x.2) ∧ okS p := by simp [okS]
theorem okS_app {p q : List Seg} : okS (p ++ q) ↔ okS p ∧ okS q := by
  simp only [okS, List.mem_append]
  exact ⟨fun h => ⟨fun x hx => h x (.inl hx), fun x hx => h x (.inr hx)⟩, fun h x hx => hx.elim (h.1 x) (h.2 x)⟩
/-- leads that are within bounds come of stretches that are -/
theorem okO_of : ∀ (n : Nat) (o : Og), 1 ≤ n → (∀ k, k < n → okL (ledO o k)) → okO n o
  | n, .non, _, _ => trivial
  | n, .al s a, h, q => by
    have h1 := q 0 (by omega)
    have h2 := q (n - 1) (by omega)
    simp only [ledO, okL, okO] at h1 h2 ⊢
    omega
  | n, .pt s a, h, q => by
    have h1 := q 0 (by omega)
    simpa [ledO, okL, okO] using h1
theorem okL_of : ∀ (n : Nat) (o : Og) (k : Nat), okO n o → k < n → okL (ledO o k)
  | n, .non, _, _, _ => trivial
  | n, .al s a, k, h, q => by simp only [ledO, okL, okO] at h ⊢; omega
  | n, .pt s a, k, h, q => by simpa [ledO, okL, okO] using h
theorem okS_of : ∀ (p : List Seg), (∀ x ∈ p, 1 ≤ x.1) → (∀ l ∈ ldsS p, okL l) → okS p
  | [], _, _ => fun x hx => by simp at hx
  | (n, o) :: r, h1, h2 => by
    have hn : 1 ≤ n := h1 (n, o) (by simp)
    refine okS_cons.mpr ⟨⟨hn, okO_of n o hn fun k hk => h2 _ ?_⟩, okS_of r (fun x hx => h1 x (by simp [hx])) fun l hl => h2 l (by simp [ldsS, hl])⟩
    rw [ldsS]
    exact List.mem_append_left _ (List.mem_map.mpr ⟨k, by simpa using hk, rfl⟩)
theorem okL_ldsS : ∀ (p : List Seg), okS p → ∀ l ∈ ldsS p, okL l
  | [], _, l, hl => by simp [ldsS] at hl
  | (n, o) :: r, h, l, hl => by
    rw [okS_cons] at h
    rw [ldsS] at hl
    rcases List.mem_append.mp hl with q | q
    · obtain ⟨k, hk, rfl⟩ := List.mem_map.mp q
      exact okL_of n o k h.1.2 (by simpa using hk)
    · exact okL_ldsS r h.2 l q
/-! ### the least map -/
/-- one lead alone -/
def oneO : Ld → Og
  | none => .non
  | some (s, a) => .al s a
/-- a stretch that goes on with a lead -/
def goesS : Seg → Ld → Option Seg
  | (n, .non), none => some (n + 1, .non)
  | (_, .non), some _ => none
  | (_, .al _ _), none => none
  | (n, .al s a), some (s', a') => if n = 1 ∧ s' = s ∧ a' = a then some (2, .pt s a) else if s' = s ∧ a' = a + n then some (n + 1, .al s a) else none
  | (_, .pt _ _), none => none
  | (n, .pt s a), some (s', a') => if s' = s ∧ a' = a then some (n + 1, .pt s a) else none
def addR : List Seg → Ld → List Seg
  | [], y => [(1, oneO y)]
  | x :: r, y => match goesS x y with
    | some z => z :: r
    | none => (1, oneO y) :: x :: r
/-- from the end on -/
def leastR (xs : List Ld) : List Seg := xs.foldl addR []
def leastS (xs : List Ld) : List Seg := (leastR xs).reverse
theorem leastR_snoc (xs : List Ld) (y : Ld) : leastR (xs ++ [y]) = addR (leastR xs) y := by simp [leastR]
theorem addR_app {A B : List Seg} (h : A ≠ []) (y : Ld) : addR (A ++ B) y = addR A y ++ B := by
  cases A with
  | nil => exact absurd rfl h
  | cons x r =>
    simp only [List.cons_append, addR]
    cases goesS x y <;> rfl
theorem addR_ne (A : List Seg) (y : Ld) : addR A y ≠ [] := by
  cases A with
  | nil => simp [addR]
  | cons x r => simp only [addR]; cases goesS x y <;> simp
theorem fold_app {B : List Seg} : ∀ (ys : List Ld) {A : List Seg}, A ≠ [] → ys.foldl addR (A ++ B) = ys.foldl addR A ++ B
  | [], _, _ => rfl
  | y :: ys, A, h => by rw [List.foldl_cons, List.foldl_cons, addR_app h, fold_app ys (addR_ne A y)]
/-- what does not go on stands alone -/
theorem fold_sep (x : Seg) (R : List Seg) (ys : List Ld) (h : ∀ y, ys.head? = some y → goesS x y = none) : ys.foldl addR (x :: R) = ys.foldl addR [] ++ (x :: R) := by
  cases ys with
  | nil => rfl
  | cons y ys =>
    rw [List.foldl_cons, List.foldl_cons]
    have e : addR (x :: R) y = [(1, oneO y)] ++ (x :: R) := by simp [addR, h y rfl]
    rw [e, fold_app ys (by simp)]
    rfl
/-- what a stretch tells -/
theorem goesS_ok {x z : Seg} {y : Ld} (h1 : 1 ≤ x.1) (h : goesS x y = some z) : z.1 = x.1 + 1 ∧ ldsS [z] = ldsS [x] ++ [y] := by
  obtain ⟨n, o⟩ := x
  cases o with
  | non =>
    cases y with
    | none => cases h; refine ⟨rfl, ?_⟩; simp [ldsS, List.range_succ, ledO]
    | some p => cases h
  | al s a =>
    cases y with
    | none => cases h
    | some p =>
      obtain ⟨s', a'⟩ := p
      simp only [goesS] at h
      split at h
      · rename_i q; obtain ⟨rfl, rfl, rfl⟩ := q; cases h; exact ⟨rfl, by simp [ldsS, List.range_succ, ledO]⟩
      · split at h
        · rename_i q; obtain ⟨rfl, rfl⟩ := q; cases h; refine ⟨rfl, ?_⟩; simp [ldsS, List.range_succ, ledO]
        · cases h
  | pt s a =>
    cases y with
    | none => cases h
    | some p =>
      obtain ⟨s', a'⟩ := p
      simp only [goesS] at h
      split at h
      · rename_i q; obtain ⟨rfl, rfl⟩ := q; cases h; exact ⟨rfl, by simp [ldsS, List.range_succ, ledO]⟩
      · cases h
theorem lds_one (y : Ld) : ldsS [(1, oneO y)] = [y] := by
  cases y with
  | none => rfl
  | some p => obtain ⟨s, a⟩ := p; simp [ldsS, oneO, ledO]
theorem leastR_ok (xs : List Ld) : (∀ x ∈ leastR xs, 1 ≤ x.1) ∧ ldsS (leastR xs).reverse = xs := by
  suffices h : ∀ (n : Nat) (xs : List Ld), xs.length = n → (∀ x ∈ leastR xs, 1 ≤ x.1) ∧ ldsS (leastR xs).reverse = xs from h _ xs rfl
  intro n
  induction n with
  | zero =>
    intro xs h
    have : xs = [] := by simpa using h
    subst this
    exact ⟨fun x hx => by simp [leastR] at hx, rfl⟩
  | succ n ih =>
    intro xs h
    have hne : xs ≠ [] := by intro e; rw [e] at h; simp at h
    obtain ⟨ds, y, rfl⟩ : ∃ ds c, xs = ds ++ [c] := ⟨xs.dropLast, xs.getLast hne, (List.dropLast_concat_getLast hne).symm⟩
    obtain ⟨h1, h2⟩ := ih ds (by simpa using h)
    rw [leastR_snoc]
    cases hr : leastR ds with
    | nil =>
      rw [hr] at h2
      have : ds = [] := h2.symm
      subst this
      simp only [addR]
      refine ⟨fun x hx => by simp at hx; subst hx; exact Nat.le_refl _, ?_⟩
      exact lds_one y
    | cons x r =>
      rw [hr] at h1 h2
      simp only [addR]
      rw [List.reverse_cons, ldsS_app] at h2
      cases hg : goesS x y with
      | none =>
        refine ⟨fun z hz => ?_, ?_⟩
        · rcases List.mem_cons.mp hz with q | q
          · subst q; exact Nat.le_refl _
          · exact h1 z q
        · show ldsS (((1, oneO y) :: x :: r).reverse) = _
          rw [List.reverse_cons, ldsS_app, lds_one, List.reverse_cons, ldsS_app, h2]
      | some z =>
        obtain ⟨g1, g2⟩ := goesS_ok (h1 x (by simp)) hg
        refine ⟨fun w hw => ?_, ?_⟩
        · rcases List.mem_cons.mp hw with q | q
          · subst q; omega
          · exact h1 w (by simp [q])
        · show ldsS ((z :: r).reverse) = _
          rw [List.reverse_cons, ldsS_app, g2, ← List.append_assoc, h2]
theorem ldsS_least (xs : List Ld) : ldsS (leastS xs) = xs := (leastR_ok xs).2
theorem tot_least (xs : List Ld) : tot (leastS xs) = xs.length := by rw [← ldsS_len, ldsS_least]
theorem okS_least (xs : List Ld) (h : ∀ l ∈ xs, okL l) : okS (leastS xs) :=
  okS_of _ (fun x hx => (leastR_ok xs).1 x (by simpa [leastS] using hx)) (by rw [ldsS_least]; exact h)
/-! ### as data -/
def dL : Ld → D
  | none => .none
  | some (s, a) => .tuple [.int s, .int a]
@[simp] theorem dL_none : dL none = .none := (rfl)
@[simp] theorem dL_some (s a : Int) : dL (some (s, a)) = .tuple [.int s, .int a] := (rfl)
def sAl : Str := "along"
def sPt : Str := "point"
def dO : Og → D
  | .non => .none
  | .al s a => .tuple [.str "along", .int s, .int a]
  | .pt s a => .tuple [.str "point", .int s, .int a]
def dP (b : Nat) (o : Og) : D := .tuple [.int b, dO o]
def dPs : Nat → List Seg → List D
  | _, [] => []
  | b, (n, o) :: r => dP b o :: dPs (b + n) r
def dM (p : List Seg) : D := .tuple [.int (tot p), .tuple (dPs 0 p)]
def dLs (xs : List Ld) : D := .list (xs.map dL)
def begS : Nat → List Seg → List Nat
  | _, [] => []
  | b, (n, _) :: r => b :: begS (b + n) r
def endS : Nat → List Seg → List Nat
  | _, [] => []
  | b, (n, _) :: r => (b + n) :: endS (b + n) r
/-- begin, origin, end -/
def trip : Nat → List Seg → List (Nat × Og × Nat)
  | _, [] => []
  | b, (n, o) :: r => (b, o, b + n) :: trip (b + n) r
theorem dPs_len : ∀ (p : List Seg) (b : Nat), (dPs b p).length = p.length
  | [], _ => rfl
  | (n, o) :: r, b => by simp [dPs, dPs_len r]
theorem begS_len : ∀ (p : List Seg) (b : Nat), (begS b p).length = p.length
  | [], _ => rfl
  | (n, o) :: r, b => by simp [begS, begS_len r]
theorem endS_len : ∀ (p : List Seg) (b : Nat), (endS b p).length = p.length
  | [], _ => rfl
  | (n, o) :: r, b => by simp [endS, endS_len r]
theorem trip_len : ∀ (p : List Seg) (b : Nat), (trip b p).length = p.length
  | [], _ => rfl
  | (n, o) :: r, b => by simp [trip, trip_len r]
theorem zip_trip : ∀ (p : List Seg) (b : Nat), List.zipWith (fun p q => PyData.tuple [p, q]) (dPs b p) ((endS b p).map fun (n : Nat) => PyData.int (n : Int)) = (trip b p).map fun t => .tuple [dP t.1 t.2.1, .int (t.2.2 : Nat)]
  | [], _ => rfl
  | (n, o) :: r, b => by simp only [dPs, endS, trip, List.map_cons, List.zipWith_cons_cons, zip_trip r]
theorem dPs_app : ∀ (p q : List Seg) (b : Nat), dPs b (p ++ q) = dPs b p ++ dPs (b + tot p) q
  | [], q, b => by simp [dPs, tot]
  | (n, o) :: r, q, b => by simp only [List.cons_append, dPs, tot, dPs_app r q, Nat.add_assoc]
theorem segs_le : ∀ (p : List Seg), okS p → p.length ≤ tot p
  | [], _ => Nat.le_refl _
  | (n, o) :: r, h => by
    rw [okS_cons] at h
    have := segs_le r h.2
    have := h.1.1
    simp only [List.length_cons, tot] at *
    omega
theorem dPs_get : ∀ (p : List Seg) (b i : Nat) (d : D), (dPs b p)[i]? = some d → ∃ bg o, d = dP bg o ∧ (begS b p)[i]? = some bg
  | [], b, i, d, h => by simp [dPs] at h
  | (n, o) :: r, b, 0, d, h => by simp [dPs] at h; exact ⟨b, o, h.symm, rfl⟩
  | (n, o) :: r, b, i + 1, d, h => by
    obtain ⟨bg, o', h1, h2⟩ := dPs_get r (b + n) i d (by simpa [dPs] using h)
    exact ⟨bg, o', h1, by simpa [begS] using h2⟩
theorem begS_lt : ∀ (p : List Seg) (b i bg : Nat), okS p → (begS b p)[i]? = some bg → b ≤ bg ∧ bg < b + tot p
  | [], b, i, bg, _, h => by simp [begS] at h
  | (n, o) :: r, b, 0, bg, hk, h => by
    rw [okS_cons] at hk
    have := hk.1.1
    simp [begS] at h
    simp only [tot] at *
    omega
  | (n, o) :: r, b, i + 1, bg, hk, h => by
    rw [okS_cons] at hk
    have := begS_lt r (b + n) i bg hk.2 (by simpa [begS] using h)
    have := hk.1.1
    simp only [tot] at *
    omega
theorem begS_inc : ∀ (p : List Seg) (b i x y : Nat), okS p → (begS b p)[i]? = some x → (begS b p)[i + 1]? = some y → x < y
  | [], b, i, x, y, _, h, _ => by simp [begS] at h
  | (n, o) :: r, b, 0, x, y, hk, h, h2 => by
    rw [okS_cons] at hk
    have := hk.1.1
    simp [begS] at h
    have := begS_lt r (b + n) 0 y hk.2 (by simpa [begS] using h2)
    simp only at *
    omega
  | (n, o) :: r, b, i + 1, x, y, hk, h, h2 => by
    rw [okS_cons] at hk
    exact begS_inc r (b + n) i x y hk.2 (by simpa [begS] using h) (by simpa [begS] using h2)
theorem beg_end : ∀ (p : List Seg) (b : Nat), p ≠ [] → (begS b p).drop 1 ++ [b + tot p] = endS b p
  | [], b, h => absurd rfl h
  | [(n, o)], b, _ => by simp [begS, endS, tot]
  | (n, o) :: (m, u) :: r, b, _ => by
    have := beg_end ((m, u) :: r) (b + n) (by simp)
    simp only [begS, endS, tot, List.drop_succ_cons, List.drop_zero, List.cons_append, Nat.add_assoc] at this ⊢
    rw [this]
end M

set_option linter.all false
set_option maxRecDepth 100000
set_option maxHeartbeats 1000000
namespace M
open PySem
theorem sAlPt : ("along" : Str) ≠ "point" := by decide +kernel
theorem pd_s {x : Str} (h : PyData.strOk x = true) : pd (.str x) := ⟨by rw [pl, PyData.canLay0]; exact h, by simp [PyData.depth]⟩
theorem pdAl : pd (.str "along") := pd_s (by decide +kernel)
theorem pdPt : pd (.str "point") := pd_s (by decide +kernel)
@[simp] theorem eqAA : eqD (.str "along") (.str "along") = .ok true := eqD_self pdAl
@[simp] theorem eqPP : eqD (.str "point") (.str "point") = .ok true := eqD_self pdPt
@[simp] theorem eqAP : eqD (.str "along") (.str "point") = .ok false := eqD_ne pdAl pdPt (by intro h; injection h with h; exact sAlPt h)
@[simp] theorem eqPA : eqD (.str "point") (.str "along") = .ok false := eqD_ne pdPt pdAl (by intro h; injection h with h; exact sAlPt h.symm)
/-! ### a stretch's origin -/
theorem c_is_origin (k n : Nat) (o : Og) (h : okO n o) : call T (k+2) f_is_origin [dO o, .int n] = .ok (.bool true) := by
  rw [call_eq T_is_origin rfl]
  cases o with
  | non => simp [d_is_origin, b_is_origin, dO]
  | al s a =>
    obtain ⟨h1, h2, h3, h4, h5⟩ := h
    simp [d_is_origin, b_is_origin, dO, c_is_within, isWithin, h1, h2, h3, h4]
    omega
  | pt s a =>
    obtain ⟨h1, h2, h3, h4⟩ := h
    simp [d_is_origin, b_is_origin, dO, c_is_within, isWithin, h1, h2, h3, h4]
/-! ### the ends -/
theorem cutL_to1 {α : Type} (xs : List α) : cutL xs none (some 1) = xs.take 1 := by
  unfold cutL
  have e : HT.sIx xs.length xs.length (some 1) = min 1 xs.length := HT.sIx_nat _ _ 1
  rw [HT.sIx_none, e, List.drop_zero, Nat.sub_zero]
  rw [List.take_eq_take_min, Nat.min_eq_left (Nat.min_le_right _ _)]
  exact (List.take_eq_take_min ..).symm
theorem cutL_from1 {α : Type} (xs : List α) : cutL xs (some 1) none = xs.drop 1 := by
  unfold cutL
  have e : HT.sIx xs.length 0 (some 1) = min 1 xs.length := HT.sIx_nat _ _ 1
  rw [HT.sIx_none, e]
  cases xs with
  | nil => rfl
  | cons x r =>
    have : min 1 (x :: r).length = 1 := by simp
    rw [this]
    exact List.take_of_length_le (by simp)
theorem cutL_one {α : Type} (x : α) (n : Nat) : cutL [x] none (some (n : Int)) = if n = 0 then [] else [x] := by
  unfold cutL
  have e : HT.sIx 1 1 (some (n : Int)) = min n 1 := HT.sIx_nat _ _ n
  rw [HT.sIx_none, List.length_singleton, e, List.drop_zero, Nat.sub_zero]
  by_cases h : n = 0
  · subst h; rfl
  · have : min n 1 = 1 := by omega
    rw [this, if_neg h]; rfl
def dN (n : Nat) : D := .int (n : Int)
theorem plL_ints : ∀ ns : List Nat, plL (ns.map dN) = true
  | [] => rfl
  | n :: ns => by simp [plL, pl, dN, plL_ints ns]
theorem pd_nats (ns : List Nat) : pd (.list (ns.map dN)) := by
  refine ⟨plL_ints ns, ?_⟩
  have : PyData.depthAll (ns.map dN) ≤ 1 := depthAll_le fun d hd => by
    obtain ⟨n, _, rfl⟩ := List.mem_map.mp hd
    simp [dN, PyData.depth]
  rw [PyData.depth]
  omega
theorem rng2_ok (i j : Nat) (h1 : i ≤ 100000) (h2 : j ≤ 100000) : rng2D (.int i) (.int j) = .ok ((List.range (j - i)).map fun (k : Nat) => .int ((i : Int) + (k : Int))) := by
  have e1 : decide (-(2 ^ 61) ≤ (i : Int)) = true := decide_eq_true (by omega)
  have e2 : decide ((i : Int) < 2 ^ 61) = true := decide_eq_true (by omega)
  have e3 : decide (-(2 ^ 61) ≤ (j : Int)) = true := decide_eq_true (by omega)
  have e4 : decide ((j : Int) < 2 ^ 61) = true := decide_eq_true (by omega)
  have e5 : ((j : Int) - i).toNat = j - i := by omega
  simp only [rng2D, e1, e2, e3, e4, e5, Bool.and_self, if_true]
theorem ends_e1 (p : List Seg) (h : okS p) : eqD (.list (((begS 0 p).map dN).take 1)) (.list (if tot p = 0 then [] else [.int 0])) = .ok true := by
  cases p with
  | nil =>
    have e : (((begS 0 []).map dN).take 1) = ([] : List Nat).map dN := rfl
    have e2 : (if tot [] = 0 then [] else [PyData.int 0]) = ([] : List Nat).map dN := rfl
    rw [e, e2]
    exact eqD_self (pd_nats [])
  | cons x r =>
    obtain ⟨n, o⟩ := x
    have := (okS_cons.mp h).1.1
    have hn : ¬ tot ((n, o) :: r) = 0 := by simp only [tot] at *; omega
    have e : (((begS 0 ((n, o) :: r)).map dN).take 1) = [0].map dN := rfl
    have e2 : [PyData.int 0] = [0].map dN := rfl
    rw [if_neg hn, e, e2]
    exact eqD_self (pd_nats [0])
theorem ends_e2 (Φ : Nat → List D → R D) (p : List Seg) (h : okS p) (hl : p.length ≤ 1000) (x y pc : Option W) : compB Φ (.var 4) (.name 4) (.some (.cmp .GtE (.idx (.ow 2) (.bin .Sub (.var 4) (.int 1))) (.idx (.ow 2) (.var 4))))
      [x, y, some (.own ((begS 0 p).map dN)), pc, none] ((List.range ((begS 0 p).length - 1)).map (fun (k : Nat) => PyData.int ((1 : Int) + (k : Int)))) = .ok (.list []) := by
  have hb1 : (begS 0 p).length ≤ 1000 := by rw [begS_len]; exact hl
  have e2 := compB_off (Φ := Φ) (x := .var 4) (t := .name 4) (c := .some (.cmp .GtE (.idx (.ow 2) (.bin .Sub (.var 4) (.int 1))) (.idx (.ow 2) (.var 4))))
      (env := [x, y, some (.own ((begS 0 p).map dN)), pc, none]) (List.range ((begS 0 p).length - 1)) (fun (k : Nat) => PyData.int ((1 : Int) + (k : Int))) (fun _ => none)
      (by simp; omega) fun j hj => by
        have hj : j < (begS 0 p).length - 1 := by simpa using hj
        have g1 : (begS 0 p)[j]? = some (begS 0 p)[j] := List.getElem?_eq_getElem (by omega)
        have g2 : (begS 0 p)[j + 1]? = some (begS 0 p)[j + 1] := List.getElem?_eq_getElem (by omega)
        have lt := begS_inc p 0 j _ _ h g1 g2
        have a1 : L2.atI ((begS 0 p).map dN) (1 + (j : Int) - 1) = some (.int ((begS 0 p)[j] : Nat)) := atI_get (by omega) (by
          have : (1 + (j : Int) - 1).toNat = j := by omega
          rw [this]; simp [g1, dN])
        have a2 : L2.atI ((begS 0 p).map dN) (1 + (j : Int)) = some (.int ((begS 0 p)[j + 1] : Nat)) := atI_get (by omega) (by
          have : (1 + (j : Int)).toNat = j + 1 := by omega
          rw [this]; simp [g2, dN])
        have lt2 : ¬ ((begS 0 p)[j + 1] : Int) ≤ ((begS 0 p)[j] : Int) := by omega
        simp [Tg.slots, wipeE, a1, a2, lt2]
  rw [e2]
  simp
theorem c_ends_of (k : Nat) (p : List Seg) (h : okS p) (ht : tot p ≤ 1000) : call T (k+2) f_ends_of [.tuple (dPs 0 p), .int (tot p)] = .ok (.list ((endS 0 p).map dN)) := by
  rw [call_eq T_ends_of rfl]
  have hl := segs_le p h
  simp [d_ends_of, b_ends_of]
  refine endR_for (fun i env => ∃ pc, env = [some (.val (.tuple (dPs 0 p))), some (.val (.int (tot p))), some (.own (((begS 0 p).take i).map dN)), pc, none]) ⟨none, rfl⟩ ?_ ?_
  · rintro i d env hd ⟨pc, rfl⟩
    obtain ⟨bg, o, rfl, hb⟩ := dPs_get p 0 i d hd
    have hbl := begS_lt p 0 i bg h hb
    have hbl2 : (bg : Int) ≤ (tot p : Int) - 1 := by omega
    have hi : i < p.length := by have := (List.getElem?_eq_some_iff.mp hb).1; rwa [begS_len] at this
    have hlen : min i (begS 0 p).length < 100000 := by rw [begS_len]; omega
    simp [dP, c_is_within, isWithin, hbl2, hlen]
    rw [List.take_add_one, List.getElem?_map, hb]
    rfl
  · rintro env' ⟨pc, rfl⟩
    rw [dPs_len, List.take_of_length_le (by rw [begS_len]; exact Nat.le_refl _)]
    have e1 := ends_e1 p h
    have hb1 : (begS 0 p).length ≤ 100000 := by rw [begS_len]; omega
    have r1' : rng2D (.int 1) (.int ((begS 0 p).length : Nat)) = .ok ((List.range ((begS 0 p).length - 1)).map fun (k : Nat) => .int ((1 : Int) + (k : Int))) := rng2_ok 1 (begS 0 p).length (by omega) hb1
    simp [cutL_to1, cutL_one, e1, r1']
    rw [ends_e2 _ p h (by omega)]
    simp [cutL_from1, cutL_one]
    cases p with
    | nil => simp [begS, endS]
    | cons x r =>
      obtain ⟨n, o⟩ := x
      have be := beg_end ((n, o) :: r) 0 (by simp)
      rw [Nat.zero_add] at be
      have hne : ¬ (begS 0 ((n, o) :: r)) = [] := by simp [begS]
      have hlen : (begS 0 ((n, o) :: r)).length - 1 + 1 ≤ 100000 := by omega
      simp only [if_neg hne, List.length_singleton, if_pos hlen, kRet_ok, endR_rt]
      rw [← be]
      simp [dN]
theorem zip_ok (p : List Seg) : zipD (.tuple (dPs 0 p)) (.list ((endS 0 p).map dN)) = .ok ((trip 0 p).map fun t => .tuple [dP t.1 t.2.1, .int (t.2.2 : Nat)]) := by
  have := zip_trip p 0
  simp only [zipD, seqNT, seqNL]
  exact congrArg R.ok this
theorem trip_ok : ∀ (p : List Seg) (b : Nat), okS p → ∀ t ∈ trip b p, t.1 < t.2.2 ∧ okO (t.2.2 - t.1) t.2.1 ∧ t.2.2 ≤ b + tot p
  | [], b, _, t, ht => by simp [trip] at ht
  | (n, o) :: r, b, h, t, ht => by
    rw [okS_cons] at h
    rcases List.mem_cons.mp ht with q | q
    · subst q
      have e : b + n - b = n := by omega
      have := h.1.1
      simp only [e, tot] at *
      exact ⟨by omega, h.1.2, by omega⟩
    · have := trip_ok r (b + n) h.2 t q
      simp only [tot]
      exact ⟨this.1, this.2.1, by omega⟩
theorem c_is_map (k : Nat) (p : List Seg) (h : okS p) (ht : tot p ≤ 1000) : call T (k+3) f_is_map [dM p] = .ok (.bool true) := by
  rw [call_eq T_is_map rfl]
  have hl := segs_le p h
  have h1 : (tot p : Int) ≤ 1000 := by omega
  have e := compB_off (Φ := call T (k+2)) (x := .int 1) (t := .t2 (.t2 (.name 3) (.name 4)) (.name 2)) (c := .some (.not (.call f_is_origin (.cons (.var 4) (.cons (.bin .Sub (.var 2) (.var 3)) .nil)))))
    (env := [some (.val (dM p)), some (.val (.list ((endS 0 p).map dN))), none, none, none]) (trip 0 p) (fun t => .tuple [dP t.1 t.2.1, .int (t.2.2 : Nat)]) (fun _ => none)
    (by rw [trip_len]; simp; omega) fun t htp => by
      obtain ⟨t1, t2, _⟩ := trip_ok p 0 h t htp
      have e1 : ((t.2.2 : Nat) : Int) - ((t.1 : Nat) : Int) = ((t.2.2 - t.1 : Nat) : Int) := by omega
      simp [Tg.slots, wipeE, dP, e1, c_is_origin _ _ _ t2]
  have e0 : (trip 0 p).filterMap (fun _ => (none : Option D)) = [] := by simp
  rw [e0] at e
  have hlen : (endS 0 p).length ≤ 100000 := by rw [endS_len]; omega
  simp [d_is_map, b_is_map, dM, c_is_within, isWithin, h1, c_ends_of _ p h ht, zip_ok]
  simp only [dM] at e
  rw [e]
  simp
theorem c_checked (k : Nat) (p : List Seg) (h : okS p) (ht : tot p ≤ 1000) : call T (k+4) f_checked [dM p] = .ok (dM p) := by
  rw [call_eq T_checked rfl]
  simp [d_checked, b_checked, c_is_map _ p h ht]
theorem c_led (k : Nat) (o : Og) (n : Nat) : call T (k+1) f_led [dO o, .int n] = .ok (dL (ledO o n)) := by
  rw [call_eq T_led rfl]
  cases o <;> simp [d_led, b_led, dO, dL, ledO]
def ldT (t : Nat × Og × Nat) : List Ld := (List.range (t.2.2 - t.1)).map (ledO t.2.1)
theorem ldT_all : ∀ (p : List Seg) (b : Nat), (trip b p).flatMap ldT = ldsS p
  | [], _ => rfl
  | (n, o) :: r, b => by
    have e : b + n - b = n := by omega
    simp only [trip, List.flatMap_cons, ldT_all r, ldsS, ldT, e]
theorem rng_nat (n : Nat) (h : n ≤ 100000) : rngD (.int n) = .ok ((List.range n).map fun (k : Nat) => .int (k : Int)) := by
  have := rng_ok (n : Int) (by omega) (by omega)
  rwa [Int.toNat_natCast] at this
theorem flat_take {α β : Type} (f : α → List β) (xs : List α) (i : Nat) (x : α) (h : xs[i]? = some x) : (xs.take (i + 1)).flatMap f = (xs.take i).flatMap f ++ f x := by
  rw [List.take_add_one, h, Option.toList_some, List.flatMap_append]
  simp
theorem flat_take_le {α β : Type} (f : α → List β) : ∀ (xs : List α) (i : Nat), ((xs.take i).flatMap f).length ≤ (xs.flatMap f).length
  | [], i => by simp
  | x :: xs, 0 => by simp
  | x :: xs, i + 1 => by
    have := flat_take_le f xs i
    simp only [List.take_succ_cons, List.flatMap_cons, List.length_append]
    omega
theorem c_leads_of (k : Nat) (p : List Seg) (h : okS p) (ht : tot p ≤ 1000) : call T (k+3) f_leads_of [dM p] = .ok (dLs (ldsS p)) := by
  rw [call_eq T_leads_of rfl]
  have hl := segs_le p h
  simp [d_leads_of, b_leads_of, dM, c_ends_of _ p h ht, zip_ok]
  refine endR_for (fun i env => ∃ x y z, env = [some (.val (.tuple [.int (tot p), .tuple (dPs 0 p)])), some (.own ((((trip 0 p).take i).flatMap ldT).map dL)), x, y, z, none]) ⟨none, none, none, rfl⟩ ?_ ?_
  · rintro i d env hd ⟨x, y, z, rfl⟩
    rw [List.getElem?_map] at hd
    cases hi : (trip 0 p)[i]? with
    | none => rw [hi] at hd; cases hd
    | some t =>
      rw [hi] at hd
      cases hd
      obtain ⟨t1, t2, t3⟩ := trip_ok p 0 h t (List.mem_of_getElem? hi)
      have e1 : ((t.2.2 : Nat) : Int) - ((t.1 : Nat) : Int) = ((t.2.2 - t.1 : Nat) : Int) := by omega
      have e := compB_of (Φ := call T (k+2)) (x := .call f_led (.cons (.var 3) (.cons (.var 5) .nil))) (t := .name 5) (c := .none)
        (env := [some (.val (.tuple [.int (tot p), .tuple (dPs 0 p)])), some (.own ((((trip 0 p).take i).flatMap ldT).map dL)), some (.val (.int t.1)), some (.val (dO t.2.1)), some (.val (.int t.2.2)), none])
        (List.range (t.2.2 - t.1)) (fun (k : Nat) => PyData.int (k : Int)) (fun n => dL (ledO t.2.1 n)) (by simp; omega) fun j hj => by
          simp [Tg.slots, wipeE, c_led]
      have hb : ((((trip 0 p).take i).flatMap ldT).length + (t.2.2 - t.1)) ≤ 100000 := by
        have := flat_take_le ldT (trip 0 p) i
        rw [ldT_all, ldsS_len] at this
        omega
      simp [dP, e1, rng_nat (t.2.2 - t.1) (by omega), e]
      rw [if_pos (by simpa using hb)]
      refine ⟨_, rfl, some (.val (.int t.1)), some (.val (dO t.2.1)), some (.val (.int t.2.2)), ?_⟩
      rw [flat_take ldT _ _ _ hi]
      simp [ldT]
  · rintro env' ⟨x, y, z, rfl⟩
    rw [List.length_map, List.take_length, ldT_all]
    simp [dLs]
theorem c_leads (k : Nat) (p : List Seg) (h : okS p) (ht : tot p ≤ 1000) : call T (k+5) f_leads [dM p] = .ok (dLs (ldsS p)) := by
  rw [call_eq T_leads rfl]
  simp [d_leads, b_leads, c_checked _ p h ht, c_leads_of _ p h ht]
end M

set_option linter.all false
set_option maxRecDepth 100000
set_option maxHeartbeats 1000000
namespace M
open PySem
/-! ### runs -/
def runN : List Ld → Nat
  | [] => 0
  | none :: r => runN r + 1
  | some _ :: _ => 0
def runG (s a st : Int) : List Ld → Nat → Nat
  | [], _ => 0
  | y :: r, m => if y = some (s, a + st * m) then runG s a st r (m + 1) + 1 else 0
def frun : Ld → List Ld → Seg
  | none, xs => (1 + runN xs, .non)
  | some (s, a), xs => if runG s a 0 xs 1 = 0 then (1 + runG s a 1 xs 1, .al s a) else (1 + runG s a 0 xs 1, .pt s a)
theorem fold_non : ∀ (xs : List Ld) (m : Nat) (R : List Seg), xs.foldl addR ((m, .non) :: R) = (xs.drop (runN xs)).foldl addR [] ++ ((m + runN xs, .non) :: R)
  | [], m, R => rfl
  | none :: r, m, R => by
    rw [List.foldl_cons]
    show r.foldl addR ((m + 1, .non) :: R) = _
    rw [fold_non r (m + 1) R]
    show _ = ((none :: r).drop (runN r + 1)).foldl addR [] ++ ((m + (runN r + 1), .non) :: R)
    rw [List.drop_succ_cons]
    have : m + 1 + runN r = m + (runN r + 1) := by omega
    rw [this]
  | some p :: r, m, R => fold_sep _ _ _ fun y hy => by
    have : y = some p := by simpa using hy.symm
    rw [this]; rfl
theorem fold_pt (s a : Int) : ∀ (xs : List Ld) (m : Nat) (R : List Seg), xs.foldl addR ((m, .pt s a) :: R) = (xs.drop (runG s a 0 xs m)).foldl addR [] ++ ((m + runG s a 0 xs m, .pt s a) :: R)
  | [], m, R => rfl
  | y :: r, m, R => by
    by_cases h : y = some (s, a)
    · have e : runG s a 0 (y :: r) m = runG s a 0 r (m + 1) + 1 := by simp [runG, h]
      rw [e, List.foldl_cons]
      have e2 : addR ((m, .pt s a) :: R) y = (m + 1, .pt s a) :: R := by simp [addR, goesS, h]
      rw [e2, fold_pt s a r (m + 1) R, List.drop_succ_cons]
      have : m + 1 + runG s a 0 r (m + 1) = m + (runG s a 0 r (m + 1) + 1) := by omega
      rw [this]
    · have e : runG s a 0 (y :: r) m = 0 := by simp [runG, h]
      rw [e]
      refine fold_sep _ _ _ fun z hz => ?_
      have : z = y := by simpa using hz.symm
      subst this
      cases z with
      | none => rfl
      | some p =>
        obtain ⟨s', a'⟩ := p
        simp only [goesS]
        rw [if_neg fun q => h (by rw [q.1, q.2])]
theorem fold_al (s a : Int) : ∀ (xs : List Ld) (m : Nat) (R : List Seg), 2 ≤ m → xs.foldl addR ((m, .al s a) :: R) = (xs.drop (runG s a 1 xs m)).foldl addR [] ++ ((m + runG s a 1 xs m, .al s a) :: R)
  | [], m, R, _ => rfl
  | y :: r, m, R, hm => by
    have hm1 : m ≠ 1 := by omega
    by_cases h : y = some (s, a + m)
    · have e : runG s a 1 (y :: r) m = runG s a 1 r (m + 1) + 1 := by simp [runG, h]
      rw [e, List.foldl_cons]
      have e2 : addR ((m, .al s a) :: R) y = (m + 1, .al s a) :: R := by simp [addR, goesS, h, hm1]
      rw [e2, fold_al s a r (m + 1) R (by omega), List.drop_succ_cons]
      have : m + 1 + runG s a 1 r (m + 1) = m + (runG s a 1 r (m + 1) + 1) := by omega
      rw [this]
    · have e : runG s a 1 (y :: r) m = 0 := by simp [runG, h]
      rw [e]
      refine fold_sep _ _ _ fun z hz => ?_
      have : z = y := by simpa using hz.symm
      subst this
      cases z with
      | none => rfl
      | some p =>
        obtain ⟨s', a'⟩ := p
        simp only [goesS]
        rw [if_neg fun q => hm1 q.1, if_neg fun q => h (by rw [q.1, q.2])]
theorem leastR_run (x : Ld) (xs : List Ld) : leastR (x :: xs) = leastR (xs.drop ((frun x xs).1 - 1)) ++ [frun x xs] := by
  show xs.foldl addR [(1, oneO x)] = _
  cases x with
  | none =>
    have := fold_non xs 1 []
    have e : (1 + runN xs) - 1 = runN xs := by omega
    simp only [frun, e]
    exact this
  | some p =>
    obtain ⟨s, a⟩ := p
    show xs.foldl addR [(1, .al s a)] = _
    cases xs with
    | nil => rfl
    | cons y r =>
      by_cases h1 : y = some (s, a)
      · have e : runG s a 0 (y :: r) 1 = runG s a 0 r 2 + 1 := by simp [runG, h1]
        have e1 : frun (some (s, a)) (y :: r) = (1 + (runG s a 0 r 2 + 1), .pt s a) := by simp only [frun, e]; rw [if_neg (by omega)]
        rw [e1, List.foldl_cons]
        have e2 : addR [(1, .al s a)] y = [(2, .pt s a)] := by simp [addR, goesS, h1]
        rw [e2, fold_pt s a r 2 []]
        have e3 : 1 + (runG s a 0 r 2 + 1) - 1 = runG s a 0 r 2 + 1 := by omega
        have e4 : 2 + runG s a 0 r 2 = 1 + (runG s a 0 r 2 + 1) := by omega
        simp only [e3, e4, List.drop_succ_cons]
        rfl
      · have e : runG s a 0 (y :: r) 1 = 0 := by simp [runG, h1]
        by_cases h2 : y = some (s, a + 1)
        · have e0 : runG s a 1 (y :: r) 1 = runG s a 1 r 2 + 1 := by simp [runG, h2]
          have e1 : frun (some (s, a)) (y :: r) = (1 + (runG s a 1 r 2 + 1), .al s a) := by simp only [frun, e, e0]; rfl
          rw [e1, List.foldl_cons]
          have hne : ¬ (a + 1 = a) := by omega
          have e2 : addR [(1, .al s a)] y = [(2, .al s a)] := by simp [addR, goesS, h2, hne]
          rw [e2, fold_al s a r 2 [] (Nat.le_refl _)]
          have e3 : 1 + (runG s a 1 r 2 + 1) - 1 = runG s a 1 r 2 + 1 := by omega
          have e4 : 2 + runG s a 1 r 2 = 1 + (runG s a 1 r 2 + 1) := by omega
          simp only [e3, e4, List.drop_succ_cons]
          rfl
        · have e0 : runG s a 1 (y :: r) 1 = 0 := by simp [runG, h2]
          have e1 : frun (some (s, a)) (y :: r) = (1, .al s a) := by simp only [frun, e, e0]; rfl
          rw [e1]
          refine fold_sep _ _ _ fun z hz => ?_
          have : z = y := by simpa using hz.symm
          subst this
          cases z with
          | none => rfl
          | some p =>
            obtain ⟨s', a'⟩ := p
            simp only [goesS]
            rw [if_neg fun q => h1 (by rw [q.2.1, q.2.2]), if_neg fun q => h2 (by rw [q.1, q.2]; rfl)]
theorem leastS_run (x : Ld) (xs : List Ld) : leastS (x :: xs) = frun x xs :: leastS (xs.drop ((frun x xs).1 - 1)) := by
  unfold leastS
  rw [leastR_run, List.reverse_append]
  rfl
theorem runN_le : ∀ xs : List Ld, runN xs ≤ xs.length
  | [] => Nat.le_refl _
  | none :: r => by have := runN_le r; simp only [runN, List.length_cons]; omega
  | some _ :: _ => Nat.zero_le _
theorem runG_le (s a st : Int) : ∀ (xs : List Ld) (m : Nat), runG s a st xs m ≤ xs.length
  | [], _ => Nat.le_refl _
  | y :: r, m => by
    have := runG_le s a st r (m + 1)
    simp only [runG, List.length_cons]
    split <;> omega
theorem frun_pos (x : Ld) (xs : List Ld) : 1 ≤ (frun x xs).1 := by
  cases x with
  | none => simp [frun]
  | some p => obtain ⟨s, a⟩ := p; simp only [frun]; split <;> simp
theorem frun_le (x : Ld) (xs : List Ld) : (frun x xs).1 ≤ xs.length + 1 := by
  cases x with
  | none => have := runN_le xs; simp only [frun]; omega
  | some p =>
    obtain ⟨s, a⟩ := p
    have := runG_le s a 0 xs 1
    have := runG_le s a 1 xs 1
    simp only [frun]
    split <;> (simp only; omega)
/-! ### the program's runs -/
theorem pl_dL (l : Ld) : pl (dL l) = true := by
  cases l with
  | none => rfl
  | some p => obtain ⟨s, a⟩ := p; rfl
theorem dep_dL (l : Ld) : (dL l).depth ≤ 2 := by
  cases l with
  | none => simp [dL, PyData.depth]
  | some p => obtain ⟨s, a⟩ := p; simp [dL, PyData.depth, PyData.depthAll]
theorem pd_dL (l : Ld) : pd (dL l) := ⟨pl_dL l, by have := dep_dL l; omega⟩
theorem dL_inj {a b : Ld} (h : dL a = dL b) : a = b := by
  cases a with
  | none => cases b with
    | none => rfl
    | some q => obtain ⟨s, a⟩ := q; cases h
  | some p =>
    obtain ⟨s, a⟩ := p
    cases b with
    | none => cases h
    | some q => obtain ⟨s', a'⟩ := q; simp [dL] at h; rw [h.1, h.2]
theorem eqD_dL (a b : Ld) : eqD (dL a) (dL b) = .ok (decide (a = b)) := by
  by_cases h : a = b
  · subst h; rw [eqD_self (pd_dL a)]; simp
  · rw [eqD_ne (pd_dL a) (pd_dL b) fun q => h (dL_inj q)]; simp [h]
theorem at_dL {xs : List Ld} {i : Nat} {x : Ld} (h : xs[i]? = some x) : L2.atI (xs.map dL) (i : Int) = some (dL x) := atI_get (by omega) (by simp [h])
theorem drop_get {α : Type} {xs : List α} {i : Nat} {x : α} (h : xs[i]? = some x) : xs.drop i = x :: xs.drop (i + 1) := by
  obtain ⟨h1, h2⟩ := List.getElem?_eq_some_iff.mp h
  rw [List.drop_eq_getElem_cons h1, h2]
theorem c_goes_on (k : Nat) (xs : List Ld) (hx : xs.length ≤ 1000) (i : Nat) (s a st : Int) (hi : xs[i]? = some (some (s, a))) (hst : st = 0 ∨ st = 1) :
    call T (k+1) f_goes_on [dLs xs, .int i, .int st] = .ok (.int ((1 + runG s a st (xs.drop (i + 1)) 1 : Nat) : Int)) := by
  rw [call_eq T_goes_on rfl]
  have hil := (List.getElem?_eq_some_iff.mp hi).1
  have hat : L2.atI (xs.map dL) (i : Int) = some (.tuple [.int s, .int a]) := at_dL hi
  have hsm : smallI st = true := by rcases hst with rfl | rfl <;> decide
  simp [d_goes_on, b_goes_on, dLs]
  refine endR_whl (fun m env => ∃ n : Nat, m = xs.length - (i + n) ∧ i + n ≤ xs.length ∧ n + runG s a st (xs.drop (i + n)) n = 1 + runG s a st (xs.drop (i + 1)) 1 ∧ env = [some (.val (.list (xs.map dL))), some (.val (.int i)), some (.val (.int st)), some (.val (.int n))])
    (fun env => env = [some (.val (.list (xs.map dL))), some (.val (.int i)), some (.val (.int st)), some (.val (.int ((1 + runG s a st (xs.drop (i + 1)) 1 : Nat) : Int)))]) (xs.length - (i + 1)) (by omega) ⟨1, rfl, by omega, rfl, rfl⟩ ?_ ?_
  · rintro m env ⟨n, rfl, hn, hr, rfl⟩
    by_cases hlt : i + n < xs.length
    · have hl2 : (i : Int) + (n : Int) < (xs.length : Int) := by omega
      obtain ⟨y, hy⟩ : ∃ y, xs[i + n]? = some y := ⟨_, List.getElem?_eq_getElem hlt⟩
      have hat2 : L2.atI (xs.map dL) ((i : Int) + (n : Int)) = some (dL y) := at_dL (i := i + n) hy
      have heq : eqD (dL y) (.tuple [.int s, .int (a + st * n)]) = .ok (decide (y = some (s, a + st * n))) := eqD_dL y (some (s, a + st * n))
      rw [drop_get hy] at hr
      by_cases hyy : y = some (s, a + st * n)
      · right
        refine ⟨?_, [some (.val (.list (xs.map dL))), some (.val (.int i)), some (.val (.int st)), some (.val (.int ((n + 1 : Nat) : Int)))], xs.length - (i + (n + 1)), ?_, by omega, n + 1, rfl, by omega, ?_, rfl⟩
        · simp [hl2, hat, hat2, hsm, heq]
          exact hyy
        · simp
        · simp only [runG, hyy, if_true] at hr
          rw [show i + (n + 1) = i + n + 1 from rfl]
          omega
      · left
        refine ⟨?_, ?_⟩
        · simp [hl2, hat, hat2, hsm, heq]
          exact hyy
        · simp only [runG, hyy, if_false] at hr
          rw [← hr]; rfl
    · left
      have hl2 : ¬ (i : Int) + (n : Int) < (xs.length : Int) := by omega
      have e : i + n = xs.length := by omega
      rw [e, List.drop_length] at hr
      refine ⟨by simp [hl2], ?_⟩
      simp only [runG] at hr
      rw [← hr]; rfl
  · rintro env' rfl
    simp
theorem whl_none (Φ : Nat → List D → R D) (xs : List Ld) (hx : xs.length ≤ 1000) (i : Nat) (hi : i < xs.length) (y : Option W) :
    whlB Φ (.and (.cmp .Lt (.bin .Add (.var 2) (.var 3)) (.bi .len (.cons (.var 0) .nil))) (.one (.isn (.idx (.var 0) (.bin .Add (.var 2) (.var 3))) false))) (.aug 3 .Add (.int 1) .nil) WF
      [some (.val (dLs xs)), y, some (.val (.int i)), some (.val (.int 1))] = .nx [some (.val (dLs xs)), y, some (.val (.int i)), some (.val (.int ((1 + runN (xs.drop (i + 1)) : Nat) : Int)))] := by
  obtain ⟨env', h1, h2⟩ := whlB_ok (Φ := Φ) (c := .and (.cmp .Lt (.bin .Add (.var 2) (.var 3)) (.bi .len (.cons (.var 0) .nil))) (.one (.isn (.idx (.var 0) (.bin .Add (.var 2) (.var 3))) false))) (b := .aug 3 .Add (.int 1) .nil)
    (fun m env => ∃ n : Nat, m = xs.length - (i + n) ∧ i + n ≤ xs.length ∧ n + runN (xs.drop (i + n)) = 1 + runN (xs.drop (i + 1)) ∧ env = [some (.val (.list (xs.map dL))), y, some (.val (.int i)), some (.val (.int n))])
    (fun env => env = [some (.val (.list (xs.map dL))), y, some (.val (.int i)), some (.val (.int ((1 + runN (xs.drop (i + 1)) : Nat) : Int)))]) (by
    rintro m env ⟨n, rfl, hn, hr, rfl⟩
    by_cases hlt : i + n < xs.length
    · have hl2 : (i : Int) + (n : Int) < (xs.length : Int) := by omega
      obtain ⟨y, hy⟩ : ∃ y, xs[i + n]? = some y := ⟨_, List.getElem?_eq_getElem hlt⟩
      have hat2 : L2.atI (xs.map dL) ((i : Int) + (n : Int)) = some (dL y) := at_dL (i := i + n) hy
      rw [drop_get hy] at hr
      cases y with
      | none =>
        right
        refine ⟨by simp [hl2, hat2], [some (.val (.list (xs.map dL))), y, some (.val (.int i)), some (.val (.int ((n + 1 : Nat) : Int)))], xs.length - (i + (n + 1)), ?_, by omega, n + 1, rfl, by omega, ?_, rfl⟩
        · simp
        · simp only [runN] at hr
          rw [show i + (n + 1) = i + n + 1 from rfl]
          omega
      | some p =>
        obtain ⟨s, a⟩ := p
        left
        refine ⟨by simp [hl2, hat2], ?_⟩
        simp only [runN] at hr
        rw [← hr]; rfl
    · left
      have hl2 : ¬ (i : Int) + (n : Int) < (xs.length : Int) := by omega
      have e : i + n = xs.length := by omega
      rw [e, List.drop_length] at hr
      refine ⟨by simp [hl2], ?_⟩
      simp only [runN] at hr
      rw [← hr]; rfl) WF (xs.length - (i + 1)) [some (.val (dLs xs)), y, some (.val (.int i)), some (.val (.int 1))] ⟨1, rfl, by omega, rfl, rfl⟩ (by show _ < 100000; omega)
  rw [h1, h2]
  rfl
theorem okRun_dPs (q : List Seg) (n : Nat) (o : Og) (i : Nat) (h : tot q = i) : dPs 0 (q ++ [(n, o)]) = dPs 0 q ++ [.tuple [.int i, dO o]] := by
  rw [dPs_app, h]
  simp [dPs, dP]
theorem c_map_of (k : Nat) (xs : List Ld) (hx : xs.length ≤ 1000) : call T (k+2) f_map_of [dLs xs] = .ok (dM (leastS xs)) := by
  rw [call_eq T_map_of rfl]
  simp [d_map_of, b_map_of]
  refine endR_whl (fun m env => ∃ (i : Nat) (q : List Seg) (z : Option W), m = xs.length - i ∧ i ≤ xs.length ∧ tot q = i ∧ q.length ≤ i ∧ q ++ leastS (xs.drop i) = leastS xs ∧ env = [some (.val (dLs xs)), some (.own (dPs 0 q)), some (.val (.int i)), z])
    (fun env => ∃ z w, env = [some (.val (dLs xs)), some (.own (dPs 0 (leastS xs))), z, w]) xs.length (by omega) ⟨0, [], none, rfl, Nat.zero_le _, rfl, Nat.le_refl _, rfl, rfl⟩ ?_ ?_
  · rintro m env ⟨i, q, z, rfl, hi, hq, hql, hr, rfl⟩
    by_cases hlt : i < xs.length
    · right
      have hl2 : (i : Int) < (xs.length : Int) := by omega
      have hqlen : (dPs 0 q).length < 100000 := by rw [dPs_len]; omega
      refine ⟨by simp [dLs, hl2], ?_⟩
      obtain ⟨y, hy⟩ : ∃ y, xs[i]? = some y := ⟨_, List.getElem?_eq_getElem hlt⟩
      have hat := at_dL hy
      rw [drop_get hy, leastS_run] at hr
      have hp := frun_pos y (xs.drop (i + 1))
      have hle := frun_le y (xs.drop (i + 1))
      rw [List.length_drop] at hle
      have hd : (xs.drop (i + 1)).drop ((frun y (xs.drop (i + 1))).1 - 1) = xs.drop (i + (frun y (xs.drop (i + 1))).1) := by
        rw [List.drop_drop]; congr 1; omega
      rw [hd] at hr
      obtain ⟨n, o⟩ : Seg := frun y (xs.drop (i + 1))
      refine ⟨[some (.val (dLs xs)), some (.own (dPs 0 (q ++ [frun y (xs.drop (i + 1))]))), some (.val (.int ((i + (frun y (xs.drop (i + 1))).1 : Nat) : Int))), some (.val (.int (((frun y (xs.drop (i + 1))).1 : Nat) : Int)))], xs.length - (i + (frun y (xs.drop (i + 1))).1), ?_, by omega,
        i + (frun y (xs.drop (i + 1))).1, q ++ [frun y (xs.drop (i + 1))], _, rfl, by omega, by rw [tot_app, hq]; simp [tot], by rw [List.length_append]; simp; omega, by rw [List.append_assoc]; exact hr, rfl⟩
      cases y with
      | none =>
        have e : frun none (xs.drop (i + 1)) = (1 + runN (xs.drop (i + 1)), .non) := rfl
        have hat0 : idxD (dLs xs) (.int i) = .ok .none := by simp [dLs, hat]
        simp [hat0, whl_none _ xs hx i hlt, hqlen, e, okRun_dPs q _ _ i hq, dO]
      | some p =>
        obtain ⟨s, a⟩ := p
        have hat0 : idxD (dLs xs) (.int i) = .ok (.tuple [.int s, .int a]) := by simp [dLs, hat]
        have g0 := c_goes_on k xs hx i s a 0 hy (.inl rfl)
        have g1 := c_goes_on k xs hx i s a 1 hy (.inr rfl)
        by_cases h0 : runG s a 0 (xs.drop (i + 1)) 1 = 0
        · have e : frun (some (s, a)) (xs.drop (i + 1)) = (1 + runG s a 1 (xs.drop (i + 1)) 1, .al s a) := by simp only [frun, if_pos h0]
          rw [h0] at g0
          simp [hat0, g0, g1, hqlen, e, okRun_dPs q _ _ i hq, dO]
        · have e : frun (some (s, a)) (xs.drop (i + 1)) = (1 + runG s a 0 (xs.drop (i + 1)) 1, .pt s a) := by simp only [frun, if_neg h0]
          have h1 : ¬ (1 + (runG s a 0 (xs.drop (i + 1)) 1 : Int) = 1) := by omega
          simp [hat0, g0, h1, hqlen, e, okRun_dPs q _ _ i hq, dO]
    · left
      have hl2 : ¬ (i : Int) < (xs.length : Int) := by omega
      have e : i = xs.length := by omega
      rw [List.drop_of_length_le (by omega)] at hr
      have e2 : q = leastS xs := by rw [← hr]; simp [leastS, leastR]
      exact ⟨by simp [dLs, hl2], _, _, by rw [← e2]⟩
  · rintro env' ⟨z, w, rfl⟩
    simp [dLs, dM, tot_least]
theorem c_least (k : Nat) (p : List Seg) (h : okS p) (ht : tot p ≤ 1000) : call T (k+6) f_least [dM p] = .ok (dM (leastS (ldsS p))) := by
  rw [call_eq T_least rfl]
  simp [d_least, b_least, c_leads _ p h ht, c_map_of _ (ldsS p) (by rw [ldsS_len]; exact ht)]
@[simp] theorem eqTT (s a s' a' : Int) : eqD (.tuple [.int s, .int a]) (.tuple [.int s', .int a']) = .ok (decide (s = s' ∧ a = a')) := by
  have := eqD_dL (some (s, a)) (some (s', a'))
  simpa using this
@[simp] theorem eqNT (s a : Int) : eqD .none (.tuple [.int s, .int a]) = .ok false := eqD_dL none (some (s, a))
@[simp] theorem eqTN (s a : Int) : eqD (.tuple [.int s, .int a]) .none = .ok false := eqD_dL (some (s, a)) none
@[simp] theorem eqNN : eqD .none .none = .ok true := eqD_dL none none
end M

set_option linter.all false
set_option maxRecDepth 100000
set_option maxHeartbeats 1000000
namespace M
open PySem
/-! ### the law's own least map -/
theorem c_law_goes_on (k : Nat) (xs : List Ld) (b n i : Nat) (o : Og) (y : Ld) (hi : xs[i]? = some y) (hb : xs[b]? = some (ledO o 0)) (hn : b + n = i) :
    call T (k+1) f_law_goes_on [dP b o, dLs xs, .int i] = .ok (.bool (goesS (n, o) y).isSome) := by
  rw [call_eq T_law_goes_on rfl]
  have a1 := at_dL hi
  have a2 := at_dL hb
  have e1 : (i : Int) - (b : Int) = (n : Int) := by omega
  cases o with
  | non =>
    cases y with
    | none => simp at a1; simp [d_law_goes_on, b_law_goes_on, dP, dO, dLs, a1, goesS]
    | some p =>
      obtain ⟨s, a⟩ := p
      simp at a1
      simp [d_law_goes_on, b_law_goes_on, dP, dO, dLs, a1, goesS]
  | al s a =>
    simp [ledO] at a2
    cases y with
    | none => simp at a1; simp [d_law_goes_on, b_law_goes_on, dP, dO, dLs, a1, goesS]
    | some p =>
      obtain ⟨s', a'⟩ := p
      simp at a1
      have e2 : a + (i : Int) - (b : Int) = a + (n : Int) := by omega
      by_cases h1 : n = 1
      · subst h1
        by_cases h2 : s' = s ∧ a' = a
        · simp [d_law_goes_on, b_law_goes_on, dP, dO, dLs, a1, a2, goesS, e1, h2]
        · by_cases h4 : s' = s ∧ a' = a + 1
          · have h5 : ¬ (a + 1 = a) := by omega
            simp [d_law_goes_on, b_law_goes_on, dP, dO, dLs, a1, a2, goesS, e1, e2, h4, h5]
          · simp [d_law_goes_on, b_law_goes_on, dP, dO, dLs, a1, a2, goesS, e1, e2, h2, h4]
      · have h1i : ¬ ((n : Int) = 1) := by omega
        by_cases h4 : s' = s ∧ a' = a + n
        · simp [d_law_goes_on, b_law_goes_on, dP, dO, dLs, a1, a2, goesS, e1, e2, h1, h1i, h4]
        · simp [d_law_goes_on, b_law_goes_on, dP, dO, dLs, a1, a2, goesS, e1, e2, h1, h1i, h4]
  | pt s a =>
    simp [ledO] at a2
    cases y with
    | none => simp at a1; simp [d_law_goes_on, b_law_goes_on, dP, dO, dLs, a1, goesS]
    | some p =>
      obtain ⟨s', a'⟩ := p
      simp at a1
      by_cases h2 : s' = s ∧ a' = a
      · by_cases h1 : n = 1
        · simp [d_law_goes_on, b_law_goes_on, dP, dO, dLs, a1, a2, goesS, e1, h1, h2]
        · have h1i : ¬ ((n : Int) = 1) := by omega
          simp [d_law_goes_on, b_law_goes_on, dP, dO, dLs, a1, a2, goesS, e1, h1i, h2]
      · by_cases h1 : n = 1
        · simp [d_law_goes_on, b_law_goes_on, dP, dO, dLs, a1, a2, goesS, e1, h1, h2]
        · have h1i : ¬ ((n : Int) = 1) := by omega
          simp [d_law_goes_on, b_law_goes_on, dP, dO, dLs, a1, a2, goesS, e1, h1i, h2]
theorem atI_last {α : Type} (xs : List α) (x : α) : L2.atI (xs ++ [x]) (-1) = some x := by
  unfold L2.atI L2.ixN
  have h : (-((xs ++ [x]).length : Int)) ≤ -1 := by simp; omega
  have e : (-1 + ((xs ++ [x]).length : Int)).toNat = xs.length := by simp; omega
  rw [if_neg (by omega), if_pos h, e, Option.bind_some]
  simp
theorem ixN_last {α : Type} (xs : List α) (x : α) : L2.ixN (xs ++ [x]).length (-1) = some xs.length := by
  unfold L2.ixN
  have h : (-((xs ++ [x]).length : Int)) ≤ -1 := by simp; omega
  have e : (-1 + ((xs ++ [x]).length : Int)).toNat = xs.length := by simp; omega
  rw [if_neg (by omega), if_pos h, e]
theorem set_last {α : Type} (xs : List α) (x y : α) : (xs ++ [x]).set xs.length y = xs ++ [y] := by simp
/-- the last stretch of a least map -/
theorem least_last (ys : List Ld) (h : ys ≠ []) : ∃ (q : List Seg) (n : Nat) (o : Og), leastR ys = (n, o) :: q.reverse ∧ leastS ys = q ++ [(n, o)] ∧ tot q + n = ys.length ∧ 1 ≤ n ∧ ys[tot q]? = some (ledO o 0) := by
  cases hr : leastR ys with
  | nil =>
    have := (leastR_ok ys).2
    rw [hr] at this
    exact absurd this.symm h
  | cons x r =>
    obtain ⟨n, o⟩ := x
    have e : leastS ys = r.reverse ++ [(n, o)] := by unfold leastS; rw [hr]; simp
    have hn : 1 ≤ n := (leastR_ok ys).1 (n, o) (by rw [hr]; simp)
    have ht := tot_least ys
    rw [e, tot_app] at ht
    refine ⟨r.reverse, n, o, by simp, e, by simpa [tot] using ht, hn, ?_⟩
    have hl := ldsS_least ys
    rw [e, ldsS_app] at hl
    rw [← hl, List.getElem?_append_right (by rw [ldsS_len]; exact Nat.le_refl _), ldsS_len, Nat.sub_self]
    simp only [ldsS, List.append_nil, List.getElem?_map]
    rw [List.getElem?_range (by omega)]
    rfl
theorem goesS_og {n : Nat} {o : Og} {y : Ld} {z : Seg} (hg : goesS (n, o) y = some z) : z = (n + 1, z.2) ∧ ((z.2 = o ∧ ¬ (o ≠ .non ∧ n = 1 ∧ y = ledO o 0)) ∨ ((o ≠ .non ∧ n = 1 ∧ y = ledO o 0) ∧ ∃ s a, y = some (s, a) ∧ z.2 = .pt s a)) := by
  cases o with
  | non =>
    cases y with
    | none => cases hg; exact ⟨rfl, .inl ⟨rfl, fun h => h.1 rfl⟩⟩
    | some p => cases hg
  | al s a =>
    cases y with
    | none => cases hg
    | some p =>
      obtain ⟨s', a'⟩ := p
      simp only [goesS] at hg
      split at hg
      · rename_i q; obtain ⟨rfl, rfl, rfl⟩ := q; cases hg; exact ⟨rfl, .inr ⟨⟨by simp, rfl, by simp [ledO]⟩, _, _, rfl, rfl⟩⟩
      · rename_i q
        split at hg
        · rename_i q'; obtain ⟨rfl, rfl⟩ := q'; cases hg; refine ⟨rfl, .inl ⟨rfl, fun h => ?_⟩⟩
          have h3 := h.2.2
          simp [ledO] at h3
          omega
        · cases hg
  | pt s a =>
    cases y with
    | none => cases hg
    | some p =>
      obtain ⟨s', a'⟩ := p
      simp only [goesS] at hg
      split at hg
      · rename_i q; obtain ⟨rfl, rfl⟩ := q; cases hg
        by_cases h1 : n = 1
        · exact ⟨rfl, .inr ⟨⟨by simp, h1, by simp [ledO]⟩, _, _, rfl, rfl⟩⟩
        · exact ⟨rfl, .inl ⟨rfl, fun h => h1 h.2.1⟩⟩
      · cases hg
theorem enum_get {xs : List D} {i : Nat} {d : D} (h : (enumD xs)[i]? = some d) : ∃ x, xs[i]? = some x ∧ d = .tuple [.int (i : Int), x] := by
  unfold enumD at h
  rw [List.getElem?_map, List.getElem?_zipIdx] at h
  cases hx : xs[i]? with
  | none => rw [hx] at h; cases h
  | some c => rw [hx] at h; refine ⟨c, rfl, ?_⟩; simpa using h.symm
theorem dO_ne_none {o : Og} (h : o ≠ .non) : isNone (dO o) = false := by cases o <;> first | exact absurd rfl h | rfl
theorem c_law_least (k : Nat) (xs : List Ld) (hx : xs.length ≤ 1000) : call T (k+2) f_law_least [dLs xs] = .ok (dM (leastS xs)) := by
  rw [call_eq T_law_least rfl]
  simp [d_law_least, b_law_least, dLs]
  refine endR_for (fun i env => ∃ x y, env = [some (.val (dLs xs)), some (.own (dPs 0 (leastS (xs.take i)))), x, y]) ⟨none, none, rfl⟩ ?_ ?_
  · rintro i d env hd ⟨x, y, rfl⟩
    obtain ⟨c, hc, rfl⟩ := enum_get hd
    rw [List.getElem?_map] at hc
    cases hi : xs[i]? with
    | none => rw [hi] at hc; cases hc
    | some l =>
      rw [hi] at hc
      cases hc
      have hil := (List.getElem?_eq_some_iff.mp hi).1
      have ht : xs.take (i + 1) = xs.take i ++ [l] := by rw [List.take_add_one, hi]; rfl
      have ht2 : leastS (xs.take (i + 1)) = (addR (leastR (xs.take i)) l).reverse := by rw [ht]; unfold leastS; rw [leastR_snoc]
      rw [ht2]
      have hlen : (dPs 0 (leastS (xs.take i))).length < 100000 := by
        rw [dPs_len]
        have := (leastR_ok (xs.take i)).1
        have h2 : (leastS (xs.take i)).length ≤ tot (leastS (xs.take i)) := by
          suffices q : ∀ p : List Seg, (∀ x ∈ p, 1 ≤ x.1) → p.length ≤ tot p from q _ (fun x hx => this x (by simpa [leastS] using hx))
          intro p
          induction p with
          | nil => intro _; exact Nat.le_refl _
          | cons x r ih =>
            intro h
            have h1 := h x (by simp)
            have h2 := ih fun y hy => h y (by simp [hy])
            obtain ⟨n, o⟩ := x
            simp only [List.length_cons, tot] at *
            omega
        rw [tot_least, List.length_take] at h2
        omega
      by_cases h0 : i = 0
      · subst h0
        refine ⟨_, ?_, some (.val (.int 0)), some (.val (dL l)), rfl⟩
        have e : (addR (leastR (xs.take 0)) l).reverse = [(1, oneO l)] := rfl
        have e0 : leastS (xs.take 0) = [] := rfl
        rw [e, e0]
        cases l with
        | none => simp [dPs, dP, oneO, dO]
        | some p => obtain ⟨s, a⟩ := p; simp [dPs, dP, oneO, dO]
      · have hne : xs.take i ≠ [] := by
          intro e
          have := congrArg List.length e
          rw [List.length_take, List.length_nil] at this
          omega
        obtain ⟨q, n, o, r1, r2, r3, r4, r5⟩ := least_last _ hne
        rw [List.length_take, Nat.min_eq_left (by omega)] at r3
        have hb : xs[tot q]? = some (ledO o 0) := by
          rw [List.getElem?_take] at r5
          split at r5
          · exact r5
          · cases r5
        have eP : dPs 0 (leastS (xs.take i)) = dPs 0 q ++ [dP (tot q) o] := by rw [r2, dPs_app]; simp [dPs]
        have g := c_law_goes_on k xs (tot q) n i o l hi hb r3
        have hi0 : 0 < i := by omega
        rw [eP] at hlen ⊢
        have hl1 : L2.atI (dPs 0 q ++ [dP (tot q) o]) (-1) = some (dP (tot q) o) := atI_last _ _
        rw [r1]
        cases hg : goesS (n, o) l with
        | none =>
          rw [hg] at g
          have e1 : (addR ((n, o) :: q.reverse) l).reverse = q ++ [(n, o)] ++ [(1, oneO l)] := by simp [addR, hg]
          have e2 : dPs 0 (q ++ [(n, o)] ++ [(1, oneO l)]) = dPs 0 q ++ [dP (tot q) o] ++ [.tuple [.int i, dO (oneO l)]] := by
            rw [okRun_dPs (q ++ [(n, o)]) 1 (oneO l) i (by rw [tot_app]; simpa [tot] using r3), dPs_app]
            simp [dPs]
          rw [e1, e2]
          refine ⟨_, ?_, some (.val (.int i)), some (.val (dL l)), rfl⟩
          have hlen2 : (dPs 0 q).length + 1 < 100000 := by simpa using hlen
          cases l with
          | none => simp [hi0, hl1, g, hlen2, oneO, dO]
          | some p => obtain ⟨s, a⟩ := p; simp [hi0, hl1, g, hlen2, oneO, dO]
        | some z =>
          rw [hg] at g
          have e1 : (addR ((n, o) :: q.reverse) l).reverse = q ++ [z] := by simp [addR, hg]
          obtain ⟨z1, z2⟩ := goesS_og hg
          have e2 : dPs 0 (q ++ [z]) = dPs 0 q ++ [dP (tot q) z.2] := by rw [z1, dPs_app]; simp [dPs]
          rw [e1, e2]
          refine ⟨_, ?_, some (.val (.int i)), some (.val (dL l)), rfl⟩
          have a3 : idxD (dP (tot q) o) (.int 1) = .ok (dO o) := by simp [dP]
          have a4 : idxD (dP (tot q) o) (.int 0) = .ok (.int (tot q)) := by simp [dP]
          have a5 : (i : Int) - (tot q : Int) = (n : Int) := by omega
          rcases z2 with ⟨zo, hno⟩ | ⟨⟨c1, c2, c3⟩, s, a, hl, zo⟩
          · rw [zo]
            by_cases hnon : o = .non
            · subst hnon
              simp [hi0, hl1, g, a3, a4, dO]
            · by_cases hn1 : n = 1
              · have hl5 : ¬ l = ledO o 0 := fun e => hno ⟨hnon, hn1, e⟩
                have a6 : idxD (dLs xs) (.int ((i : Int) - 1)) = .ok (dL (ledO o 0)) := by
                  have : ((i : Int) - 1) = ((tot q : Nat) : Int) := by omega
                  rw [this]; simp [dLs, at_dL hb]
                have a7 := eqD_dL l (ledO o 0)
                simp only [hl5, decide_false] at a7
                subst hn1
                simp [hi0, hl1, g, a3, a4, dO_ne_none hnon, a5, a6, a7]
              · have hn1i : ¬ ((n : Int) = 1) := by omega
                simp [hi0, hl1, g, a3, a4, dO_ne_none hnon, a5, hn1i]
          · rw [zo]
            have a6 : idxD (dLs xs) (.int ((i : Int) - 1)) = .ok (dL l) := by
              have : ((i : Int) - 1) = ((tot q : Nat) : Int) := by omega
              rw [this, c3]; simp [dLs, at_dL hb]
            have a7 : eqD (dL l) (dL l) = .ok true := eqD_self (pd_dL l)
            have a8 : (i : Int) - 1 = ((tot q : Nat) : Int) := by omega
            have ix := ixN_last (dPs 0 q) (dP (tot q) o)
            have sl := set_last (dPs 0 q) (dP (tot q) o) (dP (tot q) (.pt s a))
            have a9 : addD (.tuple [.str "point"]) (dL l) = .ok (dO (.pt s a)) := by rw [hl]; simp [dO]
            simp only [dP] at sl
            subst c2
            simp [hi0, hl1, g, a3, a4, dO_ne_none c1, a5, a6, a7, a9]
            rw [List.length_append, List.length_singleton] at ix
            rw [ix, a8]
            simp [dP]
  · rintro env' ⟨x, y, rfl⟩
    have e : xs.take (enumD (xs.map dL)).length = xs := by simp [enumD]
    rw [e]
    simp [dLs, dM, tot_least]
/-! ### a map cut more than need be -/
def shO : Og → Nat → Og
  | .non, _ => .non
  | .al s a, j => .al s (a + j)
  | .pt s a, _ => .pt s a
/-- cut behind c signs, if there are more -/
def cutS (t : Bool) (c : Nat) : List Seg → List Seg
  | [] => []
  | (n, o) :: r => (if t && decide (c < n) then [(c, o), (n - c, shO o c)] else [(n, o)]) ++ cutS t c r
theorem ledO_sh (o : Og) (j k : Nat) : ledO (shO o j) k = ledO o (j + k) := by
  cases o <;> simp [ledO, shO] <;> omega
theorem lds_cut1 (n c : Nat) (o : Og) (h : c ≤ n) : ldsS [(c, o), (n - c, shO o c)] = ldsS [(n, o)] := by
  simp only [ldsS, List.append_nil]
  have e : List.range n = List.range c ++ (List.range (n - c)).map (c + ·) := by
    have := List.range_add (n := c) (m := n - c)
    rw [show c + (n - c) = n by omega] at this
    exact this
  rw [e, List.map_append, List.map_map]
  congr 1
  apply List.map_congr_left
  intro k _
  exact ledO_sh o c k
theorem ldsS_cut (t : Bool) (c : Nat) : ∀ p : List Seg, ldsS (cutS t c p) = ldsS p
  | [] => rfl
  | (n, o) :: r => by
    rw [cutS, ldsS_app, ldsS_cut t c r]
    have e : ldsS ((n, o) :: r) = ldsS [(n, o)] ++ ldsS r := by simp [ldsS]
    rw [e]
    congr 1
    split
    · rename_i h
      simp at h
      exact lds_cut1 n c o (by omega)
    · rfl
theorem tot_cut (t : Bool) (c : Nat) (p : List Seg) : tot (cutS t c p) = tot p := by rw [← ldsS_len, ldsS_cut, ldsS_len]
theorem okS_cut (t : Bool) (c : Nat) (hc : 1 ≤ c) (p : List Seg) (h : okS p) : okS (cutS t c p) := by
  refine okS_of _ ?_ (by rw [ldsS_cut]; exact okL_ldsS p h)
  intro x hx
  induction p with
  | nil => simp [cutS] at hx
  | cons y r ih =>
    obtain ⟨n, o⟩ := y
    rw [okS_cons] at h
    rw [cutS] at hx
    rcases List.mem_append.mp hx with q | q
    · split at q
      · rename_i hh
        simp at hh
        simp at q
        rcases q with rfl | rfl
        · exact hc
        · show 1 ≤ n - c; omega
      · simp at q; rw [q]; exact h.1.1
    · exact ih h.2 q
/-- what a stretch of a cut map gives -/
def cutT (t : Bool) (c : Nat) (x : Nat × Og × Nat) : List D := if t && decide (c < x.2.2 - x.1) then [dP x.1 x.2.1, dP (x.1 + c) (shO x.2.1 c)] else [dP x.1 x.2.1]
theorem cutT_all (t : Bool) (c : Nat) : ∀ (p : List Seg) (b : Nat), (trip b p).flatMap (cutT t c) = dPs b (cutS t c p)
  | [], _ => rfl
  | (n, o) :: r, b => by
    rw [trip, List.flatMap_cons, cutT_all t c r, cutS, dPs_app]
    have e : b + n - b = n := by omega
    simp only [cutT, e]
    split
    · rename_i h
      simp at h
      simp only [dPs, tot]
      have : b + (c + (n - c + 0)) = b + n := by omega
      rw [this]
    · simp only [dPs, tot, Nat.add_zero]
theorem zip_ok2 (p : List Seg) : zipD (.list (dPs 0 p)) (.list (((begS 0 p).drop 1 ++ [tot p]).map dN)) = .ok ((trip 0 p).map fun t => .tuple [dP t.1 t.2.1, .int (t.2.2 : Nat)]) := by
  simp only [zipD, seqNL]
  congr 1
  by_cases h : p = []
  · subst h; rfl
  · have := beg_end p 0 h
    rw [Nat.zero_add] at this
    rw [this]
    exact zip_trip p 0
theorem dPs_trip : ∀ (p : List Seg) (b : Nat), dPs b p = (trip b p).map fun t => dP t.1 t.2.1
  | [], _ => rfl
  | (n, o) :: r, b => by simp only [dPs, trip, List.map_cons, dPs_trip r]
theorem begS_trip : ∀ (p : List Seg) (b : Nat), begS b p = (trip b p).map (·.1)
  | [], _ => rfl
  | (n, o) :: r, b => by simp only [begS, trip, List.map_cons, begS_trip r]
theorem c_law_map (k : Nat) (xs : List Ld) (hx : xs.length ≤ 1000) (s : Int) : call T (k+3) f_law_map [dLs xs, .int s] = .ok (dM (cutS (decide (0 < s / 11 % 3)) (1 + (s / 7 % 3).toNat) (leastS xs))) := by
  rw [call_eq T_law_map rfl]
  have hok1 := (leastR_ok xs).1
  have hlen : (leastS xs).length ≤ 1000 := by
    have h2 : (leastS xs).length ≤ tot (leastS xs) := by
      suffices q : ∀ p : List Seg, (∀ x ∈ p, 1 ≤ x.1) → p.length ≤ tot p from q _ (fun x hx => hok1 x (by simpa [leastS] using hx))
      intro p
      induction p with
      | nil => intro _; exact Nat.le_refl _
      | cons x r ih =>
        intro h
        have h1 := h x (by simp)
        have h2 := ih fun y hy => h y (by simp [hy])
        obtain ⟨n, o⟩ := x
        simp only [List.length_cons, tot] at *
        omega
    rw [tot_least] at h2
    omega
  have hi1 : idxD (dM (leastS xs)) (.int 1) = .ok (.tuple (dPs 0 (leastS xs))) := by simp [dM]
  simp [d_law_map, b_law_map, c_law_least _ xs hx, hi1]
  refine endR_for (fun i env => ∃ x y, env = [some (.val (dLs xs)), some (.val (.int s)), some (.own ((dPs 0 (leastS xs)).take i)), x, y, none, none, none, none, none]) ⟨none, none, rfl⟩ ?_ ?_
  · rintro i d env hd ⟨x, y, rfl⟩
    obtain ⟨bg, o, rfl, _⟩ := dPs_get _ 0 i d hd
    have hil := (List.getElem?_eq_some_iff.mp hd).1
    have hlt : min i (dPs 0 (leastS xs)).length < 100000 := by rw [dPs_len] at *; omega
    refine ⟨_, ?_, some (.val (.int bg)), some (.val (dO o)), rfl⟩
    rw [List.take_add_one, hd]
    rw [dPs_len] at hlt
    simp [dP, dPs_len, hlt]
  · rintro env' ⟨x, y, rfl⟩
    rw [List.take_length]
    have e := compB_of (Φ := call T (k+2)) (x := .idx (.var 9) (.int 0)) (t := .name 9) (c := .none) (env := [some (.val (dLs xs)), some (.val (.int s)), some (.own (dPs 0 (leastS xs))), x, y, some (.own []), none, none, none, none])
      ((trip 0 (leastS xs)).drop 1) (fun t => dP t.1 t.2.1) (fun t => dN t.1) (by rw [List.length_drop, trip_len]; simp; omega) fun t _ => by
        simp [Tg.slots, wipeE, dP, dN]
    have e1 : ((trip 0 (leastS xs)).drop 1).map (fun t => dP t.1 t.2.1) = (dPs 0 (leastS xs)).drop 1 := by rw [dPs_trip, List.map_drop]
    have e2 : ((trip 0 (leastS xs)).drop 1).map (fun t => dN t.1) = ((begS 0 (leastS xs)).drop 1).map dN := by rw [begS_trip, ← List.map_drop, List.map_map]; rfl
    rw [e1, e2] at e
    have hbl : (begS 0 (leastS xs)).length - 1 + 1 ≤ 100000 := by rw [begS_len]; omega
    have hz := zip_ok2 (leastS xs)
    have e3 : ((begS 0 (leastS xs)).drop 1).map dN ++ [PyData.int (xs.length : Nat)] = ((begS 0 (leastS xs)).drop 1 ++ [tot (leastS xs)]).map dN := by rw [List.map_append, tot_least]; rfl
    have hadd : addD (.list (((begS 0 (leastS xs)).drop 1).map dN)) (.list [.int (xs.length : Nat)]) = .ok (.list (((begS 0 (leastS xs)).drop 1 ++ [tot (leastS xs)]).map dN)) := by
      rw [addL, e3, if_pos]
      simp only [List.length_map, List.length_drop, List.length_singleton]
      exact hbl
    have hlenx : biD .len [dLs xs] = .ok (.int xs.length) := by simp [dLs]
    have e' : compB (call T (k+2)) (.idx (.var 9) (.int 0)) (.name 9) .none [some (.val (dLs xs)), some (.val (.int s)), some (.own (dPs 0 (leastS xs))), x, y, some (.own []), none, none, none, none] (cutL (dPs 0 (leastS xs)) (some 1) none) = .ok (.list (((begS 0 (leastS xs)).drop 1).map dN)) := by rw [cutL_from1]; exact e
    obtain ⟨L1, hL1⟩ : ∃ L, ((begS 0 (leastS xs)).drop 1).map dN = L := ⟨_, rfl⟩
    obtain ⟨L2, hL2⟩ : ∃ L, ((begS 0 (leastS xs)).drop 1 ++ [tot (leastS xs)]).map dN = L := ⟨_, rfl⟩
    rw [hL1] at e' hadd
    rw [hL2] at hadd hz
    simp [-addL, e', hlenx, hadd, hz]
    obtain ⟨c, hc⟩ : ∃ c : Nat, 1 + (s / 7 % 3).toNat = c := ⟨_, rfl⟩
    have hci : s / 7 % 3 = (c : Int) - 1 := by omega
    rw [hc]
    obtain ⟨t, ht⟩ : ∃ t : Bool, decide (0 < s / 11 % 3) = t := ⟨_, rfl⟩
    rw [ht]
    have h3 : (3 : Int) < 1073741824 := by decide
    refine endR_for (fun i env => ∃ x y z w, env = [some (.val (dLs xs)), some (.val (.int s)), some (.val (.list (dPs 0 (leastS xs)))), x, y, some (.own (((trip 0 (leastS xs)).take i).flatMap (cutT t c))), some (.val (.list L2)), z, w, none]) ⟨_, _, none, none, rfl⟩ ?_ ?_
    · rintro i d env hd ⟨x, y, z, w, rfl⟩
      rw [List.getElem?_map] at hd
      cases hi : (trip 0 (leastS xs))[i]? with
      | none => rw [hi] at hd; cases hd
      | some v =>
        rw [hi] at hd
        cases hd
        have hlim : (((trip 0 (leastS xs)).take i).flatMap (cutT t c)).length ≤ 2000 := by
          have h1 : ∀ l : List (Nat × Og × Nat), (l.flatMap (cutT t c)).length ≤ 2 * l.length := by
            intro l
            induction l with
            | nil => simp
            | cons a r ih =>
              rw [List.flatMap_cons, List.length_append, List.length_cons]
              have : (cutT t c a).length ≤ 2 := by unfold cutT; split <;> simp
              omega
          have h2 := h1 ((trip 0 (leastS xs)).take i)
          rw [List.length_take, trip_len] at h2
          omega
        rw [flat_take (cutT t c) _ _ _ hi]
        obtain ⟨F, hF⟩ : ∃ F, ((trip 0 (leastS xs)).take i).flatMap (cutT t c) = F := ⟨_, rfl⟩
        rw [hF] at hlim ⊢
        have hlim2 : F.length < 100000 := by omega
        have hlim3 : F.length + 1 < 100000 := by omega
        obtain ⟨b, o, e⟩ := v
        have hat : (b : Int) + 1 + s / 7 % 3 = (b : Int) + (c : Int) := by omega
        by_cases h1 : t = true
        · by_cases h2 : c < e - b
          · have h2i : (b : Int) + (c : Int) < (e : Int) := by omega
            have hT : cutT t c (b, o, e) = [dP b o, dP (b + c) (shO o c)] := by simp [cutT, h1, h2]
            rw [hT]
            refine ⟨[some (.val (dLs xs)), some (.val (.int s)), some (.val (.list (dPs 0 (leastS xs)))), some (.val (.int b)), some (.val (dO o)), some (.own (F ++ [dP b o, dP (b + c) (shO o c)])), some (.val (.list L2)), some (.val (.int e)), some (.val (.int ((b + c : Nat) : Int))), none], ?_, _, _, _, _, rfl⟩
            rw [h1] at ht
            simp at ht
            cases o with
            | non => simp [dP, dO, shO, hlim2, hlim3, hat, ht, h2i]
            | al u a =>
              have ea : a + ((b : Int) + (c : Int)) - (b : Int) = a + (c : Int) := by omega
              simp [dP, dO, shO, hlim2, hlim3, hat, ht, h2i, ea]
            | pt u a => simp [dP, dO, shO, hlim2, hlim3, hat, ht, h2i]
          · have h2i : ¬ (b : Int) + (c : Int) < (e : Int) := by omega
            have hT : cutT t c (b, o, e) = [dP b o] := by simp [cutT, h2]
            rw [hT]
            refine ⟨[some (.val (dLs xs)), some (.val (.int s)), some (.val (.list (dPs 0 (leastS xs)))), some (.val (.int b)), some (.val (dO o)), some (.own (F ++ [dP b o])), some (.val (.list L2)), some (.val (.int e)), some (.val (.int ((b + c : Nat) : Int))), none], ?_, _, _, _, _, rfl⟩
            rw [h1] at ht
            simp at ht
            simp [dP, hlim2, hat, ht, h2i]
        · have h1' : t = false := by simpa using h1
          have hT : cutT t c (b, o, e) = [dP b o] := by simp [cutT, h1']
          rw [hT]
          refine ⟨[some (.val (dLs xs)), some (.val (.int s)), some (.val (.list (dPs 0 (leastS xs)))), some (.val (.int b)), some (.val (dO o)), some (.own (F ++ [dP b o])), some (.val (.list L2)), some (.val (.int e)), some (.val (.int ((b + c : Nat) : Int))), none], ?_, _, _, _, _, rfl⟩
          rw [h1'] at ht
          have ht' : ¬ (0 < s / 11 % 3) := by simpa using ht
          simp [dP, hlim2, hat, ht']
    · rintro env' ⟨x, y, z, w, rfl⟩
      rw [List.length_map, List.take_length, cutT_all]
      simp [hlenx, dM, tot_cut, tot_least]
end M

set_option linter.all false
set_option maxRecDepth 100000
set_option maxHeartbeats 1000000
namespace M
open PySem
/-! ### leads drawn -/
theorem pick3 (x : Int) {α : Type} (a b c : α) : ∃ y, L2.atI [a, b, c] (x % 3) = some y ∧ (y = a ∨ y = b ∨ y = c) := by
  have h : x % 3 = 0 ∨ x % 3 = 1 ∨ x % 3 = 2 := by omega
  rcases h with h | h | h <;> rw [h]
  · exact ⟨a, rfl, .inl rfl⟩
  · exact ⟨b, rfl, .inr (.inl rfl)⟩
  · exact ⟨c, rfl, .inr (.inr rfl)⟩
theorem pick2 (x : Int) {α : Type} (a b : α) : ∃ y, L2.atI [a, b] (x % 2) = some y ∧ (y = a ∨ y = b) := by
  have h : x % 2 = 0 ∨ x % 2 = 1 := by omega
  rcases h with h | h <;> rw [h]
  · exact ⟨a, rfl, .inl rfl⟩
  · exact ⟨b, rfl, .inr rfl⟩
theorem okL_bound {s a : Int} (h : 0 ≤ s ∧ s ≤ 9 ∧ 0 ≤ a ∧ a ≤ 9999) : okL (some (s, a)) := h
theorem flat_rep (n : Nat) (d : D) : (List.replicate n [d]).flatten = List.replicate n d := by
  induction n with
  | zero => rfl
  | succ n ih => rw [List.replicate_succ, List.flatten_cons, ih]; rfl
theorem c_law_leads (k : Nat) (s m : Int) (hs : 0 ≤ s) (h0 : 0 ≤ m) (h1 : m ≤ 500) : ∃ xs : List Ld, call T (k+2) f_law_leads [.int s, .int m] = .ok (dLs xs) ∧ xs.length ≤ m.toNat ∧ ∀ l ∈ xs, okL l := by
  rw [call_eq T_law_leads rfl]
  have hm : (0 : Int) < m + 1 := by omega
  have r1 := Int.emod_nonneg (s / 7) (b := m + 1) (by omega)
  have r2 := Int.emod_lt_of_pos (s / 7) (b := m + 1) (by omega)
  obtain ⟨N, hN, hN2⟩ := pick3 (s / 97) (PyData.int m) (.int (s / 7 % (m + 1))) (.int (s / 7 % 4))
  obtain ⟨N, rfl, hN3⟩ : ∃ N' : Int, N = .int N' ∧ N' ≤ 500 := by
    rcases hN2 with rfl | rfl | rfl
    · exact ⟨_, rfl, by omega⟩
    · exact ⟨_, rfl, by omega⟩
    · exact ⟨_, rfl, by omega⟩
  obtain ⟨env', e1, xs, rest, e3, e4⟩ : ∃ env', whlB (call T (k+1)) (.cmp .Lt (.bi .len (.cons (.var 2) .nil)) (.idx (.lst (.cons (.var 1) (.cons (.bin .Mod (.bin .FloorDiv (.var 0) (.int 7)) (.bin .Add (.var 1) (.int 1))) (.cons (.bin .Mod (.bin .FloorDiv (.var 0) (.int 7)) (.int 4)) .nil)))) (.call f_law_pick (.cons (.var 0) (.cons (.int 3) .nil)))))
      (.asg (.name 4) (.call f_law_seed (.cons (.var 0) (.cons (.var 3) .nil))) (.asg (.name 5) (.bin .Add (.int 1) (.idx (.lst (.cons (.int 0) (.cons (.bin .Mod (.bin .FloorDiv (.var 4) (.int 5)) (.int 9)) (.cons (.bin .Mod (.bin .FloorDiv (.var 4) (.int 5)) (.int 3)) .nil)))) (.call f_law_pick (.cons (.var 4) (.cons (.int 3) .nil))))) (.asg (.name 6) (.bin .Mod (.bin .FloorDiv (.var 4) (.int 11)) (.idx (.lst (.cons (.int 10) (.cons (.int 2) .nil))) (.bin .Mod (.bin .FloorDiv (.var 4) (.int 3)) (.int 2)))) (.asg (.name 7) (.idx (.lst (.cons (.bin .Mod (.bin .FloorDiv (.var 4) (.int 13)) (.int 10)) (.cons (.bin .Mod (.bin .FloorDiv (.var 4) (.int 13)) (.bin .Sub (.int 9999) (.var 5))) (.cons (.bin .Sub (.int 9999) (.var 5)) .nil)))) (.bin .Mod (.bin .FloorDiv (.var 4) (.int 17)) (.int 3))) (.ite (.cmp .Eq (.bin .Mod (.bin .FloorDiv (.var 4) (.int 19)) (.int 4)) (.int 0)) (.asg (.name 2) (.bin .Add (.var 2) (.bin .Mult (.lst (.cons .non .nil)) (.var 5))) .nil) (.ite (.cmp .Eq (.bin .Mod (.bin .FloorDiv (.var 4) (.int 19)) (.int 4)) (.int 1)) (.asg (.name 2) (.bin .Add (.var 2) (.bin .Mult (.lst (.cons (.tup (.cons (.var 6) (.cons (.var 7) .nil))) .nil)) (.var 5))) .nil) (.asg (.name 2) (.bin .Add (.var 2) (.comp (.tup (.cons (.var 6) (.cons (.bin .Add (.var 7) (.var 8)) .nil))) (.name 8) (.rng1 (.var 5)) .none)) .nil) .nil) (.aug 3 .Add (.int 1) .nil)))))) WF
      [some (.val (.int s)), some (.val (.int m)), some (.val (.list [])), some (.val (.int 0)), none, none, none, none, none] = .nx env' ∧ ∃ (xs : List Ld) (rest : Env), env' = some (.val (.int s)) :: some (.val (.int m)) :: some (.val (dLs xs)) :: rest ∧ ∀ l ∈ xs, okL l := by
    refine whlB_ok (fun j env => ∃ (xs : List Ld) (n : Int) (x y z w : Option W), j = 600 - xs.length ∧ xs.length < 600 ∧ (∀ l ∈ xs, okL l) ∧ env = [some (.val (.int s)), some (.val (.int m)), some (.val (dLs xs)), some (.val (.int n)), x, y, z, w, none])
      (fun env => ∃ (xs : List Ld) (rest : Env), env = some (.val (.int s)) :: some (.val (.int m)) :: some (.val (dLs xs)) :: rest ∧ ∀ l ∈ xs, okL l) ?_ WF 600 _ ⟨[], 0, none, none, none, none, rfl, by simp, by simp, rfl⟩ (by decide)
    rintro j env ⟨xs, n, x, y, z, w, rfl, hl, hok, rfl⟩
    have hcond : kT (evE (call T (k+1)) (.cmp .Lt (.bi .len (.cons (.var 2) .nil)) (.idx (.lst (.cons (.var 1) (.cons (.bin .Mod (.bin .FloorDiv (.var 0) (.int 7)) (.bin .Add (.var 1) (.int 1))) (.cons (.bin .Mod (.bin .FloorDiv (.var 0) (.int 7)) (.int 4)) .nil)))) (.call f_law_pick (.cons (.var 0) (.cons (.int 3) .nil))))) [some (.val (.int s)), some (.val (.int m)), some (.val (dLs xs)), some (.val (.int n)), x, y, z, w, none]) = .ok (decide ((xs.length : Int) < N)) := by
      simp [dLs, hm, c_pick, hN]
    by_cases hlt : (xs.length : Int) < N
    · right
      rw [hcond, decide_eq_true hlt]
      refine ⟨rfl, ?_⟩
      obtain ⟨one, hone⟩ : ∃ o, seedN s n = o := ⟨_, rfl⟩
      have ho1 := seedN_ge s n
      rw [hone] at ho1
      obtain ⟨mv, hmv, hmv2⟩ := pick3 (one / 97) (PyData.int 0) (.int (one / 5 % 9)) (.int (one / 5 % 3))
      obtain ⟨mv, rfl, m1, m2⟩ : ∃ q : Int, mv = .int q ∧ 0 ≤ q ∧ q ≤ 8 := by
        rcases hmv2 with rfl | rfl | rfl
        · exact ⟨_, rfl, by omega, by omega⟩
        · exact ⟨_, rfl, by omega, by omega⟩
        · exact ⟨_, rfl, by omega, by omega⟩
      obtain ⟨sv, hsv, hsv2⟩ := pick2 (one / 3) (PyData.int 10) (.int 2)
      obtain ⟨sv, rfl, s1, s2⟩ : ∃ q : Int, sv = .int q ∧ 0 < q ∧ q ≤ 10 := by
        rcases hsv2 with rfl | rfl
        · exact ⟨_, rfl, by omega, by omega⟩
        · exact ⟨_, rfl, by omega, by omega⟩
      have u1 := Int.emod_nonneg (one / 11) (b := sv) (by omega)
      have u2 := Int.emod_lt_of_pos (one / 11) (b := sv) (by omega)
      obtain ⟨src, hsrc⟩ : ∃ q, one / 11 % sv = q := ⟨_, rfl⟩
      rw [hsrc] at u1 u2
      have v1 := Int.emod_nonneg (one / 13) (b := 9999 - (1 + mv)) (by omega)
      have v2 := Int.emod_lt_of_pos (one / 13) (b := 9999 - (1 + mv)) (by omega)
      obtain ⟨av, hav, hav2⟩ := pick3 (one / 17) (PyData.int (one / 13 % 10)) (.int (one / 13 % (9999 - (1 + mv)))) (.int (9999 - (1 + mv)))
      obtain ⟨av, rfl, w1, w2⟩ : ∃ q : Int, av = .int q ∧ 0 ≤ q ∧ q ≤ 9999 - (1 + mv) := by
        rcases hav2 with rfl | rfl | rfl
        · exact ⟨_, rfl, by omega, by omega⟩
        · exact ⟨_, rfl, by omega, by omega⟩
        · exact ⟨_, rfl, by omega, by omega⟩
      have hp1 : (0 : Int) < 9999 - (1 + mv) := by omega
      obtain ⟨M1, hM1⟩ : ∃ q : Nat, 1 + mv = (q : Int) := ⟨(1 + mv).toNat, by omega⟩
      have hM2 : M1 ≤ 9 := by omega
      have hM3 : 1 ≤ M1 := by omega
      rw [hM1] at hav hp1 w2
      have hp2 : (M1 : Int) < 9999 := by omega
      have hp3 : M1 < 9999 := by omega
      have hbig : (M1 : Int) < 9223372036854775808 := by omega
      have hbig2 : (-9223372036854775808 : Int) ≤ (M1 : Int) := by omega
      have hlen1 : xs.length + M1 ≤ 100000 := by omega
      have hlen2 : M1 ≤ 100000 := by omega
      by_cases c0 : one / 19 % 4 = 0
      · refine ⟨[some (.val (.int s)), some (.val (.int m)), some (.val (dLs (xs ++ List.replicate M1 none))), some (.val (.int (n + 1))), some (.val (.int one)), some (.val (.int M1)), some (.val (.int src)), some (.val (.int av)), none], 600 - (xs ++ List.replicate M1 (none : Ld)).length, ?_, ?_, xs ++ List.replicate M1 none, n + 1, _, _, _, _, rfl, ?_, ?_, rfl⟩
        · simp [c_seed, hone, c_pick, hmv, hM1, hsv, s1, hsrc, hp1, hp2, hp3, hav, c0, dLs, hbig, hbig2, hlen1, hlen2, flat_rep]
        · simp; omega
        · simp; omega
        · intro l hl
          rcases List.mem_append.mp hl with q | q
          · exact hok l q
          · rw [(List.mem_replicate.mp q).2]; trivial
      · by_cases c1 : one / 19 % 4 = 1
        · refine ⟨[some (.val (.int s)), some (.val (.int m)), some (.val (dLs (xs ++ List.replicate M1 (some (src, av))))), some (.val (.int (n + 1))), some (.val (.int one)), some (.val (.int M1)), some (.val (.int src)), some (.val (.int av)), none], 600 - (xs ++ List.replicate M1 (some (src, av) : Ld)).length, ?_, ?_, xs ++ List.replicate M1 (some (src, av)), n + 1, _, _, _, _, rfl, ?_, ?_, rfl⟩
          · simp [c_seed, hone, c_pick, hmv, hM1, hsv, s1, hsrc, hp1, hp2, hp3, hav, c1, dLs, hbig, hbig2, hlen1, hlen2, flat_rep]
          · simp; omega
          · simp; omega
          · intro l hl
            rcases List.mem_append.mp hl with q | q
            · exact hok l q
            · rw [(List.mem_replicate.mp q).2]; exact okL_bound (by omega)
        · have e := compB_of (Φ := call T (k+1)) (x := .tup (.cons (.var 6) (.cons (.bin .Add (.var 7) (.var 8)) .nil))) (t := .name 8) (c := .none)
            (env := [some (.val (.int s)), some (.val (.int m)), some (.val (.list (xs.map dL))), some (.val (.int n)), some (.val (.int one)), some (.val (.int M1)), some (.val (.int src)), some (.val (.int av)), none]) (List.range M1) (fun (k : Nat) => PyData.int (k : Int)) (fun (j : Nat) => dL (some (src, av + j))) (by simp; omega) fun j _ => by
              simp [Tg.slots, wipeE]
          refine ⟨[some (.val (.int s)), some (.val (.int m)), some (.val (dLs (xs ++ (List.range M1).map fun (j : Nat) => some (src, av + (j : Int))))), some (.val (.int (n + 1))), some (.val (.int one)), some (.val (.int M1)), some (.val (.int src)), some (.val (.int av)), none], 600 - (xs ++ (List.range M1).map fun (j : Nat) => (some (src, av + (j : Int)) : Ld)).length, ?_, ?_, xs ++ (List.range M1).map fun (j : Nat) => some (src, av + (j : Int)), n + 1, _, _, _, _, rfl, ?_, ?_, rfl⟩
          · simp [c_seed, hone, c_pick, hmv, hM1, hsv, s1, hsrc, hp1, hp2, hp3, hav, c0, c1, dLs, rng_nat M1 hlen2, e, hlen1]
          · simp; omega
          · simp; omega
          · intro l hl
            rcases List.mem_append.mp hl with q | q
            · exact hok l q
            · obtain ⟨j, hj, rfl⟩ := List.mem_map.mp q
              have hj : j < M1 := by simpa using hj
              exact okL_bound (by omega)
    · left
      rw [hcond, decide_eq_false hlt]
      exact ⟨rfl, xs, _, rfl, hok⟩
  obtain ⟨M0, hM0⟩ : ∃ q : Nat, m = (q : Int) := ⟨m.toNat, by omega⟩
  subst hM0
  subst e3
  refine ⟨xs.take M0, ?_, by rw [List.length_take]; omega, fun l hl => e4 l (List.mem_of_mem_take hl)⟩
  simp only [d_law_leads, b_law_leads]
  simp
  rw [e1]
  have hcut : cutL (xs.map dL) none (some (M0 : Int)) = (xs.take M0).map dL := by
    unfold cutL
    rw [HT.sIx_none, HT.sIx_nat, List.drop_zero, Nat.sub_zero, List.map_take, List.length_map]
    by_cases h : M0 ≤ xs.length
    · rw [Nat.min_eq_left h]
    · rw [Nat.min_eq_right (by omega), List.take_of_length_le (by simp), List.take_of_length_le (by simp; omega)]
  simp [dLs, hcut]
/-! ### what is drawn -/
/-- a script, or a list like one -/
def Scr (d : D) (ns : List Int) : Prop := ∀ (k : Nat) (j : Int), 0 ≤ j → call T (k+1) f_law_cell [d, .int j] = .ok (.int (cell ns j))
theorem scr_scr (ns : List Int) : Scr (scr ns) ns := fun k j h => c_cell k ns j h
theorem scr_list (ns : List Int) : Scr (.list (ns.map .int)) ns := fun k j h => by
  rw [call_eq T_law_cell rfl]
  by_cases h1 : j < ns.length
  · have h2 : j.toNat < ns.length := by omega
    have e : L2.atI (ns.map PyData.int) j = some (.int (cell ns j)) := atI_get h (by simp [cell, h2])
    simp [d_law_cell, b_law_cell, h1, e]
  · have e : cell ns j = 0 := by
      unfold cell
      rw [List.getD_eq_getElem?_getD, List.getElem?_eq_none (by omega)]; rfl
    simp [d_law_cell, b_law_cell, h1, e]
def lrg (ns : List Int) (at_ most : Int) : Int := most * (if cell ns (at_ + 1) % 23 = 0 then 5 else 1)
theorem c_law_drawn (k : Nat) {sd : D} {ns : List Int} (sc : Scr sd ns) (i most : Int) (hi : 0 ≤ i) (h0 : 0 ≤ most) (h1 : most ≤ 100) : ∃ (xs : List Ld) (p : List Seg), call T (k+4) f_law_drawn [sd, .int i, .int most] = .ok (.tuple [dLs xs, dM p]) ∧ xs.length ≤ (lrg ns i most).toNat ∧ (∀ l ∈ xs, okL l) ∧ okS p ∧ ldsS p = xs ∧ tot p = xs.length := by
  rw [call_eq T_law_drawn rfl]
  have hs := seedN_ge (cell ns i) i
  have hL0 : 0 ≤ lrg ns i most := by unfold lrg; split <;> omega
  have hL1 : lrg ns i most ≤ 500 := by unfold lrg; split <;> omega
  obtain ⟨xs, e1, e2, e3⟩ := c_law_leads (k + 1) (seedN (cell ns i) i) (lrg ns i most) hs hL0 hL1
  have hx : xs.length ≤ 1000 := by omega
  have e4 := c_law_map k xs hx (seedN (cell ns (i + 1)) (i + 1))
  have hok := okS_cut (decide (0 < seedN (cell ns (i + 1)) (i + 1) / 11 % 3)) (1 + (seedN (cell ns (i + 1)) (i + 1) / 7 % 3).toNat) (by omega) (leastS xs) (okS_least xs e3)
  refine ⟨xs, cutS (decide (0 < seedN (cell ns (i + 1)) (i + 1) / 11 % 3)) (1 + (seedN (cell ns (i + 1)) (i + 1) / 7 % 3).toNat) (leastS xs), ?_, e2, e3, hok, by rw [ldsS_cut, ldsS_least], by rw [tot_cut, tot_least]⟩
  have hi1 : 0 ≤ i + 1 := by omega
  have hsm : smallI most = true := by
    simp [smallI]; omega
  by_cases h23 : cell ns (i + 1) % 23 = 0
  · have el : lrg ns i most = most * 5 := by unfold lrg; rw [if_pos h23]
    rw [el] at e1
    simp [d_law_drawn, b_law_drawn, sc _ _ hi, sc _ _ hi1, h23, hsm, c_seed, e1, e4]
  · have el : lrg ns i most = most := by unfold lrg; rw [if_neg h23]; omega
    rw [el] at e1
    simp [d_law_drawn, b_law_drawn, sc _ _ hi, sc _ _ hi1, h23, hsm, c_seed, e1, e4]
end M

set_option linter.all false
set_option maxRecDepth 100000
set_option maxHeartbeats 1000000
namespace M
open PySem
/-! ### what is no map -/
theorem c_checked_no (k : Nat) (d : D) (h : call T k f_is_map [d] = .ok (.bool false)) : call T (k+1) f_checked [d] = .exc 0 := by
  rw [call_eq T_checked rfl]
  simp [d_checked, b_checked, h]
theorem c_leads_no (k : Nat) (d : D) (h : call T k f_is_map [d] = .ok (.bool false)) : call T (k+2) f_leads [d] = .exc 0 := by
  rw [call_eq T_leads rfl]
  simp [d_leads, b_leads, c_checked_no k d h]
theorem c_least_no (k : Nat) (d : D) (h : call T k f_is_map [d] = .ok (.bool false)) : call T (k+3) f_least [d] = .exc 0 := by
  rw [call_eq T_least rfl]
  simp [d_least, b_least, c_leads_no k d h]
theorem c_lead_no (k : Nat) (d e : D) (h : call T k f_is_map [d] = .ok (.bool false)) : call T (k+2) f_lead [d, e] = .exc 0 := by
  rw [call_eq T_lead rfl]
  simp [d_lead, b_lead, c_checked_no k d h]
theorem c_lead (k : Nat) (p : List Seg) (h : okS p) (ht : tot p ≤ 1000) (i : Nat) (x : Ld) (hi : (ldsS p)[i]? = some x) : call T (k+5) f_lead [dM p, .int i] = .ok (dL x) := by
  rw [call_eq T_lead rfl]
  have hil := (List.getElem?_eq_some_iff.mp hi).1
  rw [ldsS_len] at hil
  have h1 : (i : Int) ≤ (tot p : Int) - 1 := by omega
  have h0 : idxD (dM p) (.int 0) = .ok (.int (tot p)) := by simp [dM]
  have h2 : idxD (dLs (ldsS p)) (.int i) = .ok (dL x) := by simp [dLs, at_dL hi]
  simp [d_lead, b_lead, c_checked _ p h ht, h0, c_is_within, isWithin, h1, c_leads_of _ p h ht, h2]
theorem c_lead_noplace (k : Nat) (p : List Seg) (h : okS p) (ht : tot p ≤ 1000) (d : D) (hd : ∀ kvs, d ≠ .dict kvs) (hw : isWithin d 0 (tot p - 1) = false) : call T (k+5) f_lead [dM p, d] = .exc 1 := by
  rw [call_eq T_lead rfl]
  have h0 : idxD (dM p) (.int 0) = .ok (.int (tot p)) := by simp [dM]
  simp [d_lead, b_lead, c_checked _ p h ht, h0, c_is_within, hd, hw]
/-! maps as data -/
theorem pl_dO (o : Og) : pl (dO o) = true := by
  cases o <;> simp [dO, pl, plL] <;> decide +kernel
theorem dep_dO (o : Og) : (dO o).depth ≤ 2 := by
  cases o <;> simp [dO, PyData.depth, PyData.depthAll]
theorem pd_dM (p : List Seg) : pd (dM p) := by
  have h1 : ∀ d ∈ dPs 0 p, pl d = true ∧ d.depth ≤ 3 := by
    rw [dPs_trip]
    intro d hd
    obtain ⟨t, _, rfl⟩ := List.mem_map.mp hd
    have := dep_dO t.2.1
    refine ⟨by simp [dP, pl, plL, pl_dO], ?_⟩
    simp only [dP, PyData.depth, PyData.depthAll]
    omega
  have h2 : PyData.depthAll (dPs 0 p) ≤ 3 := depthAll_le fun d hd => (h1 d hd).2
  refine ⟨?_, ?_⟩
  · simp [dM, pl, plL, plL_all fun d hd => (h1 d hd).1]
  · simp only [dM, PyData.depth, PyData.depthAll]
    omega
theorem pd_dLs (xs : List Ld) : pd (dLs xs) := by
  have h2 : PyData.depthAll (xs.map dL) ≤ 2 := depthAll_le fun d hd => by
    obtain ⟨t, _, rfl⟩ := List.mem_map.mp hd
    exact dep_dL t
  refine ⟨?_, ?_⟩
  · simp only [dLs, pl]
    exact plL_all fun d hd => by
      obtain ⟨t, _, rfl⟩ := List.mem_map.mp hd
      exact pl_dL t
  · simp only [dLs, PyData.depth]
    omega
theorem dLs_inj {a b : List Ld} (h : dLs a = dLs b) : a = b := by
  simp only [dLs, PyData.list.injEq] at h
  induction a generalizing b with
  | nil => cases b with
    | nil => rfl
    | cons y ys => simp at h
  | cons x xs ih =>
    cases b with
    | nil => simp at h
    | cons y ys =>
      simp only [List.map_cons, List.cons.injEq] at h
      rw [dL_inj h.1, ih h.2]
theorem eqD_dM (p : List Seg) : eqD (dM p) (dM p) = .ok true := eqD_self (pd_dM p)
theorem eqD_dLs (xs : List Ld) : eqD (dLs xs) (dLs xs) = .ok true := eqD_self (pd_dLs xs)
theorem isL_dLs (xs : List Ld) : isT .list (dLs xs) = .ok true := rfl
theorem len_dLs (xs : List Ld) : biD .len [dLs xs] = .ok (.int xs.length) := by simp [dLs]
theorem idx_dLs (xs : List Ld) (i : Nat) (x : Ld) (h : xs[i]? = some x) : idxD (dLs xs) (.int i) = .ok (dL x) := by simp [dLs, at_dL h]
theorem dM0 (p : List Seg) : idxD (dM p) (.int 0) = .ok (.int (tot p)) := by simp [dM]
theorem dM1 (p : List Seg) : idxD (dM p) (.int 1) = .ok (.tuple (dPs 0 p)) := by simp [dM]
theorem atI_mod (xs : List D) (c m : Int) (hn : (xs.length : Int) = m) (h0 : 0 < m) : ∃ (i : Nat) (d : D), xs[i]? = some d ∧ L2.atI xs (c % m) = some d := by
  have h1 := Int.emod_nonneg c (b := m) (by omega)
  have h2 := Int.emod_lt_of_pos c (b := m) (by omega)
  obtain ⟨d, hd⟩ : ∃ d, xs[(c % m).toNat]? = some d := ⟨_, List.getElem?_eq_getElem (by omega)⟩
  exact ⟨_, d, hd, atI_get h1 hd⟩
end M

set_option linter.all false
set_option maxRecDepth 100000
set_option maxHeartbeats 1000000
namespace M
open PySem
/-! ### maps as values -/
/-- a map that leads as told -/
def MapD (d : D) (xs : List Ld) : Prop := ∃ p, d = dM p ∧ okS p ∧ ldsS p = xs ∧ tot p = xs.length ∧ xs.length ≤ 1000
/-- the least map -/
def lm (xs : List Ld) : D := dM (leastS xs)
theorem mapD_lm {xs : List Ld} (h : ∀ l ∈ xs, okL l) (hl : xs.length ≤ 1000) : MapD (lm xs) xs := ⟨leastS xs, rfl, okS_least xs h, ldsS_least xs, tot_least xs, hl⟩
theorem MapD.len {d : D} {xs : List Ld} (h : MapD d xs) : xs.length ≤ 1000 := by obtain ⟨p, _, _, _, _, h⟩ := h; exact h
theorem MapD.ok {d : D} {xs : List Ld} (h : MapD d xs) : ∀ l ∈ xs, okL l := by obtain ⟨p, _, h1, h2, _⟩ := h; rw [← h2]; exact okL_ldsS p h1
theorem MapD.pd {d : D} {xs : List Ld} (h : MapD d xs) : pd d := by obtain ⟨p, rfl, _⟩ := h; exact pd_dM p
theorem MapD.i0 {d : D} {xs : List Ld} (h : MapD d xs) : idxD d (.int 0) = .ok (.int xs.length) := by obtain ⟨p, rfl, _, _, h4, _⟩ := h; rw [← h4]; exact dM0 p
section
variable {d d2 : D} {xs ys : List Ld} (k : Nat)
theorem m_is (h : MapD d xs) : call T (k+3) f_is_map [d] = .ok (.bool true) := by obtain ⟨p, rfl, h1, _, h3, h4⟩ := h; exact c_is_map k p h1 (by omega)
theorem m_chk (h : MapD d xs) : call T (k+4) f_checked [d] = .ok d := by obtain ⟨p, rfl, h1, _, h3, h4⟩ := h; exact c_checked k p h1 (by omega)
theorem m_lds (h : MapD d xs) : call T (k+3) f_leads_of [d] = .ok (dLs xs) := by obtain ⟨p, rfl, h1, rfl, h3, h4⟩ := h; exact c_leads_of k p h1 (by omega)
theorem m_leads (h : MapD d xs) : call T (k+5) f_leads [d] = .ok (dLs xs) := by obtain ⟨p, rfl, h1, rfl, h3, h4⟩ := h; exact c_leads k p h1 (by omega)
theorem m_least (h : MapD d xs) : call T (k+6) f_least [d] = .ok (lm xs) := by obtain ⟨p, rfl, h1, rfl, h3, h4⟩ := h; exact c_least k p h1 (by omega)
theorem m_of (h : xs.length ≤ 1000) : call T (k+2) f_map_of [dLs xs] = .ok (lm xs) := c_map_of k xs h
theorem m_of' {l : List D} (e : l = xs.map dL) (h : xs.length ≤ 1000) : call T (k+2) f_map_of [.list l] = .ok (lm xs) := by rw [e]; exact c_map_of k xs h
theorem l_least (h : xs.length ≤ 1000) : call T (k+2) f_law_least [dLs xs] = .ok (lm xs) := c_law_least k xs h
theorem l_least' {l : List D} (e : l = xs.map dL) (h : xs.length ≤ 1000) : call T (k+2) f_law_least [.list l] = .ok (lm xs) := by rw [e]; exact c_law_least k xs h
end
theorem eqD_lm (xs : List Ld) : eqD (lm xs) (lm xs) = .ok true := eqD_dM _
theorem lm_inj {xs ys : List Ld} (h : lm xs = lm ys) : leastS xs = leastS ys → xs = ys := fun e => by rw [← ldsS_least xs, ← ldsS_least ys, e]
/-- drawn, as a map -/
theorem m_drawn (k : Nat) {sd : D} {ns : List Int} (sc : Scr sd ns) (i most : Int) (hi : 0 ≤ i) (h0 : 0 ≤ most) (h1 : most ≤ 100) : ∃ (xs : List Ld) (d : D), call T (k+4) f_law_drawn [sd, .int i, .int most] = .ok (.tuple [dLs xs, d]) ∧ MapD d xs ∧ xs.length ≤ (most * 5).toNat := by
  obtain ⟨xs, p, e1, e2, e3, e4, e5, e6⟩ := c_law_drawn k sc i most hi h0 h1
  have : (lrg ns i most).toNat ≤ (most * 5).toNat := by unfold lrg; split <;> omega
  exact ⟨xs, dM p, e1, ⟨p, rfl, e4, e5, e6, by omega⟩, by omega⟩
theorem m_law_map (k : Nat) (xs : List Ld) (h : ∀ l ∈ xs, okL l) (hx : xs.length ≤ 1000) (s : Int) : ∃ d, call T (k+3) f_law_map [dLs xs, .int s] = .ok d ∧ MapD d xs :=
  ⟨_, c_law_map k xs hx s, _, rfl, okS_cut _ _ (by omega) _ (okS_least xs h), by rw [ldsS_cut, ldsS_least], by rw [tot_cut, tot_least], hx⟩
/-! ### cuts -/
theorem cutL_mid {α : Type} (xs : List α) (b e : Nat) (h1 : b ≤ e) (h2 : e ≤ xs.length) : cutL xs (some (b : Int)) (some (e : Int)) = (xs.drop b).take (e - b) := by
  unfold cutL
  rw [HT.sIx_nat, HT.sIx_nat, Nat.min_eq_left h2, Nat.min_eq_left (by omega)]
theorem cutL_from {α : Type} (xs : List α) (b : Nat) (h2 : b ≤ xs.length) : cutL xs (some (b : Int)) none = xs.drop b := by
  unfold cutL
  rw [HT.sIx_nat, HT.sIx_none, Nat.min_eq_left (by omega)]
  exact List.take_of_length_le (by simp)
theorem sl_mid (xs : List Ld) (b e : Nat) (h1 : b ≤ e) (h2 : e ≤ xs.length) : slD (dLs xs) (some (b : Int)) (some (e : Int)) = .ok (dLs ((xs.drop b).take (e - b))) := by
  simp only [dLs, slL]
  rw [cutL_mid _ b e h1 (by simpa using h2), List.map_take, List.map_drop]
theorem sl_to (xs : List Ld) (b : Nat) (h1 : b ≤ xs.length) : slD (dLs xs) none (some (b : Int)) = .ok (dLs (xs.take b)) := by
  simp only [dLs, slL]
  rw [cutL_pre _ b (by simpa using h1), List.map_take]
theorem sl_from (xs : List Ld) (b : Nat) (h1 : b ≤ xs.length) : slD (dLs xs) (some (b : Int)) none = .ok (dLs (xs.drop b)) := by
  simp only [dLs, slL]
  rw [cutL_from _ b (by simpa using h1), List.map_drop]
theorem add_dLs (xs ys : List Ld) (h : xs.length + ys.length ≤ 100000) : addD (dLs xs) (dLs ys) = .ok (dLs (xs ++ ys)) := by
  simp only [dLs, addL, List.length_map, if_pos h, List.map_append]
section
variable {d d2 : D} {xs ys : List Ld} (k : Nat)
theorem c_look_stretch (h : MapD d xs) (b e : Nat) (h1 : b ≤ e) (h2 : e ≤ xs.length) : call T (k+2) f_look_stretch [d, .int b, .int e] = .ok .none := by
  rw [call_eq T_look_stretch rfl]
  have a1 : (b : Int) ≤ (xs.length : Int) := by omega
  have a2 : (b : Int) ≤ (e : Int) := by omega
  have a3 : (e : Int) ≤ (xs.length : Int) := by omega
  have a4 : b ≤ xs.length := by omega
  simp [d_look_stretch, b_look_stretch, h.i0, c_is_within, isWithin, a1, a2, a3, h1, h2, a4]
theorem c_look_stretch_no (h : MapD d xs) (b e : D) (hb : ∀ kvs, b ≠ .dict kvs) (he : ∀ kvs, e ≠ .dict kvs) (hn : isWithin b 0 xs.length = false ∨ ∃ n : Int, b = .int n ∧ isWithin e n xs.length = false) : call T (k+2) f_look_stretch [d, b, e] = .exc 1 := by
  rw [call_eq T_look_stretch rfl]
  rcases hn with hn | ⟨n, rfl, hn⟩
  · simp [d_look_stretch, b_look_stretch, h.i0, c_is_within, hb, hn]
  · cases hq : isWithin (.int n) 0 xs.length with
    | false => simp [d_look_stretch, b_look_stretch, h.i0, c_is_within, hq]
    | true => simp [d_look_stretch, b_look_stretch, h.i0, c_is_within, hq, he, hn]
theorem c_cut (h : MapD d xs) (b e : Nat) (h1 : b ≤ e) (h2 : e ≤ xs.length) : call T (k+5) f_cut [d, .int b, .int e] = .ok (lm ((xs.drop b).take (e - b))) := by
  rw [call_eq T_cut rfl]
  have hl := h.len
  have h3 : ((xs.drop b).take (e - b)).length ≤ 1000 := by rw [List.length_take, List.length_drop]; omega
  simp [d_cut, b_cut, m_chk _ h, c_look_stretch _ h b e h1 h2, m_lds _ h, sl_mid xs b e h1 h2, m_of _ h3]
theorem c_cut_no (h : MapD d xs) (b e : D) (hb : ∀ kvs, b ≠ .dict kvs) (he : ∀ kvs, e ≠ .dict kvs) (hn : isWithin b 0 xs.length = false ∨ ∃ n : Int, b = .int n ∧ isWithin e n xs.length = false) : call T (k+5) f_cut [d, b, e] = .exc 1 := by
  rw [call_eq T_cut rfl]
  simp [d_cut, b_cut, m_chk _ h, c_look_stretch_no _ h b e hb he hn]
theorem c_joined (h : MapD d xs) (h2 : MapD d2 ys) (hs : xs.length + ys.length ≤ 1000) : call T (k+5) f_joined [d, d2] = .ok (lm (xs ++ ys)) := by
  rw [call_eq T_joined rfl]
  have a1 : ¬ (1000 : Int) < (xs.length : Int) + (ys.length : Int) := by omega
  have a2 : (xs ++ ys).length ≤ 1000 := by simpa using hs
  simp [d_joined, b_joined, m_chk _ h, m_chk _ h2, h.i0, h2.i0, a1, m_lds _ h, m_lds _ h2, add_dLs xs ys (by omega), m_of _ a2]
theorem c_exchanged (h : MapD d xs) (h2 : MapD d2 ys) (b e : Nat) (hb : b ≤ e) (he : e ≤ xs.length) (hs : xs.length - (e - b) + ys.length ≤ 1000) : call T (k+5) f_exchanged [d, .int b, .int e, d2] = .ok (lm (xs.take b ++ ys ++ xs.drop e)) := by
  rw [call_eq T_exchanged rfl]
  have hl := h.len
  have a1 : ¬ (1000 : Int) < (xs.length : Int) - ((e : Int) - (b : Int)) + (ys.length : Int) := by omega
  have a2 : (xs.take b ++ ys ++ xs.drop e).length ≤ 1000 := by simp; omega
  have q1 := add_dLs (xs.take b) ys (by have := h2.len; simp; omega)
  have q2 := add_dLs (xs.take b ++ ys) (xs.drop e) (by have := h2.len; simp; omega)
  simp [d_exchanged, b_exchanged, m_chk _ h, m_chk _ h2, c_look_stretch _ h b e hb he, h.i0, h2.i0, a1, m_lds _ h, m_lds _ h2, sl_to xs b (by omega), sl_from xs e he, q1]
  simp only [List.append_assoc] at q2 a2 ⊢
  simp [q2, m_of _ a2]
theorem c_exchanged_no (h : MapD d xs) (h2 : MapD d2 ys) (b e : D) (hb : ∀ kvs, b ≠ .dict kvs) (he : ∀ kvs, e ≠ .dict kvs) (hn : isWithin b 0 xs.length = false ∨ ∃ n : Int, b = .int n ∧ isWithin e n xs.length = false) : call T (k+5) f_exchanged [d, b, e, d2] = .exc 1 := by
  rw [call_eq T_exchanged rfl]
  simp [d_exchanged, b_exchanged, m_chk _ h, m_chk _ h2, c_look_stretch_no _ h b e hb he hn]
end
/-! ### whole maps -/
def wholeL (n : Nat) (s : Int) : List Ld := (List.range n).map fun (i : Nat) => some (s, (i : Int))
theorem wholeL_ok (n : Nat) (s : Int) (hn : n ≤ 1000) (h0 : 0 ≤ s) (h1 : s ≤ 9) : ∀ l ∈ wholeL n s, okL l := by
  intro l hl
  obtain ⟨i, hi, rfl⟩ := List.mem_map.mp hl
  have : i < n := by simpa using hi
  exact okL_bound (by omega)
theorem wholeL_len (n : Nat) (s : Int) : (wholeL n s).length = n := by simp [wholeL]
theorem c_whole (k n : Nat) (s : Int) (hn : n ≤ 1000) (h0 : 0 ≤ s) (h1 : s ≤ 9) : call T (k+3) f_whole [.int n, .int s] = .ok (lm (wholeL n s)) := by
  rw [call_eq T_whole rfl]
  have a1 : (n : Int) ≤ 1000 := by omega
  have e := compB_of (Φ := call T (k+2)) (x := .tup (.cons (.var 1) (.cons (.var 2) .nil))) (t := .name 2) (c := .none) (env := [some (.val (.int n)), some (.val (.int s)), none]) (List.range n) (fun (k : Nat) => PyData.int (k : Int)) (fun (i : Nat) => dL (some (s, (i : Int)))) (by simp; omega) fun j _ => by
    simp [Tg.slots, wipeE]
  have hm := m_of' k (xs := wholeL n s) (l := (List.range n).map fun (i : Nat) => dL (some (s, (i : Int)))) (by simp [wholeL]) (by rw [wholeL_len]; exact hn)
  simp [d_whole, b_whole, c_is_within, isWithin, a1, hn, h0, h1, rng_nat n (by omega), e]
  simp at hm
  rw [hm]
  rfl
/-! ### sorted numbers -/
theorem insI_mem0 (x : Int) : ∀ (l : List Int) (y : Int), y ∈ insI x l ↔ y = x ∨ y ∈ l
  | [], y => by simp [insI]
  | z :: zs, y => by
    simp only [insI]
    split
    · simp
    · simp [insI_mem0 x zs y]
      constructor
      · rintro (h | h | h) <;> simp [h]
      · rintro (h | h | h) <;> simp [h]
theorem insI_len0 (x : Int) : ∀ (l : List Int), (insI x l).length = l.length + 1
  | [] => rfl
  | z :: zs => by
    simp only [insI]
    split
    · simp
    · simp [insI_len0 x zs]
theorem insI_sorted0 (x : Int) : ∀ (l : List Int), l.Pairwise (· ≤ ·) → (insI x l).Pairwise (· ≤ ·)
  | [], _ => by simp [insI]
  | z :: zs, h => by
    rw [List.pairwise_cons] at h
    simp only [insI]
    split
    · rename_i hz
      rw [List.pairwise_cons, List.pairwise_cons]
      refine ⟨fun y hy => ?_, h⟩
      rcases List.mem_cons.mp hy with q | q
      · omega
      · have := h.1 y q; omega
    · rename_i hz
      rw [List.pairwise_cons]
      refine ⟨fun y hy => ?_, insI_sorted0 x zs h.2⟩
      rcases (insI_mem0 x zs y).mp hy with q | q
      · omega
      · exact h.1 y q
theorem sortI_spec : ∀ l : List Int, (sortI l).length = l.length ∧ (sortI l).Pairwise (· ≤ ·) ∧ ∀ x, x ∈ sortI l ↔ x ∈ l
  | [] => ⟨rfl, List.Pairwise.nil, fun x => Iff.rfl⟩
  | x :: xs => by
    obtain ⟨h1, h2, h3⟩ := sortI_spec xs
    refine ⟨by rw [sortI, insI_len0, h1]; rfl, insI_sorted0 x _ h2, fun y => ?_⟩
    rw [sortI, insI_mem0, h3 y, List.mem_cons]
theorem sortedI (l : List Int) : biD .sorted [.list (l.map .int)] = .ok (.list ((sortI l).map .int)) := by
  simp only [biD, intsOf_map]
theorem mixNat (c p m : Int) (h : 0 < m) : ∃ n : Nat, mixN c p m = n ∧ (n : Int) < m := ⟨(mixN c p m).toNat, by have := mixN_ge c p m h; omega, by have := mixN_ge c p m h; have := mixN_lt c p m h; omega⟩
/-! ### stretches exchanged -/
theorem take_ex {α : Type} (xs ys : List α) (a b : Nat) (ha : a ≤ xs.length) : (xs.take a ++ ys ++ xs.drop b).take a = xs.take a := by
  rw [List.append_assoc]
  exact List.take_left' (by simp; omega)
theorem drop_ex {α : Type} (xs ys : List α) (a b : Nat) (ha : a ≤ xs.length) : (xs.take a ++ ys ++ xs.drop b).drop (a + ys.length) = xs.drop b :=
  List.drop_left' (by simp; omega)
theorem take_drop_mid {α : Type} (xs : List α) (a b : Nat) (h : a ≤ b) : xs.take a ++ (xs.drop a).take (b - a) = xs.take b := by
  rw [show b = a + (b - a) by omega, List.take_add]
  congr 2
  omega
end M

set_option linter.all false
set_option maxRecDepth 100000
set_option maxHeartbeats 1000000
namespace M
open PySem
/-! ### maps behind one another -/
def thr (rows : List (List Ld)) : Ld → Ld
  | none => none
  | some (s, a) => match rows[s.toNat]? with
    | none => none
    | some r => (r[a.toNat]?).join
theorem thr_ok {rows : List (List Ld)} (h : ∀ r ∈ rows, ∀ l ∈ r, okL l) (l : Ld) : okL (thr rows l) := by
  cases l with
  | none => trivial
  | some p =>
    obtain ⟨s, a⟩ := p
    simp only [thr]
    cases hr : rows[s.toNat]? with
    | none => trivial
    | some r =>
      simp only
      cases ha : r[a.toNat]? with
      | none => trivial
      | some l => exact h r (List.mem_of_getElem? hr) l (List.mem_of_getElem? ha)
theorem c_through (k : Nat) (rows : List (List Ld)) (l : Ld) (hl : okL l) : call T (k+1) f_through [dL l, .list (rows.map dLs)] = .ok (dL (thr rows l)) := by
  rw [call_eq T_through rfl]
  cases l with
  | none => simp [d_through, b_through, thr]
  | some p =>
    obtain ⟨s, a⟩ := p
    obtain ⟨h1, h2, h3, h4⟩ := hl
    obtain ⟨s, rfl⟩ : ∃ n : Nat, s = n := ⟨s.toNat, by omega⟩
    obtain ⟨a, rfl⟩ : ∃ n : Nat, a = n := ⟨a.toNat, by omega⟩
    cases hr : rows[s]? with
    | none =>
      have hl := List.getElem?_eq_none_iff.mp hr
      have hli : (rows.length : Int) ≤ (s : Int) := by omega
      simp [d_through, b_through, thr, hr, hl]
    | some r =>
      have hl := (List.getElem?_eq_some_iff.mp hr).1
      have hli : ¬ (rows.length ≤ s) := by omega
      have hat : L2.atI (rows.map dLs) (s : Int) = some (dLs r) := atI_get (by omega) (by simp [hr])
      cases ha : r[a]? with
      | none =>
        have hl2 := List.getElem?_eq_none_iff.mp ha
        simp [d_through, b_through, thr, hr, hli, hat, len_dLs, ha, hl2]
      | some x =>
        have hl2 := (List.getElem?_eq_some_iff.mp ha).1
        have hli2 : ¬ (r.length ≤ a) := by omega
        simp [d_through, b_through, thr, hr, hli, hat, len_dLs, ha, hli2, idx_dLs r a x ha]
/-- maps, and where they lead -/
def MapsD (ps : List (D × List Ld)) : Prop := ∀ p ∈ ps, MapD p.1 p.2
theorem comp_maps (k : Nat) (ps : List (D × List Ld)) (h : MapsD ps) (bads : List D) (hb : ∀ d ∈ bads, call T (k+3) f_is_map [d] = .ok (.bool false)) (hl : ps.length + bads.length ≤ 1000) (x y z w : Option W) :
    compB (call T (k+3)) (.var 3) (.name 3) (.some (.not (.call f_is_map (.cons (.var 3) .nil)))) [x, y, z, none, w] (ps.map (·.1) ++ bads) = .ok (.list bads) := by
  have e1 : ∀ (ps : List (D × List Ld)), MapsD ps → compF (fun d => compAt (call T (k+3)) (.var 3) (.some (.not (.call f_is_map (.cons (.var 3) .nil)))) (asgn (.name 3) d (wipeE [x, y, z, none, w] (Tg.name 3).slots))) (ps.map (·.1) ++ bads) = .ok bads := by
    intro ps
    induction ps with
    | nil =>
      intro _
      rw [List.map_nil, List.nil_append]
      have : ∀ (bads : List D), (∀ d ∈ bads, call T (k+3) f_is_map [d] = .ok (.bool false)) → compF (fun d => compAt (call T (k+3)) (.var 3) (.some (.not (.call f_is_map (.cons (.var 3) .nil)))) (asgn (.name 3) d (wipeE [x, y, z, none, w] (Tg.name 3).slots))) bads = .ok bads := by
        intro bads
        induction bads with
        | nil => intro _; rfl
        | cons b bs ih =>
          intro hb
          have h1 := hb b (by simp)
          rw [compF, ih fun d hd => hb d (by simp [hd])]
          simp [Tg.slots, wipeE, h1]
      exact this bads hb
    | cons p ps ih =>
      intro hm
      have h1 := m_is k (hm p (by simp))
      rw [List.map_cons, List.cons_append, compF, ih fun q hq => hm q (by simp [hq])]
      simp [Tg.slots, wipeE, h1]
  rw [compB, if_pos (by simp; omega), e1 ps h]
theorem c_behind (k : Nat) {d : D} {xs : List Ld} (m : MapD d xs) (ps : List (D × List Ld)) (h : MapsD ps) (hl : ps.length ≤ 1000) : call T (k+5) f_behind [d, .tuple (ps.map (·.1))] = .ok (lm (xs.map (thr (ps.map (·.2))))) := by
  rw [call_eq T_behind rfl]
  have c1 := comp_maps (k + 1) ps h [] (by simp) (by simpa using hl) (some (.val d)) (some (.val (.tuple (ps.map (·.1))))) none none
  rw [List.append_nil] at c1
  have c2 := compB_of (Φ := call T (k+4)) (x := .call f_leads_of (.cons (.var 3) .nil)) (t := .name 3) (c := .none) (env := [some (.val d), some (.val (.tuple (ps.map (·.1)))), none, none, none]) ps (·.1) (fun p => dLs p.2) (by simp; omega) fun p hp => by
    simp [Tg.slots, wipeE, m_lds _ (h p hp)]
  have c3 := compB_of (Φ := call T (k+4)) (x := .call f_through (.cons (.var 4) (.cons (.var 2) .nil))) (t := .name 4) (c := .none) (env := [some (.val d), some (.val (.tuple (ps.map (·.1)))), some (.val (.list (ps.map fun p => dLs p.2))), none, none]) xs dL (fun l => dL (thr (ps.map (·.2)) l)) (by have := m.len; simp; omega) fun l hl => by
    have t := c_through (k + 3) (ps.map (·.2)) l (m.ok l hl)
    rw [List.map_map] at t
    have t' : call T (k + 4) f_through [dL l, .list (ps.map fun p => dLs p.2)] = .ok (dL (thr (ps.map (·.2)) l)) := t
    simp [Tg.slots, wipeE, t']
  have c4 := m_of' (k + 2) (xs := xs.map (thr (ps.map (·.2)))) (l := xs.map fun l => dL (thr (ps.map (·.2)) l)) (by rw [List.map_map]; rfl) (by rw [List.length_map]; exact m.len)
  have sq : seqD (dLs xs) = .ok (xs.map dL) := rfl
  simp [d_behind, b_behind, m_chk _ m, c1, c2, m_lds _ m, sq, c3, c4]
theorem c_behind_no (k : Nat) {d : D} {xs : List Ld} (m : MapD d xs) (e : D) (h : isT .tuple e = .ok false) : call T (k+5) f_behind [d, e] = .exc 0 := by
  rw [call_eq T_behind rfl]
  simp [d_behind, b_behind, m_chk _ m, h]
theorem c_behind_bad (k : Nat) {d : D} {xs : List Ld} (m : MapD d xs) (ps : List (D × List Ld)) (h : MapsD ps) (hl : ps.length ≤ 900) (b : D) (hb : call T (k+4) f_is_map [b] = .ok (.bool false)) : call T (k+5) f_behind [d, .tuple (ps.map (·.1) ++ [b])] = .exc 0 := by
  rw [call_eq T_behind rfl]
  have c1 := comp_maps (k + 1) ps h [b] (by simpa using hb) (by simp; omega) (some (.val d)) (some (.val (.tuple (ps.map (·.1) ++ [b])))) none none
  simp [d_behind, b_behind, m_chk _ m, c1]
/-! ### low leads -/
def lowL : Ld → Ld
  | none => none
  | some (s, a) => some (s % 4, a % 30)
theorem c_law_low (k : Nat) {sd : D} {ns : List Int} (sc : Scr sd ns) (i : Int) (hi : 0 ≤ i) : ∃ xs : List Ld, call T (k+3) f_law_low [sd, .int i] = .ok (dLs xs) ∧ xs.length ≤ 40 ∧ ∀ l ∈ xs, okL l ∧ ∀ s a, l = some (s, a) → s < 4 ∧ a < 30 := by
  rw [call_eq T_law_low rfl]
  obtain ⟨ys, e1, e2, e3⟩ := c_law_leads k (seedN (cell ns i) i) 40 (seedN_ge _ _) (by decide) (by decide)
  have e2 : ys.length ≤ 40 := e2
  refine ⟨ys.map lowL, ?_, by simpa using e2, ?_⟩
  · have sq : seqN (dLs ys) = .ok (ys.map dL) := rfl
    simp [d_law_low, b_law_low, sc _ _ hi, c_seed, e1, sq]
    refine endR_for (fun j env => ∃ x y, env = [some (.val sd), some (.val (.int i)), some (.own (((ys.take j).map lowL).map dL)), x, y]) ⟨none, none, rfl⟩ ?_ ?_
    · rintro j d env hd ⟨x, y, rfl⟩
      obtain ⟨c, hc, rfl⟩ := enum_get hd
      rw [List.getElem?_map] at hc
      cases hj : ys[j]? with
      | none => rw [hj] at hc; cases hc
      | some l =>
        rw [hj] at hc
        cases hc
        have hjl := (List.getElem?_eq_some_iff.mp hj).1
        have hlt : (((ys.take j).map lowL).map dL).length < 100000 := by simp; omega
        refine ⟨[some (.val sd), some (.val (.int i)), some (.own (((ys.take (j + 1)).map lowL).map dL)), some (.val (.int j)), some (.val (dL l))], ?_, _, _, rfl⟩
        rw [List.take_add_one, hj]
        obtain ⟨F, hF⟩ : ∃ F, ((ys.take j).map lowL).map dL = F := ⟨_, rfl⟩
        simp only [Option.toList_some, List.map_append, List.map_cons, List.map_nil]
        rw [hF] at hlt ⊢
        cases l with
        | none => simp [hlt, lowL]
        | some p => obtain ⟨s, a⟩ := p; simp [hlt, lowL]
    · rintro env' ⟨x, y, rfl⟩
      have e : ys.take (enumD (ys.map dL)).length = ys := by simp [enumD]
      rw [e]
      simp [dLs]
  · intro l hl
    obtain ⟨m, hm, rfl⟩ := List.mem_map.mp hl
    have := e3 m hm
    cases m with
    | none => exact ⟨trivial, fun s a h => by cases h⟩
    | some p =>
      obtain ⟨s, a⟩ := p
      refine ⟨okL_bound (by omega), fun s' a' h => ?_⟩
      simp [lowL] at h
      omega
end M

set_option linter.all false
set_option maxRecDepth 100000
set_option maxHeartbeats 1000000
namespace M
open PySem
/-! ### the least map has the fewest stretches -/
theorem addR_len (R : List Seg) (y : Ld) : (addR R y).length ≤ R.length + 1 := by
  cases R with
  | nil => simp [addR]
  | cons x r => simp only [addR]; cases goesS x y <;> simp
theorem tune_non (m : Nat) (R : List Seg) (n : Nat) : ((List.replicate n (none : Ld)).foldl addR ((m, .non) :: R)).length = R.length + 1 := by
  induction n generalizing m with
  | zero => rfl
  | succ n ih => rw [List.replicate_succ, List.foldl_cons]; exact ih (m + 1)
theorem tune_pt (s a : Int) (m : Nat) (R : List Seg) (n : Nat) : ((List.replicate n (some (s, a) : Ld)).foldl addR ((m, .pt s a) :: R)).length = R.length + 1 := by
  induction n generalizing m with
  | zero => rfl
  | succ n ih =>
    rw [List.replicate_succ, List.foldl_cons]
    have e : addR ((m, .pt s a) :: R) (some (s, a)) = (m + 1, .pt s a) :: R := by simp [addR, goesS]
    rw [e]; exact ih (m + 1)
theorem tune_one (s a : Int) (R : List Seg) (n : Nat) : ((List.replicate n (some (s, a) : Ld)).foldl addR ((1, .al s a) :: R)).length = R.length + 1 := by
  cases n with
  | zero => rfl
  | succ n =>
    rw [List.replicate_succ, List.foldl_cons]
    have e : addR ((1, .al s a) :: R) (some (s, a)) = (2, .pt s a) :: R := by simp [addR, goesS]
    rw [e]; exact tune_pt s a 2 R n
def alL (s a : Int) (n : Nat) : List Ld := (List.range n).map fun (k : Nat) => some (s, a + (k : Int))
theorem alL_succ (s a : Int) (n : Nat) : alL s a (n + 1) = some (s, a) :: alL s (a + 1) n := by
  simp only [alL, List.range_succ_eq_map, List.map_cons, List.map_map]
  congr 1
  · simp
  · apply List.map_congr_left
    intro k _
    simp
    omega
theorem tune_al (s b : Int) (m : Nat) (h : 1 ≤ m) (R : List Seg) (n : Nat) : ((alL s (b + m) n).foldl addR ((m, .al s b) :: R)).length = R.length + 1 := by
  induction n generalizing m with
  | zero => rfl
  | succ n ih =>
    rw [alL_succ, List.foldl_cons]
    have hne : ¬ (b + (m : Int) = b) := by omega
    have e : addR ((m, .al s b) :: R) (some (s, b + m)) = (m + 1, .al s b) :: R := by simp [addR, goesS, hne]
    have e2 : b + (m : Int) + 1 = b + ((m + 1 : Nat) : Int) := by omega
    rw [e, e2]; exact ih (m + 1) (by omega)
theorem seg_non (R : List Seg) (n : Nat) : ((List.replicate n (none : Ld)).foldl addR R).length ≤ R.length + 1 := by
  cases n with
  | zero => simp
  | succ n =>
    rw [List.replicate_succ, List.foldl_cons]
    cases R with
    | nil => exact Nat.le_of_eq (tune_non 1 [] n)
    | cons x r =>
      obtain ⟨m, o⟩ := x
      cases o with
      | non => have := tune_non (m + 1) r n; simp [addR, goesS, this]
      | al s a => exact Nat.le_of_eq (tune_non 1 ((m, .al s a) :: r) n)
      | pt s a => exact Nat.le_of_eq (tune_non 1 ((m, .pt s a) :: r) n)
theorem seg_pt (s a : Int) (R : List Seg) (hR : ∀ x ∈ R, 1 ≤ x.1) (n : Nat) : ((List.replicate n (some (s, a) : Ld)).foldl addR R).length ≤ R.length + 1 := by
  cases n with
  | zero => simp
  | succ n =>
    rw [List.replicate_succ, List.foldl_cons]
    cases R with
    | nil => exact Nat.le_of_eq (tune_one s a [] n)
    | cons x r =>
      obtain ⟨m, o⟩ := x
      have hm : 1 ≤ m := hR (m, o) (by simp)
      cases hg : goesS (m, o) (some (s, a)) with
      | none =>
        have e : addR ((m, o) :: r) (some (s, a)) = (1, .al s a) :: (m, o) :: r := by simp [addR, hg, oneO]
        rw [e]
        exact Nat.le_of_eq (tune_one s a _ n)
      | some z =>
        have e : addR ((m, o) :: r) (some (s, a)) = z :: r := by simp [addR, hg]
        rw [e]
        cases o with
        | non => cases hg
        | pt s' a' =>
          simp only [goesS] at hg
          split at hg
          · rename_i q; obtain ⟨rfl, rfl⟩ := q; cases hg
            have := tune_pt s a (m + 1) r n
            simp [this]
          · cases hg
        | al s' a' =>
          simp only [goesS] at hg
          split at hg
          · rename_i q; obtain ⟨rfl, rfl, rfl⟩ := q; cases hg
            have := tune_pt s a 2 r n
            simp [this]
          · split at hg
            · rename_i q1 q; obtain ⟨rfl, rfl⟩ := q; cases hg
              cases n with
              | zero => simp
              | succ n =>
                rw [List.replicate_succ, List.foldl_cons]
                have hne : ¬ (m = 0) := by omega
                have e2 : addR ((m + 1, .al s a') :: r) (some (s, a' + (m : Int))) = (1, .al s (a' + m)) :: (m + 1, .al s a') :: r := by
                  have h1 : ¬ (m + 1 = 1) := by omega
                  have h2 : ¬ (a' + (m : Int) = a' + ((m + 1 : Nat) : Int)) := by omega
                  have hg : goesS (m + 1, .al s a') (some (s, a' + (m : Int))) = none := by
                    simp only [goesS]
                    rw [if_neg fun q => h1 q.1, if_neg fun q => h2 q.2]
                  simp [addR, hg, oneO]
                rw [e2]
                exact Nat.le_of_eq (tune_one s _ _ n)
            · cases hg
theorem seg_al (s a : Int) (R : List Seg) (hR : ∀ x ∈ R, 1 ≤ x.1) (n : Nat) : ((alL s a n).foldl addR R).length ≤ R.length + 1 := by
  have fresh : ∀ (R : List Seg) (n : Nat) (a : Int), ((alL s (a + 1) n).foldl addR ((1, .al s a) :: R)).length = R.length + 1 := fun R n a => tune_al s a 1 (Nat.le_refl _) R n
  cases n with
  | zero => simp [alL]
  | succ n =>
    rw [alL_succ, List.foldl_cons]
    cases R with
    | nil => exact Nat.le_of_eq (fresh [] n a)
    | cons x r =>
      obtain ⟨m, o⟩ := x
      have hm : 1 ≤ m := hR (m, o) (by simp)
      cases hg : goesS (m, o) (some (s, a)) with
      | none =>
        have e : addR ((m, o) :: r) (some (s, a)) = (1, .al s a) :: (m, o) :: r := by simp [addR, hg, oneO]
        rw [e]
        exact Nat.le_of_eq (fresh _ n a)
      | some z =>
        have e : addR ((m, o) :: r) (some (s, a)) = z :: r := by simp [addR, hg]
        rw [e]
        -- a point goes on: the next sign stands apart
        have apart : ∀ k : Nat, ((alL s (a + 1) n).foldl addR ((k, .pt s a) :: r)).length ≤ r.length + 1 + 1 := by
          intro k
          cases n with
          | zero => simp [alL]
          | succ n =>
            rw [alL_succ, List.foldl_cons]
            have hne : ¬ (a + 1 = a) := by omega
            have e2 : addR ((k, .pt s a) :: r) (some (s, a + 1)) = (1, .al s (a + 1)) :: (k, .pt s a) :: r := by simp [addR, goesS, hne, oneO]
            rw [e2]
            exact Nat.le_of_eq (fresh _ n (a + 1))
        cases o with
        | non => cases hg
        | pt s' a' =>
          simp only [goesS] at hg
          split at hg
          · rename_i q; obtain ⟨rfl, rfl⟩ := q; cases hg
            exact apart (m + 1)
          · cases hg
        | al s' a' =>
          simp only [goesS] at hg
          split at hg
          · rename_i q; obtain ⟨rfl, rfl, rfl⟩ := q; cases hg
            exact apart 2
          · split at hg
            · rename_i q1 q; obtain ⟨rfl, rfl⟩ := q; cases hg
              have := tune_al s a' (m + 1) (by omega) r n
              have e3 : a' + (m : Int) + 1 = a' + ((m + 1 : Nat) : Int) := by omega
              rw [e3, this]
              simp
            · cases hg
theorem fold_pos : ∀ (xs : List Ld) (R : List Seg), (∀ x ∈ R, 1 ≤ x.1) → ∀ x ∈ xs.foldl addR R, 1 ≤ x.1
  | [], R, h => h
  | y :: ys, R, h => by
    rw [List.foldl_cons]
    refine fold_pos ys _ ?_
    cases R with
    | nil => intro x hx; simp [addR] at hx; rw [hx]; exact Nat.le_refl _
    | cons z r =>
      intro x hx
      simp only [addR] at hx
      cases hg : goesS z y with
      | none =>
        rw [hg] at hx
        rcases List.mem_cons.mp hx with q | q
        · rw [q]; exact Nat.le_refl _
        · exact h x q
      | some w =>
        rw [hg] at hx
        rcases List.mem_cons.mp hx with q | q
        · have := (goesS_ok (h z (by simp)) hg).1
          rw [q]; omega
        · exact h x (by simp [q])
theorem fold_segs : ∀ (p : List Seg) (R : List Seg), (∀ x ∈ R, 1 ≤ x.1) → ((ldsS p).foldl addR R).length ≤ R.length + p.length
  | [], R, _ => Nat.le_refl _
  | (n, o) :: r, R, h => by
    rw [ldsS, List.foldl_append]
    have h1 : (((List.range n).map (ledO o)).foldl addR R).length ≤ R.length + 1 := by
      cases o with
      | non =>
        have e : (List.range n).map (ledO .non) = List.replicate n none := by
          rw [List.eq_replicate_iff]; exact ⟨by simp, fun x hx => by obtain ⟨k, _, rfl⟩ := List.mem_map.mp hx; rfl⟩
        rw [e]; exact seg_non R n
      | al s a => exact seg_al s a R h n
      | pt s a =>
        have e : (List.range n).map (ledO (.pt s a)) = List.replicate n (some (s, a)) := by
          rw [List.eq_replicate_iff]; exact ⟨by simp, fun x hx => by obtain ⟨k, _, rfl⟩ := List.mem_map.mp hx; rfl⟩
        rw [e]; exact seg_pt s a R h n
    have h2 := fold_segs r _ (fold_pos ((List.range n).map (ledO o)) R h)
    simp only [List.length_cons]
    omega
theorem least_fewest (p : List Seg) : (leastS (ldsS p)).length ≤ p.length := by
  have := fold_segs p [] (by simp)
  simpa [leastS, leastR] using this
/-! ### least maps tell apart -/
theorem lm_eq {xs ys : List Ld} (hx : ∀ l ∈ xs, okL l) (hy : ∀ l ∈ ys, okL l) (lx : xs.length ≤ 1000) (ly : ys.length ≤ 1000) (h : lm xs = lm ys) : xs = ys := by
  have a := m_lds 0 (mapD_lm hx lx)
  have b := m_lds 0 (mapD_lm hy ly)
  rw [h, b] at a
  exact (dLs_inj (by injection a)).symm
theorem pd_lm (xs : List Ld) : pd (lm xs) := pd_dM _
theorem eqD_lms {xs ys : List Ld} (hx : ∀ l ∈ xs, okL l) (hy : ∀ l ∈ ys, okL l) (lx : xs.length ≤ 1000) (ly : ys.length ≤ 1000) : eqD (lm xs) (lm ys) = .ok (decide (xs = ys)) := by
  by_cases h : xs = ys
  · subst h; rw [eqD_lm]; simp
  · rw [eqD_ne (pd_lm xs) (pd_lm ys) fun q => h (lm_eq hx hy lx ly q)]; simp [h]
theorem eqD_dLss (xs ys : List Ld) : eqD (dLs xs) (dLs ys) = .ok (decide (xs = ys)) := by
  by_cases h : xs = ys
  · subst h; rw [eqD_dLs]; simp
  · rw [eqD_ne (pd_dLs xs) (pd_dLs ys) fun q => h (dLs_inj q)]; simp [h]
@[simp] theorem eqBB (a b : Bool) : eqD (.bool a) (.bool b) = .ok (a == b) := by
  have e : ∀ i : Bool, SeqAt.shaped (.bool i) = true := fun i => by simp [SeqAt.shaped, PyData.canLay0, PyData.depth]
  unfold eqD
  rw [e, e]
  simp only [Bool.and_self, if_true, PyData.eqv]
end M

set_option linter.all false
set_option maxRecDepth 100000
set_option maxHeartbeats 1000000
namespace M
open PySem TL
/-! ### numbers as texts: pure -/
def sgL : List Nat := [65, 66, 67, 68, 69, 70, 71, 72, 73, 74, 75, 76, 77, 78, 79, 80, 81, 82, 83, 84, 85, 86, 87, 88, 89, 90, 97, 98, 99, 100, 101, 102, 103, 104, 105, 106, 107, 108, 109, 110, 111, 112, 113, 114, 115, 116, 117, 118, 119, 120, 121, 122, 48, 49, 50, 51, 52, 53, 54, 55, 56, 57, 43, 47]
theorem sgS : ("ABCDEFGHIJKLMNOPQRSTUVWXYZabcdefghijklmnopqrstuvwxyz0123456789+/" : Str) = mkS sgL := by decide +kernel
def sg (v : Nat) : Nat := sgL.getD v 0
/-- a sign's worth -/
def vl (c : Nat) : Option Nat := sgL.findIdx? (· == c)
theorem vl_sg : ∀ v, v < 64 → vl (sg v) = some v := by decide +kernel
theorem vl_some {c v : Nat} (h : vl c = some v) : v < 64 ∧ sg v = c := by
  unfold vl at h
  rw [List.findIdx?_eq_some_iff_getElem] at h
  obtain ⟨h1, h2, _⟩ := h
  refine ⟨h1, ?_⟩
  unfold sg
  rw [List.getD_eq_getElem?_getD, List.getElem?_eq_getElem h1]
  simpa using h2
theorem find_sg (c : Nat) : Txt.find (mkS sgL) (mkS [c]) = match vl c with | some v => (v : Int) | none => -1 := by
  have at_ : ∀ k, StrLaws.At (mkS sgL) (mkS [c]) (mkS sgL).length k ↔ sgL[k]? = some c := fun k => StrLaws.subAt_one (mkS sgL) c k
  cases hv : vl c with
  | none =>
    unfold vl at hv
    rw [List.findIdx?_eq_none_iff] at hv
    rcases PyProof.Rows.find_whole (mkS sgL) (mkS [c]) with ⟨h1, _⟩ | ⟨i, _, h2, _⟩
    · exact h1
    · have := List.mem_of_getElem? ((at_ i).mp h2)
      have := hv c this
      simp at this
  | some v =>
    unfold vl at hv
    rw [List.findIdx?_eq_some_iff_getElem] at hv
    obtain ⟨h1, h2, h3⟩ := hv
    have h2 : sgL[v] = c := by simpa using h2
    have hat : sgL[v]? = some c := by rw [List.getElem?_eq_getElem h1, h2]
    rcases PyProof.Rows.find_whole (mkS sgL) (mkS [c]) with ⟨_, q⟩ | ⟨i, e, q1, q2⟩
    · exact absurd ((at_ v).mpr hat) (q v)
    · rw [e]
      have a1 : ¬ v < i := fun q => q2 v q ((at_ v).mpr hat)
      have a2 : ¬ i < v := fun q => by
        have hi := (at_ i).mp q1
        have hil := (List.getElem?_eq_some_iff.mp hi).1
        have := h3 i q
        have hi2 : sgL[i] = c := (List.getElem?_eq_some_iff.mp hi).2
        simp [hi2] at this
      have : i = v := by omega
      simp [this]
/-- a number's groups -/
def encN (n : Nat) : List Nat := if h : 31 < n then (32 + n % 32) :: encN (n / 32) else [n]
termination_by n
decreasing_by omega
def num : List Nat → Nat
  | [] => 0
  | v :: r => v % 32 + 32 * num r
/-- groups that end as they should -/
def wellV : List Nat → Bool
  | [] => false
  | [v] => decide (v < 32)
  | v :: r => decide (32 ≤ v) && (decide (v < 64) && wellV r)
def lastV (vs : List Nat) : Nat := vs.getLastD 0
theorem encN_well (n : Nat) : wellV (encN n) = true ∧ num (encN n) = n ∧ (1 < (encN n).length → lastV (encN n) ≠ 0) := by
  induction n using Nat.strongRecOn with
  | _ n ih =>
    rw [encN]
    split
    · rename_i h
      obtain ⟨h1, h2, h3⟩ := ih (n / 32) (by omega)
      cases he : encN (n / 32) with
      | nil => rw [he] at h1; cases h1
      | cons w r =>
        rw [he] at h1 h2 h3
        refine ⟨?_, ?_, fun _ => ?_⟩
        · simp only [wellV, h1, Bool.and_true, Bool.and_eq_true, decide_eq_true_eq]; omega
        · simp only [num] at h2 ⊢
          rw [h2]
          omega
        · cases r with
          | nil =>
            have hw : w = n / 32 % 32 ∨ True := .inr trivial
            simp only [lastV, List.getLastD_cons, List.getLastD_nil]
            simp only [num] at h2
            simp only [wellV, decide_eq_true_eq] at h1
            simp [lastV]
            omega
          | cons x r' =>
            have := h3 (by simp)
            simpa [lastV] using this
    · rename_i h
      exact ⟨by simp [wellV]; omega, by simp [num]; omega, fun q => by simp at q⟩
theorem encN_num : ∀ (vs : List Nat), wellV vs = true → (1 < vs.length → lastV vs ≠ 0) → encN (num vs) = vs
  | [], h, _ => by cases h
  | [v], h, _ => by
    simp only [wellV, decide_eq_true_eq] at h
    rw [encN]
    have : num [v] = v := by simp [num]; omega
    rw [this, dif_neg (by omega)]
  | v :: w :: r, h, hl => by
    simp only [wellV, Bool.and_eq_true, decide_eq_true_eq] at h
    obtain ⟨h1, h2, h3⟩ := h
    have ih := encN_num (w :: r) h3 (fun q => by have := hl (by simp); simpa [lastV] using this)
    have hpos : num (w :: r) ≠ 0 := by
      intro e
      rw [e] at ih
      rw [encN, dif_neg (by omega)] at ih
      have hlast := hl (by simp)
      rw [← ih] at hlast
      simp [lastV] at hlast
    rw [encN]
    have e1 : num (v :: w :: r) = v % 32 + 32 * num (w :: r) := rfl
    rw [e1, dif_pos (by omega)]
    have e2 : (v % 32 + 32 * num (w :: r)) / 32 = num (w :: r) := by omega
    have e3 : 32 + (v % 32 + 32 * num (w :: r)) % 32 = v := by omega
    rw [e2, e3, ih]
end M

set_option linter.all false
set_option maxRecDepth 100000
set_option maxHeartbeats 1000000
namespace M
open PySem TL
theorem mkS_app (a b : List Nat) : mkS a ++ mkS b = mkS (a ++ b) := by
  apply ext_tl
  rw [tl_append]
theorem encN_len (n : Nat) : (encN n).length ≤ 1 + n / 32 := by
  induction n using Nat.strongRecOn with
  | _ n ih =>
    rw [encN]
    split
    · rename_i h
      have := ih (n / 32) (by omega)
      simp only [List.length_cons]
      omega
    · simp
theorem at_sg (v : Nat) (h : v < 64) : L2.atI sgL (v : Int) = some (sg v) := by
  have hl : sgL.length = 64 := rfl
  refine atI_get (by omega) ?_
  unfold sg
  rw [List.getD_eq_getElem?_getD, Int.toNat_natCast, List.getElem?_eq_getElem (by omega)]
  rfl
theorem emptyS : ("" : Str) = mkS [] := by decide +kernel
theorem c_code_of (k n : Nat) (h : n ≤ 1000000) : call T (k+1) f_code_of [.int n] = .ok (.str (mkS ((encN n).map sg))) := by
  rw [call_eq T_code_of rfl]
  have hl : sgL.length = 64 := rfl
  have hlen := encN_len n
  simp [d_code_of, b_code_of, sgS, emptyS]
  refine endR_whl (fun j env => ∃ (m : Nat) (acc : List Nat), j = (encN m).length ∧ acc ++ (encN m).map sg = (encN n).map sg ∧ env = [some (.val (.int m)), some (.val (.str (mkS acc)))])
    (fun env => ∃ (m : Nat) (acc : List Nat), m ≤ 31 ∧ acc ++ (encN m).map sg = (encN n).map sg ∧ env = [some (.val (.int m)), some (.val (.str (mkS acc)))]) (encN n).length (by omega) ⟨n, [], rfl, rfl, rfl⟩ ?_ ?_
  · rintro j env ⟨m, acc, rfl, ha, rfl⟩
    have hlm := congrArg List.length ha
    simp only [List.length_append, List.length_map] at hlm
    by_cases hm : 31 < m
    · right
      have hmi : (31 : Int) < (m : Int) := by omega
      have eE : encN m = (32 + m % 32) :: encN (m / 32) := by rw [encN, dif_pos hm]
      obtain ⟨u, hu⟩ : ∃ u : Nat, 32 + m % 32 = u := ⟨_, rfl⟩
      rw [hu] at eE
      have e1 : (32 : Int) + (m : Int) % 32 = (u : Int) := by omega
      have e2 := at_sg u (by omega)
      have e3 : (m : Int) / 32 = ((m / 32 : Nat) : Int) := by omega
      obtain ⟨w, hw⟩ : ∃ w : Nat, m / 32 = w := ⟨_, rfl⟩
      rw [hw] at e3 eE
      have hacc : acc.length + 1 ≤ 100000 := by rw [eE] at hlm; simp at hlm; omega
      refine ⟨by simp [hmi], [some (.val (.int w)), some (.val (.str (mkS (acc ++ [sg u]))))], (encN w).length, ?_, by rw [eE]; simp, w, acc ++ [sg u], rfl, ?_, rfl⟩
      · simp [e1, e2, e3, hl, hacc, mkS_app]
      · rw [← ha, eE]
        simp
    · left
      have hmi : ¬ (31 : Int) < (m : Int) := by omega
      exact ⟨by simp [hmi], m, acc, by omega, ha, rfl⟩
  · rintro env' ⟨m, acc, hm, ha, rfl⟩
    have e2 := at_sg m (by omega)
    have eE : encN m = [m] := by rw [encN, dif_neg (by omega)]
    rw [eE] at ha
    have hlm := congrArg List.length ha
    simp only [List.length_append, List.length_map, List.length_singleton] at hlm
    have hacc : acc.length + 1 ≤ 100000 := by omega
    simp [e2, hl, hacc, mkS_app]
    simpa using ha
end M

set_option linter.all false
set_option maxRecDepth 100000
set_option maxHeartbeats 1000000
namespace M
open PySem TL
/-! ### texts as data, words -/
abbrev dT (cs : List Nat) : D := .str (mkS cs)
theorem eq_word {x y : Str} (hx : PyData.strOk x = true) (hy : PyData.strOk y = true) : eqD (.str x) (.str y) = .ok (decide (x = y)) := by
  by_cases h : x = y
  · subst h; rw [eqD_self (pd_s hx)]; simp
  · rw [eqD_ne (pd_s hx) (pd_s hy) fun e => h (by injection e)]; simp [h]
@[simp] theorem eqPutPut : eqD (.str "put") (.str "put") = .ok true := eqD_self (pd_s (by decide +kernel))
@[simp] theorem eqPutCopy : eqD (.str "put") (.str "copy") = .ok false := by rw [eq_word (by decide +kernel) (by decide +kernel)]; congr 1
@[simp] theorem eqPutStand : eqD (.str "put") (.str "stand") = .ok false := by rw [eq_word (by decide +kernel) (by decide +kernel)]; congr 1
@[simp] theorem eqCopyPut : eqD (.str "copy") (.str "put") = .ok false := by rw [eq_word (by decide +kernel) (by decide +kernel)]; congr 1
@[simp] theorem eqCopyCopy : eqD (.str "copy") (.str "copy") = .ok true := eqD_self (pd_s (by decide +kernel))
@[simp] theorem eqCopyStand : eqD (.str "copy") (.str "stand") = .ok false := by rw [eq_word (by decide +kernel) (by decide +kernel)]; congr 1
@[simp] theorem eqStandPut : eqD (.str "stand") (.str "put") = .ok false := by rw [eq_word (by decide +kernel) (by decide +kernel)]; congr 1
@[simp] theorem eqStandCopy : eqD (.str "stand") (.str "copy") = .ok false := by rw [eq_word (by decide +kernel) (by decide +kernel)]; congr 1
@[simp] theorem eqStandStand : eqD (.str "stand") (.str "stand") = .ok true := eqD_self (pd_s (by decide +kernel))
/-! ### deeds -/
inductive Deed where
  | put (cs : List Nat) | stand (cs : List Nat) (s a : Int) | copy (s b e : Nat)
def dDeed : Deed → D
  | .put cs => .tuple [.str "put", dT cs]
  | .stand cs s a => .tuple [.str "stand", dT cs, .int s, .int a]
  | .copy s b e => .tuple [.str "copy", .int (s : Int), .int (b : Int), .int (e : Int)]
def dSrc (ss : List (List Nat)) : D := .tuple (ss.map dT)
def okDeed (ss : List (List Nat)) : Deed → Prop
  | .put cs => cs.length ≤ 1000
  | .stand cs s a => cs.length ≤ 1000 ∧ 0 ≤ s ∧ s ≤ 9 ∧ 0 ≤ a ∧ a ≤ 9999
  | .copy s b e => ∃ t, ss[s]? = some t ∧ b ≤ e ∧ e ≤ t.length
def okSrc (ss : List (List Nat)) : Prop := ss.length ≤ 10 ∧ ∀ t ∈ ss, t.length ≤ 1000
def txD (ss : List (List Nat)) : Deed → List Nat
  | .put cs => cs
  | .stand cs _ _ => cs
  | .copy s b e => ((ss.getD s []).drop b).take (e - b)
def ldD : Deed → List Nat → List Ld
  | .put cs, _ => List.replicate cs.length none
  | .stand cs s a, _ => List.replicate cs.length (some (s, a))
  | .copy s b e, _ => (List.range (e - b)).map fun (k : Nat) => some ((s : Int), (b : Int) + (k : Int))
theorem at_src {ss : List (List Nat)} {s : Nat} {t : List Nat} (h : ss[s]? = some t) : L2.atI (ss.map dT) (s : Int) = some (dT t) := atI_get (by omega) (by simp [h])
theorem c_is_deed (k : Nat) (ss : List (List Nat)) (hs : okSrc ss) (d : Deed) (h : okDeed ss d) : call T (k+2) f_is_deed [dDeed d, dSrc ss] = .ok (.bool true) := by
  rw [call_eq T_is_deed rfl]
  cases d with
  | put cs => simp [d_is_deed, b_is_deed, dDeed, c_is_text _ cs h]
  | stand cs s a =>
    obtain ⟨h0, h1, h2, h3, h4⟩ := h
    simp [d_is_deed, b_is_deed, dDeed, c_is_text _ cs h0, c_is_within, isWithin, h1, h2, h3, h4]
  | copy s b e =>
    obtain ⟨t, h1, h2, h3⟩ := h
    have hsl := (List.getElem?_eq_some_iff.mp h1).1
    have ht := hs.2 t (List.mem_of_getElem? h1)
    have a1 : (s : Int) ≤ (ss.length : Int) - 1 := by omega
    have a2 : b ≤ t.length := by omega
    have a3 : t.length ≤ 100000 := by omega
    simp [d_is_deed, b_is_deed, dDeed, dSrc, c_is_within, isWithin, a1, at_src h1, a2, a3, h2, h3]
end M

set_option linter.all false
set_option maxRecDepth 100000
set_option maxHeartbeats 1000000
namespace M
open PySem TL
def ldsD : Deed → List Ld
  | .put cs => List.replicate cs.length none
  | .stand cs s a => List.replicate cs.length (some (s, a))
  | .copy s b e => (List.range (e - b)).map fun (k : Nat) => some ((s : Int), (b : Int) + (k : Int))
theorem ldsD_len (ss : List (List Nat)) (d : Deed) (h : okDeed ss d) : (ldsD d).length = (txD ss d).length := by
  cases d with
  | put cs => simp [ldsD, txD]
  | stand cs s a => simp [ldsD, txD]
  | copy s b e =>
    obtain ⟨t, h1, h2, h3⟩ := h
    have : ss.getD s [] = t := by rw [List.getD_eq_getElem?_getD, h1]; rfl
    simp only [ldsD, txD, this, List.length_map, List.length_range, List.length_take, List.length_drop]
    omega
theorem txD_len (ss : List (List Nat)) (hs : okSrc ss) (d : Deed) (h : okDeed ss d) : (txD ss d).length ≤ 1000 := by
  cases d with
  | put cs => exact h
  | stand cs s a => exact h.1
  | copy s b e =>
    obtain ⟨t, h1, h2, h3⟩ := h
    have : ss.getD s [] = t := by rw [List.getD_eq_getElem?_getD, h1]; rfl
    have ht := hs.2 t (List.mem_of_getElem? h1)
    simp only [txD, this, List.length_take, List.length_drop]
    omega
theorem ldsD_ok (ss : List (List Nat)) (hs : okSrc ss) (d : Deed) (h : okDeed ss d) : ∀ l ∈ ldsD d, okL l := by
  intro l hl
  cases d with
  | put cs => rw [(List.mem_replicate.mp hl).2]; trivial
  | stand cs s a =>
    obtain ⟨h0, h1, h2, h3, h4⟩ := h
    rw [(List.mem_replicate.mp hl).2]; exact okL_bound ⟨h1, h2, h3, h4⟩
  | copy s b e =>
    obtain ⟨t, h1, h2, h3⟩ := h
    have ht := hs.2 t (List.mem_of_getElem? h1)
    have hsl := (List.getElem?_eq_some_iff.mp h1).1
    have := hs.1
    obtain ⟨k, hk, rfl⟩ := List.mem_map.mp hl
    have hk : k < e - b := by simpa using hk
    exact okL_bound (by omega)
theorem c_piece_of (k : Nat) (ss : List (List Nat)) (hs : okSrc ss) (d : Deed) (h : okDeed ss d) : call T (k+1) f_piece_of [dDeed d, dSrc ss] = .ok (.tuple [dT (txD ss d), dLs (ldsD d)]) := by
  rw [call_eq T_piece_of rfl]
  cases d with
  | put cs =>
    have h : cs.length ≤ 1000 := h
    have a1 : cs.length ≤ 100000 := by omega
    have a2 : (cs.length : Int) < 9223372036854775808 := by omega
    have a3 : (-9223372036854775808 : Int) ≤ (cs.length : Int) := by omega
    simp [d_piece_of, b_piece_of, dDeed, a1, a2, a3, flat_rep, txD, ldsD, dLs]
  | stand cs s a =>
    have h := h.1
    have a1 : cs.length ≤ 100000 := by omega
    have a2 : (cs.length : Int) < 9223372036854775808 := by omega
    have a3 : (-9223372036854775808 : Int) ≤ (cs.length : Int) := by omega
    simp [d_piece_of, b_piece_of, dDeed, a1, a2, a3, flat_rep, txD, ldsD, dLs]
  | copy s b e =>
    obtain ⟨t, h1, h2, h3⟩ := h
    have ht := hs.2 t (List.mem_of_getElem? h1)
    have hg : ss.getD s [] = t := by rw [List.getD_eq_getElem?_getD, h1]; rfl
    have a1 : t.length ≤ 100000 := by omega
    have r := rng2_ok b e (by omega) (by omega)
    have c := compB_of (Φ := call T k) (x := .tup (.cons (.var 3) (.cons (.var 6) .nil))) (t := .name 6) (c := .none) (env := [some (.val (dDeed (.copy s b e))), some (.val (dSrc ss)), some (.val (.str "copy")), some (.val (.int s)), some (.val (.int b)), some (.val (.int e)), none]) (List.range (e - b)) (fun (j : Nat) => PyData.int ((b : Int) + (j : Int))) (fun (j : Nat) => dL (some ((s : Int), (b : Int) + (j : Int)))) (by simp; omega) fun j _ => by
      simp [Tg.slots, wipeE]
    have hcut := cutL_mid t b e h2 h3
    simp only [dDeed, dSrc] at c
    simp [d_piece_of, b_piece_of, dDeed, dSrc, at_src h1, a1, hcut, r, c]
    simp [txD, ldsD, dLs, h1]
theorem c_look_texts (k : Nat) (ss : List (List Nat)) (hs : okSrc ss) : call T (k+2) f_look_texts [dSrc ss] = .ok .none := by
  rw [call_eq T_look_texts rfl]
  have a1 : ¬ (10 : Int) < (ss.length : Int) := by have := hs.1; omega
  have c := compB_off (Φ := call T (k+1)) (x := .var 1) (t := .name 1) (c := .some (.not (.call f_is_text (.cons (.var 1) .nil)))) (env := [some (.val (dSrc ss)), none]) ss dT (fun _ => none) (by have := hs.1; simp; omega) fun t ht => by
    have := c_is_text k t (hs.2 t ht)
    simp [Tg.slots, wipeE, this]
  have e0 : ss.filterMap (fun _ => (none : Option D)) = [] := by simp
  rw [e0] at c
  simp only [dSrc] at c
  simp [d_look_texts, b_look_texts, dSrc, a1, c]
end M

set_option linter.all false
set_option maxRecDepth 100000
set_option maxHeartbeats 1000000
namespace M
open PySem TL
def txs (ss : List (List Nat)) (ds : List Deed) : List Nat := ds.flatMap (txD ss)
def ldss (ds : List Deed) : List Ld := ds.flatMap ldsD
def bMade : S := .asg (.t2 (.name 5) (.name 6)) (.call f_piece_of (.cons (.var 4) (.cons (.var 0) .nil))) (.asg (.name 2) (.bin .Add (.var 2) (.var 5)) (.asg (.name 3) (.bin .Add (.var 3) (.var 6)) (.ite (.cmp .Gt (.bi .len (.cons (.var 2) .nil)) (.cst "MOST_SIZE" (.int 1000))) (.rse 5 .nil) .nil .nil)))
theorem made_loop (k : Nat) (ss : List (List Nat)) (hs : okSrc ss) (a : D) : ∀ (ds : List Deed) (hd : ∀ d ∈ ds, okDeed ss d) (t : List Nat) (l : List Ld) (ht : t.length ≤ 1000) (hl : l.length = t.length) (x y z : Option W),
    ∃ env', forB (call T (k+1)) (.name 4) bMade (ds.map dDeed) [some (.val (dSrc ss)), some (.val a), some (.val (dT t)), some (.val (dLs l)), x, y, z, none] = (if (t ++ txs ss ds).length ≤ 1000 then .nx env' else .exc 5 env') ∧
      ((t ++ txs ss ds).length ≤ 1000 → ∃ x y z, env' = [some (.val (dSrc ss)), some (.val a), some (.val (dT (t ++ txs ss ds))), some (.val (dLs (l ++ ldss ds))), x, y, z, none])
  | [], hd, t, l, ht, hl, x, y, z => ⟨_, by simp [txs, ht]; rfl, fun _ => ⟨x, y, z, by simp [txs, ldss]⟩⟩
  | d :: ds, hd, t, l, ht, hl, x, y, z => by
    have hp := c_piece_of k ss hs d (hd d List.mem_cons_self)
    have hX := txD_len ss hs d (hd d List.mem_cons_self)
    have hY := ldsD_len ss d (hd d List.mem_cons_self)
    have e1 : txs ss (d :: ds) = txD ss d ++ txs ss ds := by simp [txs]
    have e2 : ldss (d :: ds) = ldsD d ++ ldss ds := by simp [ldss]
    rw [e1, e2]
    generalize hx : txD ss d = X at *
    generalize hy : ldsD d = Y at *
    have a1 : t.length + X.length ≤ 100000 := by omega
    have a2 := add_dLs l Y (by omega)
    rw [List.map_cons, forB_cons]
    by_cases h : t.length + X.length ≤ 1000
    · have b1 : ¬ (1000 : Int) < (t.length : Int) + (X.length : Int) := by omega
      obtain ⟨env', i1, i2⟩ := made_loop k ss hs a ds (fun d' hd' => hd d' (List.mem_cons_of_mem _ hd')) (t ++ X) (l ++ Y) (by simpa using h) (by simp; omega) (some (.val (dDeed d))) (some (.val (dT X))) (some (.val (dLs Y)))
      refine ⟨env', ?_, ?_⟩
      · simp [bMade, hp, a1, a2, mkS_app, b1]
        simp only [bMade] at i1
        simp only [List.append_assoc] at i1
        simpa using i1
      · rw [← List.append_assoc, ← List.append_assoc]; exact i2
    · have b1 : (1000 : Int) < (t.length : Int) + (X.length : Int) := by omega
      have b2 : ¬ t.length + (X.length + (txs ss ds).length) ≤ 1000 := by omega
      refine ⟨[some (.val (dSrc ss)), some (.val a), some (.val (dT (t ++ X))), some (.val (dLs (l ++ Y))), some (.val (dDeed d)), some (.val (dT X)), some (.val (dLs Y)), none], ?_, fun z => absurd (by simpa using z) b2⟩
      simp [bMade, hp, a1, a2, mkS_app, b1, b2]
theorem c_made (k : Nat) (ss : List (List Nat)) (hs : okSrc ss) (ds : List Deed) (hd : ∀ d ∈ ds, okDeed ss d) (hn : ds.length ≤ 40) :
    call T (k+4) f_made [dSrc ss, .tuple (ds.map dDeed)] = if (txs ss ds).length ≤ 1000 then .ok (.tuple [dT (txs ss ds), lm (ldss ds)]) else .exc 5 := by
  rw [call_eq T_made rfl]
  have a1 : ¬ (40 : Int) < (ds.length : Int) := by omega
  have c := compB_off (Φ := call T (k+3)) (x := .var 7) (t := .name 7) (c := .some (.not (.call f_is_deed (.cons (.var 7) (.cons (.var 0) .nil))))) (env := [some (.val (dSrc ss)), some (.val (.tuple (ds.map dDeed))), none, none, none, none, none, none]) ds dDeed (fun _ => none) (by simp; omega) fun t ht => by
    have := c_is_deed (k+1) ss hs t (hd t ht)
    simp [Tg.slots, wipeE, this]
  have e0 : ds.filterMap (fun _ => (none : Option D)) = [] := by simp
  rw [e0] at c
  have lt := c_look_texts (k+1) ss hs
  obtain ⟨env', l1, l2⟩ := made_loop (k+2) ss hs (.tuple (ds.map dDeed)) ds hd [] [] (by simp) rfl none none none
  have ht : (ldss ds).length = (txs ss ds).length := by
    clear c lt l1 l2 a1 e0
    induction ds with
    | nil => rfl
    | cons d ds ih =>
      have := ldsD_len ss d (hd d List.mem_cons_self)
      have ih := ih (fun d' h => hd d' (List.mem_cons_of_mem _ h)) (by simp at hn; omega)
      simp only [ldss, txs, List.flatMap_cons, List.length_append] at ih ⊢
      omega
  simp only [bMade, List.nil_append] at l1 l2
  have hS : ("" : Str) = mkS [] := by decide +kernel
  simp [d_made, b_made, lt, a1, c, hS]
  have hL : PyData.list [] = dLs [] := rfl
  rw [hL]
  by_cases h : (txs ss ds).length ≤ 1000
  · obtain ⟨x, y, z, e⟩ := l2 h
    rw [if_pos h, e] at l1
    rw [l1, if_pos h]
    have hm := m_of (k := k+1) (xs := ldss ds) (by omega)
    simp [hm]
  · rw [if_neg h] at l1
    rw [l1, if_neg h]
    rfl
end M

set_option linter.all false
set_option maxRecDepth 100000
set_option maxHeartbeats 1000000
namespace M
open PySem TL
/-! ### what are no texts, no deeds -/
def orB {α : Type} (b : D) (f : α → D) : Option α → D
  | some a => f a
  | none => b
def onlyB {α : Type} (b : D) : Option α → Option D
  | some _ => none
  | none => some b
theorem orB_map {α : Type} (b : D) (f : α → D) (l : List α) : (l.map some ++ [none]).map (orB b f) = l.map f ++ [b] := by
  simp [orB, Function.comp_def]
theorem onlyB_fm {α : Type} (b : D) (l : List α) : (l.map some ++ [none]).filterMap (onlyB b) = [b] := by
  induction l with
  | nil => rfl
  | cons x l ih => rw [List.map_cons, List.cons_append, List.filterMap_cons]; exact ih
@[simp] theorem orB_some {α : Type} (b : D) (f : α → D) (a : α) : orB b f (some a) = f a := (rfl)
@[simp] theorem orB_none {α : Type} (b : D) (f : α → D) : orB b f none = b := (rfl)
@[simp] theorem onlyB_some {α : Type} (b : D) (a : α) : onlyB b (some a) = none := (rfl)
@[simp] theorem onlyB_none {α : Type} (b : D) : onlyB (α := α) b none = some b := (rfl)
theorem c_is_text_big (k : Nat) (cs : List Nat) (h : 1000 < cs.length) (h2 : cs.length ≤ 100000) : call T (k+1) f_is_text [.str (mkS cs)] = .ok (.bool false) := by
  rw [call_eq T_is_text rfl]
  have a1 : ¬ (cs.length : Int) ≤ 1000 := by omega
  simp [d_is_text, b_is_text, h2, a1]
theorem c_made_notexts (k : Nat) (d e : D) (h : call T k f_look_texts [d] = .exc 2) : call T (k+1) f_made [d, e] = .exc 2 := by
  rw [call_eq T_made rfl]
  simp [d_made, b_made, h]
theorem c_look_no1 (k : Nat) (d : D) (h : isT .tuple d = .ok false) : call T (k+1) f_look_texts [d] = .exc 2 := by
  rw [call_eq T_look_texts rfl]
  simp [d_look_texts, b_look_texts, h]
theorem c_look_no2 (k : Nat) (xs : List D) (h : 10 < xs.length) : call T (k+1) f_look_texts [.tuple xs] = .exc 2 := by
  rw [call_eq T_look_texts rfl]
  have a1 : (10 : Int) < (xs.length : Int) := by omega
  simp [d_look_texts, b_look_texts, a1]
theorem c_look_no3 (k : Nat) (ss : List (List Nat)) (hs : okSrc ss) (b : D) (hb : call T (k+1) f_is_text [b] = .ok (.bool false)) : call T (k+2) f_look_texts [.tuple (ss.map dT ++ [b])] = .exc 2 := by
  by_cases hl : 10 < (ss.map dT ++ [b]).length
  · exact c_look_no2 (k+1) _ hl
  rw [call_eq T_look_texts rfl]
  have a1 : ¬ (10 : Int) < (ss.length : Int) + 1 := by simp at hl; omega
  have c := compB_off (Φ := call T (k+1)) (x := .var 1) (t := .name 1) (c := .some (.not (.call f_is_text (.cons (.var 1) .nil)))) (env := [some (.val (.tuple (ss.map dT ++ [b]))), none]) (ss.map some ++ [none]) (orB b dT) (onlyB b) (by have := hs.1; simp; omega) fun t ht => by
    cases t with
    | some t =>
      have := c_is_text k t (hs.2 t (by simpa using ht))
      simp [Tg.slots, wipeE, this]
    | none =>
      simp [Tg.slots, wipeE, hb]
  have e1 : (ss.map some ++ [none]).map (orB b dT) = ss.map dT ++ [b] := orB_map b dT ss
  have e0 : (ss.map some ++ [none]).filterMap (onlyB b) = [b] := onlyB_fm b _
  rw [e1, e0] at c
  simp [d_look_texts, b_look_texts, a1, c]
theorem c_made_no1 (k : Nat) (ss : List (List Nat)) (hs : okSrc ss) (e : D) (h : isT .tuple e = .ok false) : call T (k+3) f_made [dSrc ss, e] = .exc 3 := by
  rw [call_eq T_made rfl]
  simp [d_made, b_made, c_look_texts k ss hs, h]
theorem c_made_no2 (k : Nat) (ss : List (List Nat)) (hs : okSrc ss) (xs : List D) (h : 40 < xs.length) : call T (k+3) f_made [dSrc ss, .tuple xs] = .exc 3 := by
  rw [call_eq T_made rfl]
  have a1 : (40 : Int) < (xs.length : Int) := by omega
  simp [d_made, b_made, c_look_texts k ss hs, a1]
theorem c_made_no3 (k : Nat) (ss : List (List Nat)) (hs : okSrc ss) (ds : List Deed) (hd : ∀ d ∈ ds, okDeed ss d) (hn : ds.length < 40) (b : D) (hb : call T (k+2) f_is_deed [b, dSrc ss] = .ok (.bool false)) :
    call T (k+3) f_made [dSrc ss, .tuple (ds.map dDeed ++ [b])] = .exc 3 := by
  rw [call_eq T_made rfl]
  have a1 : ¬ (40 : Int) < (ds.length : Int) + 1 := by omega
  have c := compB_off (Φ := call T (k+2)) (x := .var 7) (t := .name 7) (c := .some (.not (.call f_is_deed (.cons (.var 7) (.cons (.var 0) .nil))))) (env := [some (.val (dSrc ss)), some (.val (.tuple (ds.map dDeed ++ [b]))), none, none, none, none, none, none]) (ds.map some ++ [none]) (orB b dDeed) (onlyB b) (by simp; omega) fun t ht => by
    cases t with
    | some t =>
      have := c_is_deed k ss hs t (hd t (by simpa using ht))
      simp [Tg.slots, wipeE, this]
    | none => simp [Tg.slots, wipeE, hb]
  have e1 : (ds.map some ++ [none]).map (orB b dDeed) = ds.map dDeed ++ [b] := orB_map b dDeed ds
  have e0 : (ds.map some ++ [none]).filterMap (onlyB b) = [b] := onlyB_fm b _
  rw [e1, e0] at c
  simp [d_made, b_made, c_look_texts k ss hs, a1, c]
@[simp] theorem eqTakePut : eqD (.str "take") (.str "put") = .ok false := by rw [eq_word (by decide +kernel) (by decide +kernel)]; congr 1
/-! ### the law's deeds -/
def plDeed : Deed → Prop
  | .put cs => plainCs cs
  | .stand cs _ _ => plainCs cs
  | .copy _ _ _ => True
theorem eq_src (ss : List (List Nat)) (hp : ∀ t ∈ ss, plainCs t) (hl : ss.length ≤ 10) : eqD (dSrc ss) (.tuple []) = .ok (decide (ss = [])) := by
  have p1 : pd (dSrc ss) := by
    refine ⟨?_, ?_⟩
    · show plL (ss.map dT) = true
      exact plL_all fun d hd => by
        obtain ⟨t, ht, rfl⟩ := List.mem_map.mp hd
        exact (pd_str (hp t ht)).1
    · show PyData.depth (.tuple (ss.map dT)) ≤ 64
      have := depthAll_le (n := 1) (ds := ss.map dT) fun d hd => by
        obtain ⟨t, ht, rfl⟩ := List.mem_map.mp hd
        simp [PyData.depth]
      simp only [PyData.depth]; omega
  have p2 : pd (.tuple []) := ⟨rfl, by simp [PyData.depth, PyData.depthAll]⟩
  by_cases h : ss = []
  · subst h; exact eqD_self p1
  · rw [eqD_ne p1 p2 (fun e => h (by simpa [dSrc] using e))]; simp [h]
theorem c_law_made (k : Nat) {sd : D} {ns : List Int} (sc : Scr sd ns) (i : Nat) (m : Nat) (hm : m ≤ 40) (ss : List (List Nat)) (hs : okSrc ss) (hp : ∀ t ∈ ss, plainCs t) (n : Nat) (h6 : 6 ≤ n) (hn : ∀ t ∈ ss, t.length ≤ n) :
    ∃ ds : List Deed, call T (k+3) f_law_made [sd, .int i, .int m, dSrc ss] = .ok (.tuple (ds.map dDeed)) ∧ (∀ d ∈ ds, okDeed ss d ∧ plDeed d ∧ (txD ss d).length ≤ n) ∧ ds.length ≤ m := by
  obtain ⟨q, hq, hq2⟩ := mixNat (cell ns i) 9949 ((m : Int) + 1) (by omega)
  have hc := c_mix (k+1) (cell ns i) 9949 ((m : Int) + 1) (by decide) (by decide) (by omega)
  rw [hq] at hc
  suffices H : ∃ ds : List Deed, endR (evS (call T (k+2)) d_law_made.body (env0 d_law_made.N.length [sd, .int i, .int m, dSrc ss])) = .ok (.tuple (ds.map dDeed)) ∧ (∀ d ∈ ds, okDeed ss d ∧ plDeed d ∧ (txD ss d).length ≤ n) ∧ ds.length ≤ m by
    obtain ⟨ds, h1, h2⟩ := H
    exact ⟨ds, by rw [call_eq T_law_made rfl]; exact h1, h2⟩
  simp [d_law_made, b_law_made, sc (k+1) i (by omega), hc, rng_nat q (by omega)]
  obtain ⟨env', h1, ds, x, y, z, w, v, h2, h3, h4⟩ := forB_ok (Φ := call T (k+2)) (t := .name 5) (xs := (List.range q).map fun (k : Nat) => PyData.int (k : Int)) (env := [some (.val sd), some (.val (.int i)), some (.val (.int m)), some (.val (dSrc ss)), some (.own []), none, none, none, none, none])
    (b := .asg (.name 6) (.call f_law_seed (.cons (.bin .Add (.call f_law_cell (.cons (.var 0) (.cons (.bin .Add (.bin .Add (.var 1) (.int 1)) (.bin .Mod (.var 5) (.int 4))) .nil))) (.bin .Mult (.int 43) (.var 5))) (.cons (.var 5) .nil))) (.asg (.name 7) (.bin .Mod (.bin .FloorDiv (.var 6) (.int 5)) (.bi .max (.cons (.int 1) (.cons (.bi .len (.cons (.var 3) .nil)) .nil)))) (.ite (.or (.cmp .Eq (.bin .Mod (.bin .FloorDiv (.var 6) (.int 3)) (.int 4)) (.int 0)) (.one (.cmp .Eq (.var 3) (.tup .nil)))) (.app 4 (.tup (.cons (.str "put") (.cons (.call f_law_text (.cons (.var 6) (.cons (.int 6) .nil))) .nil))) .nil) (.ite (.cmp .Eq (.bin .Mod (.bin .FloorDiv (.var 6) (.int 3)) (.int 4)) (.int 1)) (.app 4 (.tup (.cons (.str "stand") (.cons (.call f_law_text (.cons (.var 6) (.cons (.int 6) .nil))) (.cons (.bin .Mod (.bin .FloorDiv (.var 6) (.int 11)) (.int 10)) (.cons (.bin .Mod (.bin .FloorDiv (.var 6) (.int 13)) (.int 10000)) .nil))))) .nil) (.asg (.name 8) (.bin .Mod (.bin .FloorDiv (.var 6) (.int 11)) (.bin .Add (.bi .len (.cons (.idx (.var 3) (.var 7)) .nil)) (.int 1))) (.asg (.name 9) (.bin .Add (.var 8) (.bin .Mod (.bin .FloorDiv (.var 6) (.int 13)) (.bin .Sub (.bin .Add (.bi .len (.cons (.idx (.var 3) (.var 7)) .nil)) (.int 1)) (.var 8)))) (.app 4 (.tup (.cons (.str "copy") (.cons (.var 7) (.cons (.var 8) (.cons (.var 9) .nil))))) .nil))) .nil) .nil)))
    (fun i' env => ∃ (ds : List Deed) (x y z w v : Option W), env = [some (.val sd), some (.val (.int i)), some (.val (.int m)), some (.val (dSrc ss)), some (.own (ds.map dDeed)), x, y, z, w, v] ∧ (∀ d ∈ ds, okDeed ss d ∧ plDeed d ∧ (txD ss d).length ≤ n) ∧ ds.length = i')
    ⟨[], none, none, none, none, none, rfl, by simp, rfl⟩ (by
      rintro j e env hd ⟨ds, x, y, z, w, v, rfl, hds, hl⟩
      obtain ⟨rfl, hj⟩ := rng_get hd
      have sv := c_seed (k+1) (cell ns ((i : Int) + 1 + (j : Int) % 4) + 43 * (j : Int)) j
      obtain ⟨s, hsd⟩ : ∃ s : Int, seedN (cell ns ((i : Int) + 1 + (j : Int) % 4) + 43 * (j : Int)) j = s := ⟨_, rfl⟩
      have s0 : 0 ≤ s := by rw [← hsd]; exact seedN_ge _ _
      rw [hsd] at sv
      have s43 : smallI 43 = true := by decide
      have cl := sc (k+1) ((i : Int) + 1 + (j : Int) % 4) (by omega)
      have tx := c_law_text k s 6 (by decide) (by decide)
      have tl6 : (textN s 6).length ≤ 6 := textN_len s 6 (by decide)
      have tp := textN_plain s 6
      have hls : (ds.map dDeed).length < 100000 := by simp; omega
      obtain ⟨F, hF⟩ : ∃ F, ds.map dDeed = F := ⟨_, rfl⟩
      have es := eq_src ss hp hs.1
      obtain ⟨L, hL⟩ : ∃ L : Int, L = if (ss.length : Int) > 1 then (ss.length : Int) else 1 := ⟨_, rfl⟩
      have hL0 : 0 < L := by rw [hL]; split <;> omega
      have mx : biD .max [.int 1, .int ss.length] = .ok (.int L) := by rw [max2, hL]
      obtain ⟨src, hsrc⟩ : ∃ src : Nat, s / 5 % L = src := ⟨(s / 5 % L).toNat, by have := Int.emod_nonneg (s / 5) (show L ≠ 0 by omega); omega⟩
      have hsrc2 : (src : Int) < L := by rw [← hsrc]; exact Int.emod_lt_of_pos _ hL0
      have ln : biD .len [dSrc ss] = .ok (.int ss.length) := by simp [dSrc]
      by_cases h0 : s / 3 % 4 = 0 ∨ ss = []
      · refine ⟨[some (.val sd), some (.val (.int i)), some (.val (.int m)), some (.val (dSrc ss)), some (.own (F ++ [dDeed (.put (textN s 6))])), some (.val (.int j)), some (.val (.int s)), some (.val (.int src)), w, v], ?_, ds ++ [.put (textN s 6)], some (.val (.int j)), some (.val (.int s)), some (.val (.int src)), w, v, ?_, ?_, by simp [hl]⟩
        · rw [hF] at hls ⊢
          rcases h0 with h0 | h0
          · simp [-lenT, -max2, cl, sv, s43, ln, mx, hL0, hsrc, h0, tx, hls, dDeed]
          · by_cases h1 : s / 3 % 4 = 0
            · simp [-lenT, -max2, cl, sv, s43, ln, mx, hL0, hsrc, h1, tx, hls, dDeed]
            · simp [-lenT, -max2, cl, sv, s43, ln, mx, hL0, hsrc, h1, tx, hls, dDeed, es]
              simp [h0, hls]
        · rw [← hF]; simp
        · intro d hd
          rcases List.mem_append.mp hd with hd | hd
          · exact hds d hd
          · rw [List.mem_singleton.mp hd]
            exact ⟨by show (textN s 6).length ≤ 1000; omega, tp, by show (textN s 6).length ≤ n; omega⟩
      · have h0a : ¬ s / 3 % 4 = 0 := fun z => h0 (.inl z)
        have h0b : ¬ ss = [] := fun z => h0 (.inr z)
        by_cases h1 : s / 3 % 4 = 1
        · refine ⟨[some (.val sd), some (.val (.int i)), some (.val (.int m)), some (.val (dSrc ss)), some (.own (F ++ [dDeed (.stand (textN s 6) (s / 11 % 10) (s / 13 % 10000))])), some (.val (.int j)), some (.val (.int s)), some (.val (.int src)), w, v], ?_, ds ++ [.stand (textN s 6) (s / 11 % 10) (s / 13 % 10000)], some (.val (.int j)), some (.val (.int s)), some (.val (.int src)), w, v, ?_, ?_, by simp [hl]⟩
          · rw [hF] at hls ⊢
            simp [-lenT, -max2, cl, sv, s43, ln, mx, hL0, hsrc, h1, tx, hls, dDeed, es, h0b]
          · rw [← hF]; simp
          · intro d hd
            rcases List.mem_append.mp hd with hd | hd
            · exact hds d hd
            · rw [List.mem_singleton.mp hd]
              exact ⟨⟨by omega, by omega, by omega, by omega, by omega⟩, tp, by show (textN s 6).length ≤ n; omega⟩
        · have hsl : src < ss.length := by
            have : 0 < ss.length := by
              cases ss with
              | nil => exact absurd rfl h0b
              | cons _ _ => simp
            rw [hL] at hsrc2
            split at hsrc2 <;> omega
          have hg : ss[src]? = some ss[src] := List.getElem?_eq_getElem hsl
          obtain ⟨t, ht⟩ : ∃ t, ss[src] = t := ⟨_, rfl⟩
          rw [ht] at hg
          have htm := List.mem_of_getElem? hg
          have htl := hs.2 t htm
          obtain ⟨b, hb⟩ : ∃ b : Nat, s / 11 % ((t.length : Int) + 1) = b := ⟨(s / 11 % ((t.length : Int) + 1)).toNat, by have := Int.emod_nonneg (s / 11) (show (t.length : Int) + 1 ≠ 0 by omega); omega⟩
          have hb2 : (b : Int) < (t.length : Int) + 1 := by rw [← hb]; exact Int.emod_lt_of_pos _ (by omega)
          obtain ⟨e, he⟩ : ∃ e : Nat, s / 13 % ((t.length : Int) + 1 - (b : Int)) = e := ⟨(s / 13 % ((t.length : Int) + 1 - (b : Int))).toNat, by have := Int.emod_nonneg (s / 13) (show (t.length : Int) + 1 - (b : Int) ≠ 0 by omega); omega⟩
          have he2 : (e : Int) < (t.length : Int) + 1 - (b : Int) := by rw [← he]; exact Int.emod_lt_of_pos _ (by omega)
          have ix : idxD (dSrc ss) (.int src) = .ok (dT t) := by simp [dSrc, at_src hg]
          have b1 : t.length ≤ 100000 := by omega
          have b2 : (0 : Int) < (t.length : Int) + 1 := by omega
          have b3 : (0 : Int) < (t.length : Int) + 1 - (b : Int) := by omega
          refine ⟨[some (.val sd), some (.val (.int i)), some (.val (.int m)), some (.val (dSrc ss)), some (.own (F ++ [dDeed (.copy src b (b + e))])), some (.val (.int j)), some (.val (.int s)), some (.val (.int src)), some (.val (.int b)), some (.val (.int ((b + e : Nat) : Int)))], ?_, ds ++ [.copy src b (b + e)], some (.val (.int j)), some (.val (.int s)), some (.val (.int src)), some (.val (.int b)), some (.val (.int ((b + e : Nat) : Int))), ?_, ?_, by simp [hl]⟩
          · rw [hF] at hls ⊢
            simp [-lenT, -max2, -idT, cl, sv, s43, ln, mx, hL0, hsrc, h1, h0a, hls, dDeed, es, h0b, ix, b1, b2, hb, b3, he, hb2]
          · rw [← hF]; simp
          · intro d hd
            rcases List.mem_append.mp hd with hd | hd
            · exact hds d hd
            · rw [List.mem_singleton.mp hd]
              refine ⟨⟨t, hg, by omega, by omega⟩, trivial, ?_⟩
              have hgd : ss.getD src [] = t := by rw [List.getD_eq_getElem?_getD, hg]; rfl
              have := hn t htm
              simp only [txD, hgd, List.length_take, List.length_drop]
              omega)
  refine ⟨ds, ?_, h3, ?_⟩
  · rw [h1, h2]; simp
  · rw [h4]; simp; omega
end M

set_option linter.all false
set_option maxRecDepth 100000
set_option maxHeartbeats 1000000
namespace M
open PySem TL
theorem bS : ("b" : Str) = mkS [98] := by decide +kernel
theorem bcS : ("bc" : Str) = mkS [98, 99] := by decide +kernel
theorem aS : ("a" : Str) = mkS [97] := by decide +kernel
theorem fold_rep (c : Nat) : ∀ (n : Nat) (a : Array Nat), (List.replicate n #[c]).foldl (· ++ ·) a = a ++ (List.replicate n c).toArray
  | 0, a => by simp
  | n + 1, a => by
    rw [List.replicate_succ, List.foldl_cons, fold_rep c n, List.replicate_succ]
    apply Array.ext'
    simp
theorem mul_txt {x : Str} {c : Nat} (hx : x = mkS [c]) (i : Int) (n : Nat) (hi : i = n) (h1 : 1 ≤ n) (h : n ≤ 10000) : mulD (.str x) (.int i) = .ok (dT (List.replicate n c)) := by
  subst hx hi
  have e : Txt.mul (mkS [c]) (n : Int) = mkS (List.replicate n c) := by
    unfold Txt.mul
    rw [if_neg (by omega)]
    split
    · rename_i h2
      have : n = 1 := by
        simp only [Bool.or_eq_true, beq_iff_eq] at h2
        rcases h2 with h2 | h2
        · omega
        · cases h2
      subst this; rfl
    · have hf := fold_rep c n #[]
      have h3 : ((n : Int)).toNat = n := by omega
      show (⟨(List.replicate ((n : Int)).toNat #[c]).foldl (· ++ ·) #[]⟩ : Str) = _
      rw [h3, hf]
      simp
  have hl : (mkS [c]).length = 1 := rfl
  rw [mulS, if_pos, e]
  rw [hl]
  simp
  omega
theorem plain_rep (c n : Nat) (h : c < 128) : plainCs (List.replicate n c) := fun x hx => by rw [(List.mem_replicate.mp hx).2]; exact h
theorem plain_app {a b : List Nat} (ha : plainCs a) (hb : plainCs b) : plainCs (a ++ b) := fun x hx => (List.mem_append.mp hx).elim (ha x) (hb x)
theorem plain_sub {a b : List Nat} (ha : plainCs a) (h : ∀ x ∈ b, x ∈ a) : plainCs b := fun x hx => ha x (h x hx)
theorem eqT_self {cs : List Nat} (h : plainCs cs) : eqD (dT cs) (dT cs) = .ok true := eqD_self (pd_str h)
theorem dep_dM (p : List Seg) : (dM p).depth ≤ 10 := by
  have h1 : ∀ d ∈ dPs 0 p, d.depth ≤ 3 := by
    rw [dPs_trip]
    intro d hd
    obtain ⟨t, _, rfl⟩ := List.mem_map.mp hd
    have := dep_dO t.2.1
    simp only [dP, PyData.depth, PyData.depthAll]
    omega
  have h2 : PyData.depthAll (dPs 0 p) ≤ 3 := depthAll_le h1
  simp only [dM, PyData.depth, PyData.depthAll]
  omega
theorem pd_made {cs : List Nat} (h : plainCs cs) (l : List Ld) : pd (.tuple [dT cs, lm l]) := by
  have h1 := pd_str h
  have h2 := pd_lm l
  refine ⟨?_, ?_⟩
  · show (pl (dT cs) && (pl (lm l) && true)) = true
    rw [h1.1, h2.1]; rfl
  · have d2 : (lm l).depth ≤ 10 := dep_dM _
    simp only [PyData.depth, PyData.depthAll]
    omega
theorem c_law_made_edges (k : Nat) (w : Nat) (hw : w < 3) : call T (k+5) f_law_made_edges [.int w] = .ok (.bool true) := by
  rw [call_eq T_law_made_edges rfl]
  have ma : mulD (.str "a") (.int 1000) = .ok (dT (List.replicate 1000 97)) := mul_txt aS 1000 1000 rfl (by decide) (by decide)
  have mb : mulD (.str "a") (.int 999) = .ok (dT (List.replicate 999 97)) := mul_txt aS 999 999 rfl (by decide) (by decide)
  have mc : mulD (.str "a") (.int 500) = .ok (dT (List.replicate 500 97)) := mul_txt aS 500 500 rfl (by decide) (by decide)
  have md : mulD (.str "b") (.int 501) = .ok (dT (List.replicate 501 98)) := mul_txt bS 501 501 rfl (by decide) (by decide)
  obtain ⟨x10, x40, m10, m40, e0⟩ : ∃ x10 x40, mulD (.tuple [.str ""]) (.int 10) = .ok x10 ∧ mulD (.tuple [.tuple [.str "put", .str ""]]) (.int 40) = .ok x40 ∧ call T (k+4) f_made [x10, x40] = .ok (.tuple [.str "", lm []]) := by
    refine ⟨dSrc (List.replicate 10 []), .tuple ((List.replicate 40 (Deed.put [])).map dDeed), by kernel_rfl, by kernel_rfl, ?_⟩
    have := c_made k (List.replicate 10 []) ⟨by simp, by simp⟩ (List.replicate 40 (Deed.put [])) (fun d hd => by rw [(List.mem_replicate.mp hd).2]; simp [okDeed]) (by simp)
    have t0 : txs (List.replicate 10 []) (List.replicate 40 (Deed.put [])) = [] := by decide
    have l0 : ldss (List.replicate 40 (Deed.put [])) = [] := by rfl
    rw [t0, l0] at this
    exact this
  have e1 : call T (k+4) f_law_least [.list []] = .ok (lm []) := l_least (k := k+2) (xs := []) (by simp)
  have q0 : eqD (.tuple [.str "", lm []]) (.tuple [.str "", lm []]) = .ok true := eqD_self (pd_made (cs := []) (fun _ h => by simp at h) [])
  obtain ⟨A, B, hp, hA, hB, hB2, hl, pA, pB⟩ : ∃ A B : List Nat, L2.atI [PyData.tuple [dT (List.replicate 1000 97), .str "b"], .tuple [dT (List.replicate 999 97), .str "bc"], .tuple [dT (List.replicate 500 97), dT (List.replicate 501 98)]] (w : Int) = some (.tuple [dT A, dT B]) ∧ A.length ≤ 1000 ∧ 1 ≤ B.length ∧ B.length ≤ 1000 ∧ A.length + B.length = 1001 ∧ plainCs A ∧ plainCs B := by
    rcases w with _ | _ | _ | w
    · exact ⟨List.replicate 1000 97, [98], by rw [bS]; exact at0 _ _, by simp, by simp, by simp, by simp, plain_rep _ _ (by decide), plain_rep 98 1 (by decide)⟩
    · exact ⟨List.replicate 999 97, [98, 99], by rw [bcS]; exact at1 _ _ _, by simp, by simp, by simp, by simp, plain_rep _ _ (by decide), by intro x hx; simp at hx; omega⟩
    · exact ⟨List.replicate 500 97, List.replicate 501 98, at2 _ _ _ _, by simp, by simp, by simp, by simp, plain_rep _ _ (by decide), plain_rep _ _ (by decide)⟩
    · omega
  obtain ⟨A1, hA1⟩ : ∃ A1, List.replicate 1000 97 = A1 := ⟨_, rfl⟩
  obtain ⟨A2, hA2⟩ : ∃ A1, List.replicate 999 97 = A1 := ⟨_, rfl⟩
  obtain ⟨A3, hA3⟩ : ∃ A1, List.replicate 500 97 = A1 := ⟨_, rfl⟩
  obtain ⟨A4, hA4⟩ : ∃ A1, List.replicate 501 98 = A1 := ⟨_, rfl⟩
  rw [hA1] at ma hp
  rw [hA2] at mb hp
  rw [hA3] at mc hp
  rw [hA4] at md hp
  clear hA1 hA2 hA3 hA4
  have hsA : okSrc [A] := ⟨by simp, by simpa using hA⟩
  have dk : ∀ C : List Nat, C.length ≤ 1000 → ∀ d ∈ [Deed.copy 0 0 A.length, .put C], okDeed [A] d := by
    intro C hC d hd
    rcases List.mem_cons.mp hd with rfl | hd
    · exact ⟨A, rfl, by omega, by omega⟩
    · rw [List.mem_singleton.mp hd]; exact hC
  have tx : ∀ C : List Nat, txs [A] [Deed.copy 0 0 A.length, .put C] = A ++ C := by
    intro C; simp [txs, txD]
  have c1 : call T (k+4) f_made [.tuple [dT A], .tuple [.tuple [.str "copy", .int 0, .int 0, .int A.length], .tuple [.str "put", dT B]]] = .exc 5 := by
    have := c_made k [A] hsA [.copy 0 0 A.length, .put B] (dk B (by omega)) (by simp)
    rw [tx, if_neg (by rw [List.length_append]; omega)] at this
    exact this
  obtain ⟨l2, c2⟩ : ∃ l2, call T (k+4) f_made [.tuple [dT A], .tuple [.tuple [.str "copy", .int 0, .int 0, .int A.length], .tuple [.str "put", dT (B.drop 1)]]] = .ok (.tuple [dT (A ++ B.drop 1), lm l2]) := by
    have := c_made k [A] hsA [.copy 0 0 A.length, .put (B.drop 1)] (dk (B.drop 1) (by rw [List.length_drop]; omega)) (by simp)
    rw [tx, if_pos (by rw [List.length_append, List.length_drop]; omega)] at this
    exact ⟨_, this⟩
  have ct : cutL B (some 1) none = B.drop 1 := cutL_from B 1 hB
  have q1 := eqT_self (plain_app pA (plain_sub pB (fun x hx => List.mem_of_mem_drop hx) : plainCs (B.drop 1)))
  obtain ⟨C, hC⟩ : ∃ C, B.drop 1 = C := ⟨_, rfl⟩
  have hCl : C.length ≤ 1000 := by rw [← hC, List.length_drop]; omega
  rw [hC] at c2 ct q1
  have b1 : A.length ≤ 100000 := by omega
  have b2 : A.length + C.length ≤ 100000 := by omega
  have b3 : B.length ≤ 100000 := by omega
  simp [-mulT, -mulS, d_law_made_edges, b_law_made_edges, m10, m40, ma, mb, mc, md, e0, e1, q0, hp, b1, c1, c2, ct, b2, b3, mkS_app, q1]
end M

set_option linter.all false
set_option maxRecDepth 100000
set_option maxHeartbeats 1000000
namespace M
open PySem TL
/-! ### back, turned -/
def backF (s a : Int) : Nat → List Ld → List Nat
  | _, [] => []
  | k, l :: r => if l = some (s, a) then k :: backF s a (k+1) r else backF s a (k+1) r
theorem backF_cons (s a : Int) (k : Nat) (l : Ld) (r : List Ld) : backF s a k (l :: r) = if l = some (s, a) then k :: backF s a (k+1) r else backF s a (k+1) r := rfl
theorem backF_mem (s a : Int) (j : Nat) : ∀ (xs : List Ld) (k : Nat), j ∈ backF s a k xs ↔ ∃ i, j = k + i ∧ xs[i]? = some (some (s, a))
  | [], k => by simp [backF]
  | l :: r, k => by
    have ih := backF_mem s a j r (k+1)
    rw [backF_cons]
    have key : (∃ i, j = k + i ∧ (l :: r)[i]? = some (some (s, a))) ↔ (j = k ∧ l = some (s, a)) ∨ ∃ i, j = k + 1 + i ∧ r[i]? = some (some (s, a)) := by
      constructor
      · rintro ⟨i, h1, h2⟩
        cases i with
        | zero => left; simp at h2; exact ⟨by omega, h2⟩
        | succ i => right; exact ⟨i, by omega, by simpa using h2⟩
      · rintro (⟨h1, h2⟩ | ⟨i, h1, h2⟩)
        · exact ⟨0, by omega, by simp [h2]⟩
        · exact ⟨i+1, by omega, by simpa using h2⟩
    rw [key]
    by_cases h : l = some (s, a)
    · rw [if_pos h, List.mem_cons, ih]; simp [h]
    · rw [if_neg h, ih]; simp [h]
theorem backF_zip (s a : Int) (f : Nat → D) : ∀ (xs : List Ld) (k : Nat), (xs.zipIdx k).filterMap (fun p => if p.1 = some (s, a) then some (f p.2) else none) = (backF s a k xs).map f
  | [], k => rfl
  | l :: r, k => by
    rw [List.zipIdx_cons, List.filterMap_cons, backF_zip s a f r (k+1)]
    rw [backF_cons]
    by_cases h : l = some (s, a) <;> simp [h]
theorem backF_range (s a : Int) (f : Nat → D) : ∀ (xs : List Ld) (k : Nat), (List.range xs.length).filterMap (fun i => if xs[i]? = some (some (s, a)) then some (f (k + i)) else none) = (backF s a k xs).map f
  | [], k => rfl
  | l :: r, k => by
    have ih := backF_range s a f r (k+1)
    rw [List.length_cons, List.range_succ_eq_map, List.filterMap_cons, List.filterMap_map]
    have e : (fun i => if (l :: r)[i]? = some (some (s, a)) then some (f (k + i)) else none) ∘ Nat.succ = fun i => if r[i]? = some (some (s, a)) then some (f (k + 1 + i)) else none := by
      funext i
      simp only [Function.comp, List.getElem?_cons_succ]
      have : k + i.succ = k + 1 + i := by omega
      rw [this]
    rw [e, ih]
    rw [backF_cons]
    by_cases h : l = some (s, a) <;> simp [h]
theorem enum_dLs (xs : List Ld) : enumD (xs.map dL) = xs.zipIdx.map fun p => PyData.tuple [.int (p.2 : Int), dL p.1] := by
  unfold enumD
  rw [List.zipIdx_map, List.map_map]
  rfl
theorem c_look_sign (k : Nat) (s a : Int) (h1 : 0 ≤ s) (h2 : s ≤ 9) (h3 : 0 ≤ a) (h4 : a ≤ 9999) : call T (k+2) f_look_sign [.int s, .int a] = .ok .none := by
  rw [call_eq T_look_sign rfl]
  simp [d_look_sign, b_look_sign, c_is_within, isWithin, h1, h2, h3, h4]
theorem c_look_sign_no (k : Nat) (s a : D) (hs : ∀ kvs, s ≠ .dict kvs) (ha : ∀ kvs, a ≠ .dict kvs) (h : isWithin s 0 9 = false ∨ isWithin a 0 9999 = false) : call T (k+2) f_look_sign [s, a] = .exc 4 := by
  rw [call_eq T_look_sign rfl]
  by_cases h1 : isWithin s 0 9 = true
  · have h2 : isWithin a 0 9999 = false := by
      rcases h with h | h
      · rw [h1] at h; cases h
      · exact h
    simp [d_look_sign, b_look_sign, c_is_within _ s _ _ hs, c_is_within _ a _ _ ha, h1, h2]
  · have h1 : isWithin s 0 9 = false := by simpa using h1
    simp [d_look_sign, b_look_sign, c_is_within _ s _ _ hs, h1]
section
variable {d : D} {xs : List Ld}
theorem c_back (k : Nat) (m : MapD d xs) (s a : Int) (h1 : 0 ≤ s) (h2 : s ≤ 9) (h3 : 0 ≤ a) (h4 : a ≤ 9999) : call T (k+5) f_back [d, .int s, .int a] = .ok (.list ((backF s a 0 xs).map fun (i : Nat) => .int (i : Int))) := by
  rw [call_eq T_back rfl]
  have hl := m.len
  have c := compB_off (Φ := call T (k+4)) (x := .var 3) (t := .t2 (.name 3) (.name 4)) (c := .some (.cmp .Eq (.var 4) (.tup (.cons (.var 1) (.cons (.var 2) .nil))))) (env := [some (.val d), some (.val (.int s)), some (.val (.int a)), none, none]) xs.zipIdx (fun p => PyData.tuple [.int (p.2 : Int), dL p.1]) (fun p => if p.1 = some (s, a) then some (.int (p.2 : Int)) else none) (by simp; omega) fun p _ => by
    have e : eqD (dL p.1) (.tuple [.int s, .int a]) = .ok (decide (p.1 = some (s, a))) := eqD_dL p.1 (some (s, a))
    simp [Tg.slots, wipeE, e]
    by_cases h : p.1 = some (s, a) <;> simp [h]
  rw [backF_zip s a (fun i => .int (i : Int)) xs 0, ← enum_dLs] at c
  have sq : seqN (dLs xs) = .ok (xs.map dL) := rfl
  simp [d_back, b_back, m_chk _ m, c_look_sign _ s a h1 h2 h3 h4, m_lds _ m, sq, c]
theorem c_back_no (k : Nat) (m : MapD d xs) (s a : D) (hs : ∀ kvs, s ≠ .dict kvs) (ha : ∀ kvs, a ≠ .dict kvs) (h : isWithin s 0 9 = false ∨ isWithin a 0 9999 = false) : call T (k+5) f_back [d, s, a] = .exc 4 := by
  rw [call_eq T_back rfl]
  simp [d_back, b_back, m_chk _ m, c_look_sign_no _ s a hs ha h]
def mkF (j : Nat) : D := .tuple [.int 0, .int (j : Int)]
def bTurn : S := .ite (.and (.isn (.var 5) true) (.and (.cmp .Eq (.idx (.var 5) (.int 0)) (.var 1)) (.one (.dhas 3 (.idx (.var 5) (.int 1)) true)))) (.dset 3 (.idx (.var 5) (.int 1)) (.tup (.cons (.int 0) (.cons (.var 4) .nil))) .nil) .nil .nil
theorem turn_loop (Φ : Nat → List D → R D) (u : D) (s : Int) (sz : D) : ∀ (xs : List Ld) (k : Nat) (kvs : List (Int × D)) (x y : Option W), kvs.length + xs.length ≤ 1000 →
    ∃ env', forB Φ (.t2 (.name 4) (.name 5)) bTurn ((xs.zipIdx k).map fun p => PyData.tuple [.int (p.2 : Int), dL p.1]) [some (.val u), some (.val (.int s)), some (.val sz), some (.dk kvs), x, y, none] = .nx env' ∧
      ∃ kvs' x y, env' = [some (.val u), some (.val (.int s)), some (.val sz), some (.dk kvs'), x, y, none] ∧ ∀ a, lookI a kvs' = (lookI a kvs).or ((backF s a k xs).head?.map mkF)
  | [], k, kvs, x, y, _ => ⟨_, rfl, kvs, x, y, rfl, fun a => by simp [backF]⟩
  | l :: r, k, kvs, x, y, hl => by
    rw [List.length_cons] at hl
    rw [List.zipIdx_cons, List.map_cons, forB_cons]
    cases l with
    | none =>
      obtain ⟨env', h1, kvs', x', y', h2, h3⟩ := turn_loop Φ u s sz r (k+1) kvs (some (.val (.int k))) (some (.val .none)) (by omega)
      refine ⟨env', ?_, kvs', x', y', h2, fun a => by rw [h3 a]; simp [backF]⟩
      simp only [bTurn] at h1
      simp [bTurn]
      exact h1
    | some p =>
      obtain ⟨s', a'⟩ := p
      by_cases hs : s' = s
      · subst hs
        by_cases hk : (lookI a' kvs).isSome = true
        · obtain ⟨env', h1, kvs', x', y', h2, h3⟩ := turn_loop Φ u s' sz r (k+1) kvs (some (.val (.int k))) (some (.val (dL (some (s', a'))))) (by omega)
          refine ⟨env', ?_, kvs', x', y', h2, fun a => ?_⟩
          · simp only [bTurn, dL_some] at h1
            simp [bTurn, hk]
            exact h1
          · rw [h3 a]
            rw [backF_cons]
            by_cases ha : a = a'
            · subst ha
              obtain ⟨v, hv⟩ := Option.isSome_iff_exists.mp hk
              rw [hv]; simp
            · have : ¬ (some (s', a') : Ld) = some (s', a) := fun z => ha (by simpa using (congrArg (fun o => o.map Prod.snd) z).symm)
              rw [if_neg this]
        · have hk : (lookI a' kvs).isSome = false := by simpa using hk
          have hn : lookI a' kvs = none := by simpa using hk
          have pl := putI_len a' (mkF k) kvs
          obtain ⟨env', h1, kvs', x', y', h2, h3⟩ := turn_loop Φ u s' sz r (k+1) (putI a' (mkF k) kvs) (some (.val (.int k))) (some (.val (dL (some (s', a'))))) (by omega)
          have hl2 : kvs.length < 100000 := by omega
          refine ⟨env', ?_, kvs', x', y', h2, fun a => ?_⟩
          · simp only [bTurn, dL_some, mkF] at h1
            simp [bTurn, hn, hl2]
            exact h1
          · rw [h3 a, lookI_put]
            rw [backF_cons]
            by_cases ha : a = a'
            · subst ha
              rw [if_pos rfl, if_pos rfl, hn]; simp
            · have : ¬ (some (s', a') : Ld) = some (s', a) := fun z => ha (by simpa using (congrArg (fun o => o.map Prod.snd) z).symm)
              rw [if_neg this, if_neg ha]
      · obtain ⟨env', h1, kvs', x', y', h2, h3⟩ := turn_loop Φ u s sz r (k+1) kvs (some (.val (.int k))) (some (.val (dL (some (s', a'))))) (by omega)
        refine ⟨env', ?_, kvs', x', y', h2, fun a => ?_⟩
        · simp only [bTurn, dL_some] at h1
          simp [bTurn, hs]
          exact h1
        · rw [h3 a]
          rw [backF_cons]
          have : ¬ (some (s', a') : Ld) = some (s, a) := fun z => hs (by simpa using (congrArg (fun o => o.map Prod.fst) z))
          rw [if_neg this]
def turnL (xs : List Ld) (s : Int) (n : Nat) : List Ld := (List.range n).map fun (a : Nat) => (backF s a 0 xs).head?.map fun (j : Nat) => ((0 : Int), (j : Int))
theorem turnL_len (xs : List Ld) (s : Int) (n : Nat) : (turnL xs s n).length = n := by simp [turnL]
theorem turnL_get (xs : List Ld) (s : Int) (n a : Nat) (h : a < n) : (turnL xs s n)[a]? = some ((backF s a 0 xs).head?.map fun (j : Nat) => ((0 : Int), (j : Int))) := by
  simp [turnL, h]
theorem backF_lt {s a : Int} {xs : List Ld} {j : Nat} (h : j ∈ backF s a 0 xs) : j < xs.length := by
  obtain ⟨i, h1, h2⟩ := (backF_mem s a j xs 0).mp h
  have := (List.getElem?_eq_some_iff.mp h2).1
  omega
theorem turnL_ok (xs : List Ld) (s : Int) (n : Nat) (h : xs.length ≤ 1000) : ∀ l ∈ turnL xs s n, okL l := by
  intro l hl
  obtain ⟨a, _, rfl⟩ := List.mem_map.mp hl
  cases hh : (backF s a 0 xs).head? with
  | none => trivial
  | some j =>
    have := backF_lt (List.mem_of_mem_head? hh)
    exact okL_bound (by omega)
theorem c_turned (k : Nat) (m : MapD d xs) (s : Int) (n : Nat) (h1 : 0 ≤ s) (h2 : s ≤ 9) (hn : n ≤ 1000) : call T (k+5) f_turned [d, .int s, .int n] = .ok (lm (turnL xs s n)) := by
  rw [call_eq T_turned rfl]
  have hl := m.len
  have sq : seqN (dLs xs) = .ok (xs.map dL) := rfl
  obtain ⟨env', h3, kvs, x, y, h4, h5⟩ := turn_loop (call T (k+4)) d s (.int n) xs 0 [] none none (by simpa using hl)
  rw [← enum_dLs, h4] at h3
  have hn1 : (n : Int) ≤ 1000 := by omega
  have c := compB_of (Φ := call T (k+4)) (x := .dget 3 (.var 6) .non) (t := .name 6) (c := .none) (env := [some (.val d), some (.val (.int s)), some (.val (.int n)), some (.dk kvs), x, y, none]) (List.range n) (fun (a : Nat) => PyData.int (a : Int)) (fun (a : Nat) => dL ((backF s a 0 xs).head?.map fun (j : Nat) => ((0 : Int), (j : Int)))) (by simp; omega) fun a ha => by
    have e := h5 a
    simp [Tg.slots, wipeE, e, lookI]
    cases (backF s a 0 xs).head? <;> rfl
  have e : (List.range n).map (fun (a : Nat) => dL ((backF s a 0 xs).head?.map fun (j : Nat) => ((0 : Int), (j : Int)))) = (turnL xs s n).map dL := by
    rw [turnL, List.map_map]; rfl
  rw [e] at c
  have mo := m_of' (k := k+2) (xs := turnL xs s n) rfl (by rw [turnL_len]; omega)
  simp only [bTurn] at h3
  simp [-List.map_map, d_turned, b_turned, m_chk _ m, c_look_sign _ s 0 h1 h2 (by omega) (by omega), c_is_within, isWithin, hn1, m_lds _ m, sq, h3, rng_nat n (by omega), c, mo]
theorem c_turned_no1 (k : Nat) (m : MapD d xs) (s n : D) (hs : ∀ kvs, s ≠ .dict kvs) (h : isWithin s 0 9 = false) : call T (k+5) f_turned [d, s, n] = .exc 4 := by
  rw [call_eq T_turned rfl]
  simp [d_turned, b_turned, m_chk _ m, c_look_sign_no _ s (.int 0) hs (by simp) (.inl h)]
theorem c_turned_no2 (k : Nat) (m : MapD d xs) (s : Int) (n : D) (h1 : 0 ≤ s) (h2 : s ≤ 9) (hn : ∀ kvs, n ≠ .dict kvs) (h : isWithin n 0 1000 = false) : call T (k+5) f_turned [d, .int s, n] = .exc 4 := by
  rw [call_eq T_turned rfl]
  simp [d_turned, b_turned, m_chk _ m, c_look_sign _ s 0 h1 h2 (by omega) (by omega), c_is_within _ n _ _ hn, h]
end
end M

set_option linter.all false
set_option maxRecDepth 100000
set_option maxHeartbeats 1000000
namespace M
open PySem TL
/-! ### shares -/
/-- how many come from s -/
def cntS (s : Int) : List Ld → Nat
  | [] => 0
  | none :: r => cntS s r
  | some (s', _) :: r => if s' = s then cntS s r + 1 else cntS s r
def cntN : List Ld → Nat
  | [] => 0
  | none :: r => cntN r + 1
  | some _ :: r => cntN r
theorem cntS_app (s : Int) : ∀ xs ys : List Ld, cntS s (xs ++ ys) = cntS s xs + cntS s ys
  | [], ys => by simp [cntS]
  | none :: r, ys => by simp [cntS, cntS_app s r ys]
  | some (s', a) :: r, ys => by
    simp only [List.cons_append, cntS, cntS_app s r ys]
    split <;> omega
theorem cntN_app : ∀ xs ys : List Ld, cntN (xs ++ ys) = cntN xs + cntN ys
  | [], ys => by simp [cntN]
  | none :: r, ys => by simp only [List.cons_append, cntN, cntN_app r ys]; omega
  | some p :: r, ys => by simp only [List.cons_append, cntN, cntN_app r ys]
theorem cntN_le : ∀ xs : List Ld, cntN xs ≤ xs.length
  | [] => Nat.le_refl _
  | none :: r => by have := cntN_le r; simp only [cntN, List.length_cons]; omega
  | some p :: r => by have := cntN_le r; simp only [cntN, List.length_cons]; omega
def rowS (xs : List Ld) (s : Nat) : Option D := if 0 < cntS s xs then some (.tuple [.int s, .int (cntS s xs : Nat)]) else none
def rowsS (xs : List Ld) : List D := (List.range 10).filterMap (rowS xs)
def dSh (xs : List Ld) : D := .tuple [.list (rowsS xs), .int (cntN xs : Nat)]
def bSh : S := .ite (.isn (.var 3) false) (.aug 2 .Add (.int 1) .nil) (.dset 1 (.idx (.var 3) (.int 0)) (.bin .Add (.dget 1 (.idx (.var 3) (.int 0)) (.int 0)) (.int 1)) .nil) .nil
theorem cntS_mem {xs : List Ld} {s : Int} (h : 0 < cntS s xs) : ∃ a, some (s, a) ∈ xs := by
  induction xs with
  | nil => simp [cntS] at h
  | cons l r ih =>
    cases l with
    | none => obtain ⟨a, ha⟩ := ih (by simpa [cntS] using h); exact ⟨a, List.mem_cons_of_mem _ ha⟩
    | some p =>
      obtain ⟨s', a⟩ := p
      by_cases hs : s' = s
      · subst hs; exact ⟨a, List.mem_cons_self⟩
      · obtain ⟨a, ha⟩ := ih (by simpa [cntS, hs] using h); exact ⟨a, List.mem_cons_of_mem _ ha⟩
theorem sh_loop (Φ : Nat → List D → R D) (u : D) : ∀ (xs : List Ld) (kvs : List (Int × D)) (c : Int → Nat) (n : Nat) (x : Option W), kvs.length + xs.length ≤ 1000 → (∀ s, lookI s kvs = if 0 < c s then some (.int (c s : Nat)) else none) → (kvs.map (·.1)).Nodup →
    ∃ env', forB Φ (.name 3) bSh (xs.map dL) [some (.val u), some (.dk kvs), some (.val (.int n)), x, none] = .nx env' ∧
      ∃ kvs' x, env' = [some (.val u), some (.dk kvs'), some (.val (.int ((n + cntN xs : Nat) : Int))), x, none] ∧ (∀ s, lookI s kvs' = if 0 < c s + cntS s xs then some (.int ((c s + cntS s xs : Nat) : Int)) else none) ∧ (kvs'.map (·.1)).Nodup
  | [], kvs, c, n, x, _, hc, hn => ⟨_, rfl, kvs, x, by simp [cntN], fun s => hc s, hn⟩
  | none :: r, kvs, c, n, x, hl, hc, hn => by
    rw [List.length_cons] at hl
    obtain ⟨env', h1, kvs', x', h2, h3, h4⟩ := sh_loop Φ u r kvs c (n+1) (some (.val .none)) (by omega) hc hn
    refine ⟨env', ?_, kvs', x', ?_, fun s => by rw [h3 s]; rfl, h4⟩
    · rw [List.map_cons, forB_cons]
      simp only [bSh] at h1
      simp [bSh]
      simpa using h1
    · rw [h2]
      have : n + 1 + cntN r = n + cntN (none :: r) := by simp only [cntN]; omega
      rw [this]
  | some (s0, a) :: r, kvs, c, n, x, hl, hc, hn => by
    rw [List.length_cons] at hl
    have pl := putI_len s0 (.int ((c s0 + 1 : Nat) : Int)) kvs
    have hc' : ∀ s, lookI s (putI s0 (.int ((c s0 + 1 : Nat) : Int)) kvs) = if 0 < (fun s => if s = s0 then c s + 1 else c s) s then some (.int (((fun s => if s = s0 then c s + 1 else c s) s : Nat) : Int)) else none := by
      intro s
      rw [lookI_put]
      by_cases hs : s = s0
      · subst hs; simp
      · simp [hs, hc s]
    have hn' : ((putI s0 (.int ((c s0 + 1 : Nat) : Int)) kvs).map (·.1)).Nodup := by
      rw [putI_keys]
      split
      · exact hn
      · rename_i h
        exact List.nodup_append.mpr ⟨hn, by simp, fun p hp q hq => by
          rw [List.mem_singleton.mp hq]; exact fun e => h (e ▸ hp)⟩
    obtain ⟨env', h1, kvs', x', h2, h3, h4⟩ := sh_loop Φ u r (putI s0 (.int ((c s0 + 1 : Nat) : Int)) kvs) (fun s => if s = s0 then c s + 1 else c s) n (some (.val (dL (some (s0, a))))) (by omega) hc' hn'
    have hg : (lookI s0 kvs).getD (.int 0) = .int (c s0 : Nat) := by
      rw [hc s0]
      by_cases h : 0 < c s0
      · simp [h]
      · have : c s0 = 0 := by omega
        simp [this]
    have hl2 : kvs.length < 100000 := by omega
    refine ⟨env', ?_, kvs', x', ?_, fun s => ?_, h4⟩
    · rw [List.map_cons, forB_cons]
      simp only [bSh, dL_some] at h1
      simp [bSh, hg, hl2]
      simpa using h1
    · rw [h2]; rfl
    · rw [h3 s]
      have : (if s = s0 then c s + 1 else c s) + cntS s r = c s + cntS s (some (s0, a) :: r) := by
        simp only [cntS]
        by_cases hs : s = s0
        · subst hs; simp; omega
        · have hs' : ¬ s0 = s := fun z => hs z.symm
          simp [hs, hs']
      rw [this]
theorem sorted_uniq : ∀ (l₁ l₂ : List Int), l₁.Pairwise (· < ·) → l₂.Pairwise (· < ·) → (∀ x, x ∈ l₁ ↔ x ∈ l₂) → l₁ = l₂
  | [], [], _, _, _ => rfl
  | [], y :: ys, _, _, h => by have := (h y).mpr List.mem_cons_self; simp at this
  | x :: xs, [], _, _, h => by have := (h x).mp List.mem_cons_self; simp at this
  | x :: xs, y :: ys, h1, h2, h => by
    rw [List.pairwise_cons] at h1 h2
    have e : x = y := by
      rcases List.mem_cons.mp ((h x).mp List.mem_cons_self) with e | hx
      · exact e
      · rcases List.mem_cons.mp ((h y).mpr List.mem_cons_self) with e | hy
        · exact e.symm
        · have := h2.1 x hx; have := h1.1 y hy; omega
    subst e
    congr 1
    refine sorted_uniq xs ys h1.2 h2.2 fun z => ?_
    have hz := h z
    simp only [List.mem_cons] at hz
    constructor
    · intro hm
      rcases hz.mp (.inr hm) with e | hm'
      · have := h1.1 z hm; omega
      · exact hm'
    · intro hm
      rcases hz.mpr (.inr hm) with e | hm'
      · have := h2.1 z hm; omega
      · exact hm'
theorem pair_lt {l : List Int} (h1 : l.Pairwise (· ≤ ·)) (h2 : l.Nodup) : l.Pairwise (· < ·) := by
  have := h1.and h2
  refine this.imp fun {a b} h => ?_
  have h2 := h.2
  have h1 := h.1
  omega
theorem insI_perm0 (x : Int) : ∀ l, (insI x l).Perm (x :: l)
  | [] => List.Perm.refl _
  | y :: ys => by
    simp only [insI]
    split
    · exact List.Perm.refl _
    · exact ((insI_perm0 x ys).cons y).trans (List.Perm.swap x y ys)
theorem sortI_perm0 : ∀ l, (sortI l).Perm l
  | [] => List.Perm.refl _
  | x :: xs => (insI_perm0 x _).trans ((sortI_perm0 xs).cons x)
theorem keysOf {xs : List Ld} (hok : ∀ l ∈ xs, okL l) {kvs : List (Int × D)} (h : ∀ s, lookI s kvs = if 0 < cntS s xs then some (.int (cntS s xs : Nat)) else none) (hn : (kvs.map (·.1)).Nodup) :
    sortI (kvs.map (·.1)) = ((List.range 10).filter fun (s : Nat) => decide (0 < cntS s xs)).map fun (s : Nat) => (s : Int) := by
  refine sorted_uniq _ _ (pair_lt (sortI_spec _).2.1 ((sortI_perm0 _).nodup_iff.mpr hn)) ?_ fun x => ?_
  · rw [List.pairwise_map]
    refine (List.Pairwise.filter _ (List.pairwise_lt_range (n := 10))).imp fun {a b} h => by omega
  · rw [(sortI_spec _).2.2 x]
    have hs := lookI_isSome x kvs
    rw [h x] at hs
    have e1 : x ∈ kvs.map (·.1) ↔ 0 < cntS x xs := by
      by_cases hc : 0 < cntS x xs
      · rw [if_pos hc] at hs; simp only [Option.isSome_some] at hs; exact ⟨fun _ => hc, fun _ => of_decide_eq_true hs.symm⟩
      · rw [if_neg hc] at hs; simp only [Option.isSome_none] at hs; exact ⟨fun z => absurd z (of_decide_eq_false hs.symm), fun z => absurd z hc⟩
    rw [e1]
    simp only [List.mem_map, List.mem_filter, List.mem_range, decide_eq_true_eq]
    constructor
    · intro hc
      obtain ⟨a, ha⟩ := cntS_mem hc
      obtain ⟨h1, h2, _⟩ := hok _ ha
      exact ⟨x.toNat, ⟨by omega, by rw [show ((x.toNat : Nat) : Int) = x by omega]; exact hc⟩, by omega⟩
    · rintro ⟨n, ⟨_, h2⟩, rfl⟩
      exact h2
theorem rows_eq (xs : List Ld) : ((List.range 10).filter fun (s : Nat) => decide (0 < cntS s xs)).map (fun (s : Nat) => PyData.tuple [.int s, .int (cntS s xs : Nat)]) = rowsS xs := by
  unfold rowsS
  generalize List.range 10 = l
  induction l with
  | nil => rfl
  | cons x l ih =>
    rw [List.filter_cons, List.filterMap_cons]
    by_cases h : 0 < cntS x xs
    · simp only [h, decide_true, if_true, List.map_cons, rowS, ih]
    · simp only [h, decide_false, rowS, if_false]
      exact ih
theorem c_shares (k : Nat) {d : D} {xs : List Ld} (m : MapD d xs) : call T (k+5) f_shares [d] = .ok (dSh xs) := by
  rw [call_eq T_shares rfl]
  have hl := m.len
  have sq : seqD (dLs xs) = .ok (xs.map dL) := rfl
  obtain ⟨env', h1, kvs, x, h2, h3, h4⟩ := sh_loop (call T (k+4)) d xs [] (fun _ => 0) 0 none (by simpa using hl) (fun s => by simp [lookI]) (by simp)
  simp only [Nat.zero_add] at h3
  rw [h2] at h1
  have hk := keysOf m.ok h3 h4
  have hlen : kvs.length < 64 := by
    have e := congrArg List.length hk
    rw [(sortI_spec _).1, List.length_map, List.length_map] at e
    have := List.length_filter_le (fun (s : Nat) => decide (0 < cntS s xs)) (List.range 10)
    rw [List.length_range] at this
    omega
  have c := compB_of (Φ := call T (k+4)) (x := .tup (.cons (.var 4) (.cons (.didx 1 (.var 4)) .nil))) (t := .name 4) (c := .none) (env := [some (.val d), some (.dk kvs), some (.val (.int (cntN xs : Nat))), x, none]) ((List.range 10).filter fun (s : Nat) => decide (0 < cntS s xs)) (fun (s : Nat) => PyData.int (s : Int)) (fun (s : Nat) => PyData.tuple [.int s, .int (cntS s xs : Nat)]) (by
      have := List.length_filter_le (fun (s : Nat) => decide (0 < cntS s xs)) (List.range 10)
      rw [List.length_range] at this
      show _ ≤ 100000
      omega) fun s hs => by
    have hs := (List.mem_filter.mp hs).2
    have hs : 0 < cntS s xs := of_decide_eq_true hs
    have e := h3 s
    rw [if_pos hs] at e
    simp [Tg.slots, wipeE, e]
  rw [rows_eq] at c
  have hk2 : (sortI (kvs.map (·.1))).map PyData.int = ((List.range 10).filter fun (s : Nat) => decide (0 < cntS s xs)).map fun (s : Nat) => PyData.int (s : Int) := by
    rw [hk, List.map_map]; rfl
  rw [← hk2] at c
  simp only [bSh, Nat.zero_add] at h1
  have h1' : forB (call T (k+4)) (.name 3) (.ite (.isn (.var 3) false) (.aug 2 .Add (.int 1) .nil) (.dset 1 (.idx (.var 3) (.int 0)) (.bin .Add (.dget 1 (.idx (.var 3) (.int 0)) (.int 0)) (.int 1)) .nil) .nil) (xs.map dL) [some (.val d), some (.dk []), some (.val (.int 0)), none, none] = .nx [some (.val d), some (.dk kvs), some (.val (.int (cntN xs : Nat))), x, none] := h1
  simp [-List.map_map, d_shares, b_shares, m_chk _ m, m_lds _ m, sq, h1', hlen, c, dSh]
end M

set_option linter.all false
set_option maxRecDepth 100000
set_option maxHeartbeats 1000000
namespace M
open PySem TL
/-! ### changes, plainly -/
abbrev Ed := Nat × Nat × List Nat
def okE (n : Nat) : Nat → List Ed → Prop
  | _, [] => True
  | at_, (b, e, new) :: r => at_ ≤ b ∧ b ≤ e ∧ e ≤ n ∧ new.length ≤ 1000 ∧ okE n e r
def chT (t : List Nat) : Nat → List Ed → List Nat
  | at_, [] => t.drop at_
  | at_, (b, e, new) :: r => (t.drop at_).take (b - at_) ++ (new ++ chT t e r)
def alL0 (a n : Nat) : List Ld := (List.range n).map fun (k : Nat) => some ((0 : Int), (a : Int) + (k : Int))
def chL (n : Nat) : Nat → List Ed → List Ld
  | at_, [] => alL0 at_ (n - at_)
  | at_, (b, e, new) :: r => alL0 at_ (b - at_) ++ (List.replicate new.length none ++ chL n e r)
def movE : Nat → Nat → List Ed → Nat → Option Nat
  | p, at_, [], q => some (p + (q - at_))
  | p, at_, (b, e, new) :: r, q => if q < b then some (p + (q - at_)) else if q < e then none else movE (p + (b - at_) + new.length) e r q
def undoE (t : List Nat) : Nat → Nat → List Ed → List Ed
  | _, _, [] => []
  | p, at_, (b, e, new) :: r => (p + (b - at_), p + (b - at_) + new.length, (t.drop b).take (e - b)) :: undoE t (p + (b - at_) + new.length) e r
def growE : List Ed → Int
  | [] => 0
  | (b, e, new) :: r => ((new.length : Int) - ((e : Int) - (b : Int))) + growE r
theorem chT_len (t : List Nat) : ∀ (eds : List Ed) (at_ : Nat), at_ ≤ t.length → okE t.length at_ eds → ((chT t at_ eds).length : Int) = (t.length : Int) - (at_ : Int) + growE eds
  | [], at_, h, _ => by simp [chT, growE]; omega
  | (b, e, new) :: r, at_, h, ⟨h1, h2, h3, h4, h5⟩ => by
    have ih := chT_len t r e h3 h5
    simp only [chT, growE, List.length_append, List.length_take, List.length_drop]
    omega
theorem chL_len (t : List Nat) : ∀ (eds : List Ed) (at_ : Nat), at_ ≤ t.length → okE t.length at_ eds → (chL t.length at_ eds).length = (chT t at_ eds).length
  | [], at_, h, _ => by simp [chT, chL, alL0]
  | (b, e, new) :: r, at_, h, ⟨h1, h2, h3, h4, h5⟩ => by
    have ih := chL_len t r e h3 h5
    simp only [chT, chL, alL0, List.length_append, List.length_take, List.length_drop, List.length_map, List.length_range, List.length_replicate]
    omega
theorem mov_ge : ∀ (eds : List Ed) (p at_ q i : Nat), movE p at_ eds q = some i → p ≤ i
  | [], p, at_, q, i, h => by simp [movE] at h; omega
  | (b, e, new) :: r, p, at_, q, i, h => by
    simp only [movE] at h
    split at h
    · simp at h; omega
    · split at h
      · cases h
      · have := mov_ge r _ _ _ _ h; omega
theorem alL0_get (a n i : Nat) (s q : Int) : (alL0 a n)[i]? = some (some (s, q)) ↔ i < n ∧ s = 0 ∧ q = (a : Int) + (i : Int) := by
  by_cases h : i < n
  · simp [alL0, h, eq_comm]
  · have : (alL0 a n)[i]? = none := by simp [alL0]; omega
    rw [this]; simp [h]
theorem chL_get (n : Nat) : ∀ (eds : List Ed) (p at_ i : Nat) (s q : Int), at_ ≤ n → okE n at_ eds → ((chL n at_ eds)[i]? = some (some (s, q)) ↔ s = 0 ∧ ∃ q' : Nat, q = q' ∧ at_ ≤ q' ∧ q' < n ∧ movE p at_ eds q' = some (p + i))
  | [], p, at_, i, s, q, h, _ => by
    simp only [chL, movE]
    rw [alL0_get]
    constructor
    · rintro ⟨h1, h2, h3⟩
      exact ⟨h2, at_ + i, by omega, by omega, by omega, by congr 1; omega⟩
    · rintro ⟨h1, q', h2, h3, h4, h5⟩
      simp at h5
      exact ⟨by omega, h1, by omega⟩
  | (b, e, new) :: r, p, at_, i, s, q, h, ⟨h1, h2, h3, h4, h5⟩ => by
    have ih := chL_get n r (p + (b - at_) + new.length) e (i - (b - at_) - new.length) s q h3 h5
    simp only [chL, movE]
    by_cases c1 : i < b - at_
    · rw [List.getElem?_append_left (by simp [alL0]; exact c1), alL0_get]
      constructor
      · rintro ⟨k1, k2, k3⟩
        refine ⟨k2, at_ + i, by omega, by omega, by omega, ?_⟩
        rw [if_pos (by omega)]; congr 1; omega
      · rintro ⟨k1, q', k2, k3, k4, k5⟩
        split at k5
        · simp at k5; exact ⟨c1, k1, by omega⟩
        · split at k5
          · cases k5
          · have := mov_ge _ _ _ _ _ k5; omega
    · rw [List.getElem?_append_right (by simp [alL0]; omega)]
      have la : (alL0 at_ (b - at_)).length = b - at_ := by simp [alL0]
      rw [la]
      by_cases c2 : i - (b - at_) < new.length
      · rw [List.getElem?_append_left (by simpa using c2)]
        constructor
        · intro k
          have := List.mem_of_getElem? k
          have := (List.mem_replicate.mp this).2
          cases this
        · rintro ⟨k1, q', k2, k3, k4, k5⟩
          split at k5
          · simp at k5; omega
          · split at k5
            · cases k5
            · have := mov_ge _ _ _ _ _ k5; omega
      · rw [List.getElem?_append_right (by simp; omega), List.length_replicate, ih]
        have e1 : p + (b - at_) + new.length + (i - (b - at_) - new.length) = p + i := by omega
        rw [e1]
        constructor
        · rintro ⟨k1, q', k2, k3, k4, k5⟩
          exact ⟨k1, q', k2, by omega, k4, by rw [if_neg (by omega), if_neg (by omega)]; exact k5⟩
        · rintro ⟨k1, q', k2, k3, k4, k5⟩
          split at k5
          · simp at k5; omega
          · split at k5
            · cases k5
            · exact ⟨k1, q', k2, by omega, k4, k5⟩
theorem chT_get (t : List Nat) : ∀ (eds : List Ed) (at_ i q : Nat), at_ ≤ t.length → okE t.length at_ eds → (chL t.length at_ eds)[i]? = some (some ((0 : Int), (q : Int))) → (chT t at_ eds)[i]? = t[q]?
  | [], at_, i, q, h, _, hg => by
    simp only [chL, chT] at hg ⊢
    obtain ⟨h1, _, h2⟩ := (alL0_get _ _ _ _ _).mp hg
    rw [List.getElem?_drop]
    congr 1; omega
  | (b, e, new) :: r, at_, i, q, h, ⟨h1, h2, h3, h4, h5⟩, hg => by
    simp only [chL, chT] at hg ⊢
    have la : (alL0 at_ (b - at_)).length = b - at_ := by simp [alL0]
    have lb : ((t.drop at_).take (b - at_)).length = b - at_ := by simp; omega
    by_cases c1 : i < b - at_
    · rw [List.getElem?_append_left (by omega)] at hg ⊢
      obtain ⟨k1, _, k2⟩ := (alL0_get _ _ _ _ _).mp hg
      rw [List.getElem?_take_of_lt c1, List.getElem?_drop]
      congr 1; omega
    · rw [List.getElem?_append_right (by omega), la] at hg
      rw [List.getElem?_append_right (by omega), lb]
      by_cases c2 : i - (b - at_) < new.length
      · rw [List.getElem?_append_left (by simpa using c2)] at hg
        have := List.mem_of_getElem? hg
        have := (List.mem_replicate.mp this).2
        cases this
      · rw [List.getElem?_append_right (by simp; omega), List.length_replicate] at hg
        rw [List.getElem?_append_right (by omega)]
        exact chT_get t r e _ q h3 h5 hg
/-! undone -/
theorem undo_cut (t : List Nat) (b e : Nat) (new : List Nat) (r : List Ed) (p at_ : Nat) (pre : List Nat) (hp : pre.length = p) (h1 : at_ ≤ b) (h2 : b ≤ t.length) :
    ((pre ++ ((t.drop at_).take (b - at_) ++ (new ++ chT t e r))).drop p).take (b - at_) = (t.drop at_).take (b - at_) ∧ ((pre ++ ((t.drop at_).take (b - at_) ++ (new ++ chT t e r))).drop (p + (b - at_))).take new.length = new := by
  have lb : ((t.drop at_).take (b - at_)).length = b - at_ := by simp; omega
  constructor
  · rw [← hp, List.drop_left]
    exact List.take_left' lb
  · rw [← List.append_assoc]
    have : p + (b - at_) = (pre ++ (t.drop at_).take (b - at_)).length := by rw [List.length_append, lb, hp]
    rw [this, List.drop_left, List.take_left]
theorem undo_text (t : List Nat) : ∀ (eds : List Ed) (p at_ : Nat) (pre : List Nat), pre.length = p → at_ ≤ t.length → okE t.length at_ eds → chT (pre ++ chT t at_ eds) p (undoE t p at_ eds) = t.drop at_
  | [], p, at_, pre, hp, h, _ => by simp only [undoE, chT]; rw [← hp, List.drop_left]
  | (b, e, new) :: r, p, at_, pre, hp, h, ⟨h1, h2, h3, h4, h5⟩ => by
    have lb : ((t.drop at_).take (b - at_)).length = b - at_ := by simp; omega
    have ih := undo_text t r (p + (b - at_) + new.length) e (pre ++ ((t.drop at_).take (b - at_) ++ new)) (by simp; omega) h3 h5
    have u := undo_cut t b e new r p at_ pre hp h1 (by omega)
    simp only [undoE, chT]
    have e1 : p + (b - at_) - p = b - at_ := by omega
    rw [e1, u.1]
    have e2 : pre ++ ((t.drop at_).take (b - at_) ++ (new ++ chT t e r)) = pre ++ ((t.drop at_).take (b - at_) ++ new) ++ chT t e r := by simp
    rw [e2, ih]
    have e3 : (t.drop b).take (e - b) ++ t.drop e = t.drop b := by
      have : t.drop e = (t.drop b).drop (e - b) := by rw [List.drop_drop]; congr 1; omega
      rw [this, List.take_append_drop]
    rw [e3]
    have : t.drop b = (t.drop at_).drop (b - at_) := by rw [List.drop_drop]; congr 1; omega
    rw [this, List.take_append_drop]
theorem undo_undo (t : List Nat) : ∀ (eds : List Ed) (p at_ : Nat) (pre : List Nat), pre.length = p → at_ ≤ t.length → okE t.length at_ eds → undoE (pre ++ chT t at_ eds) at_ p (undoE t p at_ eds) = eds
  | [], p, at_, pre, hp, h, _ => rfl
  | (b, e, new) :: r, p, at_, pre, hp, h, ⟨h1, h2, h3, h4, h5⟩ => by
    have lb : ((t.drop at_).take (b - at_)).length = b - at_ := by simp; omega
    have ih := undo_undo t r (p + (b - at_) + new.length) e (pre ++ ((t.drop at_).take (b - at_) ++ new)) (by simp; omega) h3 h5
    have u := undo_cut t b e new r p at_ pre hp h1 (by omega)
    simp only [undoE, chT]
    have lo : ((t.drop b).take (e - b)).length = e - b := by simp; omega
    have e1 : at_ + (p + (b - at_) - p) = b := by omega
    have e2 : p + (b - at_) + new.length - (p + (b - at_)) = new.length := by omega
    rw [lo, e1, e2, u.2]
    have e3 : b + (e - b) = e := by omega
    rw [e3]
    have e4 : pre ++ ((t.drop at_).take (b - at_) ++ (new ++ chT t e r)) = pre ++ ((t.drop at_).take (b - at_) ++ new) ++ chT t e r := by simp
    rw [e4, ih]
theorem undo_ok (t : List Nat) (ht : t.length ≤ 1000) : ∀ (eds : List Ed) (p at_ m : Nat), at_ ≤ t.length → okE t.length at_ eds → m = p + (chT t at_ eds).length → okE m p (undoE t p at_ eds)
  | [], p, at_, m, _, _, _ => trivial
  | (b, e, new) :: r, p, at_, m, h, ⟨h1, h2, h3, h4, h5⟩, hm => by
    have lb : ((t.drop at_).take (b - at_)).length = b - at_ := by simp; omega
    simp only [chT, List.length_append, lb] at hm
    refine ⟨by omega, by omega, by omega, by simp; omega, undo_ok t ht r _ e m h3 h5 (by omega)⟩
theorem undo_len (t : List Nat) : ∀ (eds : List Ed) (p at_ : Nat), (undoE t p at_ eds).length = eds.length
  | [], _, _ => rfl
  | (b, e, new) :: r, p, at_ => by simp [undoE, undo_len t r]
/-! where signs stand -/
theorem backF_sorted (s a : Int) : ∀ (xs : List Ld) (k : Nat), (backF s a k xs).Pairwise (· < ·)
  | [], k => .nil
  | l :: r, k => by
    rw [backF_cons]
    have ih := backF_sorted s a r (k+1)
    split
    · refine .cons (fun j hj => ?_) ih
      obtain ⟨i, h1, _⟩ := (backF_mem s a j r (k+1)).mp hj
      omega
    · exact ih
theorem backF_one {s a : Int} {xs : List Ld} {o : Option Nat} (h : ∀ i, xs[i]? = some (some (s, a)) ↔ o = some i) : backF s a 0 xs = o.toList := by
  have hm : ∀ j, j ∈ backF s a 0 xs ↔ o = some j := fun j => by
    rw [backF_mem]
    constructor
    · rintro ⟨i, h1, h2⟩
      have : j = i := by omega
      subst this; exact (h j).mp h2
    · intro hj; exact ⟨j, by omega, (h j).mpr hj⟩
  have hs := backF_sorted s a xs 0
  cases o with
  | none =>
    cases hB : backF s a 0 xs with
    | nil => rfl
    | cons x r => have := (hm x).mp (by rw [hB]; simp); cases this
  | some i =>
    cases hB : backF s a 0 xs with
    | nil => have := (hm i).mpr rfl; rw [hB] at this; simp at this
    | cons x r =>
      rw [hB] at hs hm
      rw [List.pairwise_cons] at hs
      have hx := (hm x).mp List.mem_cons_self
      cases r with
      | nil => cases hx; rfl
      | cons y r =>
        have hy := (hm y).mp (by simp)
        have := hs.1 y List.mem_cons_self
        rw [hx] at hy; cases hy; omega
theorem back_ch (n : Nat) (eds : List Ed) (h : okE n 0 eds) (q : Nat) (hq : q < n) : backF 0 q 0 (chL n 0 eds) = (movE 0 0 eds q).toList := by
  apply backF_one
  intro i
  rw [chL_get n eds 0 0 i 0 q (by omega) h]
  constructor
  · rintro ⟨_, q', h1, _, _, h2⟩
    have : q = q' := by omega
    subst this; rw [h2]; congr 1; omega
  · intro hi
    exact ⟨rfl, q, rfl, by omega, hq, by rw [hi]; congr 1; omega⟩
theorem chL_src {n : Nat} {eds : List Ed} {i : Nat} {s q : Int} (h : okE n 0 eds) (hg : (chL n 0 eds)[i]? = some (some (s, q))) : s = 0 ∧ ∃ q' : Nat, q = q' ∧ q' < n := by
  obtain ⟨h1, q', h2, _, h3, _⟩ := (chL_get n eds 0 0 i s q (by omega) h).mp hg
  exact ⟨h1, q', h2, h3⟩
theorem chL_ok {n : Nat} {eds : List Ed} (h : okE n 0 eds) (hn : n ≤ 1000) : ∀ l ∈ chL n 0 eds, okL l := by
  intro l hl
  obtain ⟨i, hi⟩ := List.getElem?_of_mem hl
  cases l with
  | none => trivial
  | some p =>
    obtain ⟨s, q⟩ := p
    obtain ⟨rfl, q', rfl, h3⟩ := chL_src h hi
    exact okL_bound (by omega)
end M

set_option linter.all false
set_option maxRecDepth 100000
set_option maxHeartbeats 1000000
namespace M
open PySem TL
def dEd (ed : Ed) : D := .tuple [.int ed.1, .int ed.2.1, dT ed.2.2]
def dEds (eds : List Ed) : D := .tuple (eds.map dEd)
theorem sumI' (l : List Int) : biD .sum [.list (l.map .int)] = .ok (.int l.sum) := by simp [biD, intsOf_map]
def bAre : S := .ite (.or (.not (.isi (.var 3) .tuple)) (.or (.cmp .NotEq (.bi .len (.cons (.var 3) .nil)) (.int 3)) (.one (.not (.call f_is_text (.cons (.idx (.var 3) (.int 2)) .nil)))))) (.ret (.bl false) .nil) .nil (.ite (.or (.not (.call f_is_within (.cons (.idx (.var 3) (.int 0)) (.cons (.var 2) (.cons (.var 1) .nil))))) (.one (.not (.call f_is_within (.cons (.idx (.var 3) (.int 1)) (.cons (.idx (.var 3) (.int 0)) (.cons (.var 1) .nil))))))) (.ret (.bl false) .nil) .nil (.asg (.name 2) (.idx (.var 3) (.int 1)) .nil))
theorem are_loop (k n : Nat) (a : D) : ∀ (eds : List Ed) (last : Nat) (x : Option W), okE n last eds → ∃ env', forB (call T (k+1)) (.name 3) bAre (eds.map dEd) [some (.val a), some (.val (.int n)), some (.val (.int last)), x] = .nx env'
  | [], last, x, _ => ⟨_, rfl⟩
  | (b, e, new) :: r, last, x, ⟨h1, h2, h3, h4, h5⟩ => by
    obtain ⟨env', ih⟩ := are_loop k n a r e (some (.val (dEd (b, e, new)))) h5
    refine ⟨env', ?_⟩
    rw [List.map_cons, forB_cons]
    simp only [bAre] at ih
    have h6 : b ≤ n := by omega
    simp only [dEd] at ih ⊢
    simp [bAre, c_is_text k new h4, c_is_within, isWithin, h1, h2, h3, h6]
    exact ih
theorem c_are_edits (k n : Nat) (eds : List Ed) (h : okE n 0 eds) (hl : eds.length ≤ 19) : call T (k+2) f_are_edits [dEds eds, .int n] = .ok (.bool true) := by
  rw [call_eq T_are_edits rfl]
  obtain ⟨env', lp⟩ := are_loop k n (dEds eds) eds 0 none h
  simp only [bAre] at lp
  have a1 : ¬ (19 : Int) < (eds.length : Int) := by omega
  have ln : biD .len [dEds eds] = .ok (.int eds.length) := by simp [dEds]
  have it : isT .tuple (dEds eds) = .ok true := rfl
  have sq : seqD (dEds eds) = .ok (eds.map dEd) := rfl
  have lp' : forB (call T (k+1)) (.name 3) (.ite (.or (.not (.isi (.var 3) .tuple)) (.or (.cmp .NotEq (.bi .len (.cons (.var 3) .nil)) (.int 3)) (.one (.not (.call f_is_text (.cons (.idx (.var 3) (.int 2)) .nil)))))) (.ret (.bl false) .nil) .nil (.ite (.or (.not (.call f_is_within (.cons (.idx (.var 3) (.int 0)) (.cons (.var 2) (.cons (.var 1) .nil))))) (.one (.not (.call f_is_within (.cons (.idx (.var 3) (.int 1)) (.cons (.idx (.var 3) (.int 0)) (.cons (.var 1) .nil))))))) (.ret (.bl false) .nil) .nil (.asg (.name 2) (.idx (.var 3) (.int 1)) .nil))) (eds.map dEd) [some (.val (dEds eds)), some (.val (.int n)), some (.val (.int 0)), none] = .nx env' := lp
  simp [d_are_edits, b_are_edits, it, ln, a1, sq, lp']
theorem growE_sum : ∀ eds : List Ed, (eds.map fun ed => (ed.2.2.length : Int) - ((ed.2.1 : Int) - (ed.1 : Int))).sum = growE eds
  | [] => rfl
  | (b, e, new) :: r => by rw [List.map_cons, List.sum_cons, growE_sum r]; rfl
theorem okE_new (n : Nat) : ∀ (eds : List Ed) (at_ : Nat), okE n at_ eds → ∀ ed ∈ eds, ed.2.2.length ≤ 1000
  | (b, e, new) :: r, at_, ⟨h1, h2, h3, h4, h5⟩, ed, he => by
    rcases List.mem_cons.mp he with rfl | he
    · exact h4
    · exact okE_new n r e h5 ed he
theorem c_look_edits (k : Nat) (t : List Nat) (ht : t.length ≤ 1000) (eds : List Ed) (h : okE t.length 0 eds) (hl : eds.length ≤ 19) :
    call T (k+3) f_look_edits [dT t, dEds eds] = if (chT t 0 eds).length ≤ 1000 then .ok .none else .exc 5 := by
  rw [call_eq T_look_edits rfl]
  have ae := c_are_edits k t.length eds h hl
  have a1 : t.length ≤ 100000 := by omega
  have c := compB_of (Φ := call T (k+2)) (x := .bin .Sub (.bi .len (.cons (.var 4) .nil)) (.bin .Sub (.var 3) (.var 2))) (t := .t3 (.name 2) (.name 3) (.name 4)) (c := .none) (env := [some (.val (dT t)), some (.val (dEds eds)), none, none, none]) eds dEd (fun ed => .int ((ed.2.2.length : Int) - ((ed.2.1 : Int) - (ed.1 : Int)))) (by simp; omega) fun ed he => by
    have := okE_new _ eds 0 h ed he
    have a2 : ed.2.2.length ≤ 100000 := by omega
    simp [Tg.slots, wipeE, dEd, a2]
  have ce : eds.map (fun ed => PyData.int ((ed.2.2.length : Int) - ((ed.2.1 : Int) - (ed.1 : Int)))) = (eds.map fun ed => (ed.2.2.length : Int) - ((ed.2.1 : Int) - (ed.1 : Int))).map .int := by rw [List.map_map]; rfl
  rw [ce] at c
  have su := sumI' (eds.map fun ed => (ed.2.2.length : Int) - ((ed.2.1 : Int) - (ed.1 : Int)))
  rw [growE_sum] at su
  obtain ⟨MM, hMM⟩ : ∃ MM, (eds.map fun ed => (ed.2.2.length : Int) - ((ed.2.1 : Int) - (ed.1 : Int))).map PyData.int = MM := ⟨_, rfl⟩
  rw [hMM] at c su
  have sq : seqD (dEds eds) = .ok (eds.map dEd) := rfl
  have cl := chT_len t eds 0 (by omega) h
  have tt := c_is_text (k+1) t ht
  by_cases hs : (chT t 0 eds).length ≤ 1000
  · have b1 : ¬ (1000 : Int) < (t.length : Int) + growE eds := by omega
    rw [if_pos hs]
    simp [d_look_edits, b_look_edits, tt, a1, ae, sq, c, su, b1]
  · have b1 : (1000 : Int) < (t.length : Int) + growE eds := by omega
    rw [if_neg hs]
    simp [d_look_edits, b_look_edits, tt, a1, ae, sq, c, su, b1]
/-! changed -/
def deedsE : Nat → List Ed → List Deed
  | _, [] => []
  | at_, (b, e, new) :: r => .copy 0 at_ b :: .put new :: deedsE e r
def lastE : Nat → List Ed → Nat
  | at_, [] => at_
  | _, (_, e, _) :: r => lastE e r
theorem deedsE_len : ∀ (eds : List Ed) (at_ : Nat), (deedsE at_ eds).length = 2 * eds.length
  | [], _ => rfl
  | (b, e, new) :: r, at_ => by simp only [deedsE, List.length_cons, deedsE_len r e]; omega
theorem deedsE_ok (t : List Nat) : ∀ (eds : List Ed) (at_ : Nat), at_ ≤ t.length → okE t.length at_ eds → ∀ d ∈ deedsE at_ eds ++ [.copy 0 (lastE at_ eds) t.length], okDeed [t] d
  | [], at_, h, _, d, hd => by
    have : d = .copy 0 at_ t.length := by simpa [deedsE, lastE] using hd
    subst this
    exact ⟨t, rfl, h, by omega⟩
  | (b, e, new) :: r, at_, h, ⟨h1, h2, h3, h4, h5⟩, d, hd => by
    have ih := deedsE_ok t r e h3 h5
    simp only [deedsE, lastE, List.cons_append] at hd
    rcases List.mem_cons.mp hd with rfl | hd
    · exact ⟨t, rfl, h1, by omega⟩
    · rcases List.mem_cons.mp hd with rfl | hd
      · exact h4
      · exact ih d hd
theorem deedsE_tx (t : List Nat) : ∀ (eds : List Ed) (at_ : Nat), txs [t] (deedsE at_ eds ++ [.copy 0 (lastE at_ eds) t.length]) = chT t at_ eds
  | [], at_ => by
    simp only [deedsE, lastE, chT, txs, List.nil_append, List.flatMap_cons, List.flatMap_nil, txD, List.append_nil]
    show ((t.drop at_).take (t.length - at_)) = _
    exact List.take_of_length_le (by simp)
  | (b, e, new) :: r, at_ => by
    have ih := deedsE_tx t r e
    simp only [txs] at ih
    simp only [deedsE, lastE, chT, txs, List.cons_append, List.flatMap_cons, txD, ih]
    rfl
theorem deedsE_ld (n : Nat) : ∀ (eds : List Ed) (at_ : Nat), ldss (deedsE at_ eds ++ [.copy 0 (lastE at_ eds) n]) = chL n at_ eds
  | [], at_ => by
    simp only [deedsE, lastE, chL, ldss, List.nil_append, List.flatMap_cons, List.flatMap_nil, ldsD, List.append_nil]
    rfl
  | (b, e, new) :: r, at_ => by
    have ih := deedsE_ld n r e
    simp only [ldss] at ih
    simp only [deedsE, lastE, chL, ldss, List.cons_append, List.flatMap_cons, ldsD, ih]
    rfl
def bChg : S := .asg (.name 2) (.bin .Add (.var 2) (.lst (.cons (.tup (.cons (.str "copy") (.cons (.int 0) (.cons (.var 3) (.cons (.var 4) .nil))))) (.cons (.tup (.cons (.str "put") (.cons (.var 6) .nil))) .nil)))) (.asg (.name 3) (.var 5) .nil)
theorem chg_loop (Φ : Nat → List D → R D) (a c : D) : ∀ (eds : List Ed) (at_ : Nat) (dd : List D) (x y z : Option W), dd.length + 2 * eds.length ≤ 1000 →
    ∃ x' y' z', forB Φ (.t3 (.name 4) (.name 5) (.name 6)) bChg (eds.map dEd) [some (.val a), some (.val c), some (.val (.list dd)), some (.val (.int at_)), x, y, z] = .nx [some (.val a), some (.val c), some (.val (.list (dd ++ (deedsE at_ eds).map dDeed))), some (.val (.int (lastE at_ eds))), x', y', z']
  | [], at_, dd, x, y, z, _ => ⟨x, y, z, by simp [deedsE, lastE]⟩
  | (b, e, new) :: r, at_, dd, x, y, z, hl => by
    rw [List.length_cons] at hl
    obtain ⟨x', y', z', ih⟩ := chg_loop Φ a c r e (dd ++ [.tuple [.str "copy", .int 0, .int at_, .int b], .tuple [.str "put", dT new]]) (some (.val (.int b))) (some (.val (.int e))) (some (.val (dT new))) (by simp; omega)
    refine ⟨x', y', z', ?_⟩
    rw [List.map_cons, forB_cons]
    have a1 : dd.length + 2 ≤ 100000 := by omega
    simp only [bChg] at ih
    simp only [dEd]
    simp [bChg, a1]
    simp only [deedsE, lastE, List.map_cons, dDeed]
    simpa using ih
theorem c_changed (k : Nat) (t : List Nat) (ht : t.length ≤ 1000) (eds : List Ed) (h : okE t.length 0 eds) (hl : eds.length ≤ 19) (hs : (chT t 0 eds).length ≤ 1000) :
    call T (k+5) f_changed [dT t, dEds eds] = .ok (.tuple [dT (chT t 0 eds), lm (chL t.length 0 eds)]) := by
  rw [call_eq T_changed rfl]
  have le := c_look_edits (k+1) t ht eds h hl
  rw [if_pos hs] at le
  obtain ⟨x, y, z, lp⟩ := chg_loop (call T (k+4)) (dT t) (dEds eds) eds 0 [] none none none (by simp; omega)
  have sq : seqD (dEds eds) = .ok (eds.map dEd) := rfl
  have mm := c_made k [t] ⟨by simp, by simpa using ht⟩ (deedsE 0 eds ++ [.copy 0 (lastE 0 eds) t.length]) (deedsE_ok t eds 0 (by omega) h) (by rw [List.length_append, deedsE_len]; simp; omega)
  rw [deedsE_tx, deedsE_ld, if_pos hs] at mm
  have a1 : t.length ≤ 100000 := by omega
  have a2 : ((deedsE 0 eds).map dDeed).length + 1 ≤ 100000 := by rw [List.length_map, deedsE_len]; omega
  have mm' : call T (k+4) f_made [.tuple [dT t], .tuple ((deedsE 0 eds).map dDeed ++ [.tuple [.str "copy", .int 0, .int (lastE 0 eds), .int t.length]])] = .ok (.tuple [dT (chT t 0 eds), lm (chL t.length 0 eds)]) := by
    rw [List.map_append] at mm
    exact mm
  simp only [bChg, List.nil_append] at lp
  obtain ⟨DD, hDD⟩ : ∃ DD, (deedsE 0 eds).map dDeed = DD := ⟨_, rfl⟩
  rw [hDD] at lp a2 mm'
  have lp' : forB (call T (k+4)) (.t3 (.name 4) (.name 5) (.name 6)) (.asg (.name 2) (.bin .Add (.var 2) (.lst (.cons (.tup (.cons (.str "copy") (.cons (.int 0) (.cons (.var 3) (.cons (.var 4) .nil))))) (.cons (.tup (.cons (.str "put") (.cons (.var 6) .nil))) .nil)))) (.asg (.name 3) (.var 5) .nil)) (eds.map dEd) [some (.val (dT t)), some (.val (dEds eds)), some (.val (.list [])), some (.val (.int 0)), none, none, none] = .nx [some (.val (dT t)), some (.val (dEds eds)), some (.val (.list DD)), some (.val (.int (lastE 0 eds))), x, y, z] := lp
  simp [d_changed, b_changed, le, sq, lp', a1, a2, mm']
/-! undone -/
def bUnd : S := .app 2 (.tup (.cons (.bin .Add (.var 4) (.var 3)) (.cons (.bin .Add (.bin .Add (.var 4) (.var 3)) (.bi .len (.cons (.var 6) .nil))) (.cons (.sl (.var 0) (.some (.var 4)) (.some (.var 5))) .nil)))) (.aug 3 .Add (.bin .Sub (.bi .len (.cons (.var 6) .nil)) (.bin .Sub (.var 5) (.var 4))) .nil)
theorem und_loop (Φ : Nat → List D → R D) (t : List Nat) (ht : t.length ≤ 1000) (c : D) : ∀ (eds : List Ed) (p at_ : Nat) (F : List D) (x y z : Option W), okE t.length at_ eds → F.length + eds.length ≤ 1000 →
    ∃ g x' y' z', forB Φ (.t3 (.name 4) (.name 5) (.name 6)) bUnd (eds.map dEd) [some (.val (dT t)), some (.val c), some (.own F), some (.val (.int ((p : Int) - (at_ : Int)))), x, y, z] = .nx [some (.val (dT t)), some (.val c), some (.own (F ++ (undoE t p at_ eds).map dEd)), some (.val (.int g)), x', y', z']
  | [], p, at_, F, x, y, z, _, _ => ⟨_, x, y, z, by simp [undoE]; rfl⟩
  | (b, e, new) :: r, p, at_, F, x, y, z, ⟨h1, h2, h3, h4, h5⟩, hl => by
    rw [List.length_cons] at hl
    obtain ⟨g, x', y', z', ih⟩ := und_loop Φ t ht c r (p + (b - at_) + new.length) e (F ++ [dEd (p + (b - at_), p + (b - at_) + new.length, (t.drop b).take (e - b))]) (some (.val (.int b))) (some (.val (.int e))) (some (.val (dT new))) h5 (by simp; omega)
    refine ⟨g, x', y', z', ?_⟩
    rw [List.map_cons, forB_cons]
    have a1 : F.length < 100000 := by omega
    have a2 : new.length ≤ 100000 := by omega
    have a3 : t.length ≤ 100000 := by omega
    have hc := cutL_mid t b e h2 h3
    have e1 : (b : Int) + ((p : Int) - (at_ : Int)) = ((p + (b - at_) : Nat) : Int) := by omega
    have e2 : ((p + (b - at_) : Nat) : Int) + (new.length : Int) = ((p + (b - at_) + new.length : Nat) : Int) := by omega
    have e3 : (p : Int) - (at_ : Int) + ((new.length : Int) - ((e : Int) - (b : Int))) = ((p + (b - at_) + new.length : Nat) : Int) - (e : Int) := by omega
    simp only [bUnd] at ih
    simp only [dEd] at ih ⊢
    have eu : (undoE t p at_ ((b, e, new) :: r)) = (p + (b - at_), p + (b - at_) + new.length, (t.drop b).take (e - b)) :: undoE t (p + (b - at_) + new.length) e r := rfl
    rw [eu, List.map_cons]
    simp [-Int.natCast_add, bUnd, a1, a2, a3, hc, e1, e2, e3]
    rw [List.append_assoc] at ih
    simpa [-Int.natCast_add, dEd] using ih
theorem c_undone (k : Nat) (t : List Nat) (ht : t.length ≤ 1000) (eds : List Ed) (h : okE t.length 0 eds) (hl : eds.length ≤ 19) (hs : (chT t 0 eds).length ≤ 1000) :
    call T (k+4) f_undone [dT t, dEds eds] = .ok (dEds (undoE t 0 0 eds)) := by
  rw [call_eq T_undone rfl]
  have le := c_look_edits k t ht eds h hl
  rw [if_pos hs] at le
  obtain ⟨g, x, y, z, lp⟩ := und_loop (call T (k+3)) t ht (dEds eds) eds 0 0 [] none none none h (by simp; omega)
  have sq : seqD (dEds eds) = .ok (eds.map dEd) := rfl
  simp only [bUnd, List.nil_append] at lp
  have lp' : forB (call T (k+3)) (.t3 (.name 4) (.name 5) (.name 6)) (.app 2 (.tup (.cons (.bin .Add (.var 4) (.var 3)) (.cons (.bin .Add (.bin .Add (.var 4) (.var 3)) (.bi .len (.cons (.var 6) .nil))) (.cons (.sl (.var 0) (.some (.var 4)) (.some (.var 5))) .nil)))) (.aug 3 .Add (.bin .Sub (.bi .len (.cons (.var 6) .nil)) (.bin .Sub (.var 5) (.var 4))) .nil)) (eds.map dEd) [some (.val (dT t)), some (.val (dEds eds)), some (.own []), some (.val (.int 0)), none, none, none] = .nx [some (.val (dT t)), some (.val (dEds eds)), some (.own ((undoE t 0 0 eds).map dEd)), some (.val (.int g)), x, y, z] := lp
  have fin : PyData.tuple ((undoE t 0 0 eds).map dEd) = dEds (undoE t 0 0 eds) := rfl
  simp [d_undone, b_undone, le, sq, lp', fin]
/-! moved -/
def bMov : S := .ite (.chain .LtE .Lt (.var 4) (.var 2) (.var 5)) (.ret .non .nil) .nil (.ite (.cmp .LtE (.var 5) (.var 2)) (.aug 3 .Add (.bin .Sub (.bi .len (.cons (.var 6) .nil)) (.bin .Sub (.var 5) (.var 4))) .nil) .nil .nil)
theorem mov_late (Φ : Nat → List D → R D) (n : Nat) (a c : D) (q : Nat) (g : Int) : ∀ (eds : List Ed) (at_ : Nat) (x y z : Option W), okE n at_ eds → q < at_ →
    ∃ x' y' z', forB Φ (.t3 (.name 4) (.name 5) (.name 6)) bMov (eds.map dEd) [some (.val a), some (.val c), some (.val (.int q)), some (.val (.int g)), x, y, z] = .nx [some (.val a), some (.val c), some (.val (.int q)), some (.val (.int g)), x', y', z']
  | [], at_, x, y, z, _, _ => ⟨x, y, z, rfl⟩
  | (b, e, new) :: r, at_, x, y, z, ⟨h1, h2, h3, h4, h5⟩, hq => by
    obtain ⟨x', y', z', ih⟩ := mov_late Φ n a c q g r e (some (.val (.int b))) (some (.val (.int e))) (some (.val (dT new))) h5 (by omega)
    refine ⟨x', y', z', ?_⟩
    rw [List.map_cons, forB_cons]
    have b1 : ¬ b ≤ q := by omega
    have b2 : ¬ e ≤ q := by omega
    simp only [bMov] at ih
    simp only [dEd]
    simp [bMov, b1, b2]
    exact ih
theorem mov_loop (Φ : Nat → List D → R D) (n : Nat) (a c : D) (q : Nat) : ∀ (eds : List Ed) (p at_ : Nat) (x y z : Option W), okE n at_ eds → at_ ≤ q →
    (movE p at_ eds q = none ∧ forB Φ (.t3 (.name 4) (.name 5) (.name 6)) bMov (eds.map dEd) [some (.val a), some (.val c), some (.val (.int q)), some (.val (.int ((p : Int) - (at_ : Int)))), x, y, z] = .rt .none) ∨
    ∃ i x' y' z', movE p at_ eds q = some i ∧ forB Φ (.t3 (.name 4) (.name 5) (.name 6)) bMov (eds.map dEd) [some (.val a), some (.val c), some (.val (.int q)), some (.val (.int ((p : Int) - (at_ : Int)))), x, y, z] = .nx [some (.val a), some (.val c), some (.val (.int q)), some (.val (.int ((i : Int) - (q : Int)))), x', y', z']
  | [], p, at_, x, y, z, _, hq => .inr ⟨p + (q - at_), x, y, z, rfl, by
      have : (p : Int) - (at_ : Int) = ((p + (q - at_) : Nat) : Int) - (q : Int) := by omega
      rw [this]; rfl⟩
  | (b, e, new) :: r, p, at_, x, y, z, ⟨h1, h2, h3, h4, h5⟩, hq => by
    rw [List.map_cons, forB_cons]
    simp only [movE, dEd]
    by_cases c1 : q < b
    · obtain ⟨x', y', z', ih⟩ := mov_late Φ n a c q ((p : Int) - (at_ : Int)) r e (some (.val (.int b))) (some (.val (.int e))) (some (.val (dT new))) h5 (by omega)
      right
      refine ⟨p + (q - at_), x', y', z', if_pos c1, ?_⟩
      have b1 : ¬ b ≤ q := by omega
      have b2 : ¬ e ≤ q := by omega
      have e1 : ((p + (q - at_) : Nat) : Int) - (q : Int) = (p : Int) - (at_ : Int) := by omega
      rw [e1]
      simp only [bMov] at ih
      simp [bMov, b1, b2]
      exact ih
    · rw [if_neg c1]
      by_cases c2 : q < e
      · left
        refine ⟨if_pos c2, ?_⟩
        have b1 : b ≤ q := by omega
        simp [bMov, b1, c2]
      · rw [if_neg c2]
        have b1 : b ≤ q := by omega
        have b2 : e ≤ q := by omega
        have a2 : new.length ≤ 100000 := by omega
        have e3 : (p : Int) - (at_ : Int) + ((new.length : Int) - ((e : Int) - (b : Int))) = ((p + (b - at_) + new.length : Nat) : Int) - (e : Int) := by omega
        rcases mov_loop Φ n a c q r (p + (b - at_) + new.length) e (some (.val (.int b))) (some (.val (.int e))) (some (.val (dT new))) h5 b2 with ⟨i1, i2⟩ | ⟨i, x', y', z', i1, i2⟩
        · left
          refine ⟨i1, ?_⟩
          simp only [bMov] at i2
          simp [-Int.natCast_add, bMov, b1, c2, b2, a2, e3]
          exact i2
        · right
          refine ⟨i, x', y', z', i1, ?_⟩
          simp only [bMov] at i2
          simp [-Int.natCast_add, bMov, b1, c2, b2, a2, e3]
          exact i2
def dMv : Option Nat → D
  | none => .none
  | some i => .int (i : Int)
theorem c_moved (k : Nat) (t : List Nat) (ht : t.length ≤ 1000) (eds : List Ed) (h : okE t.length 0 eds) (hl : eds.length ≤ 19) (hs : (chT t 0 eds).length ≤ 1000) (q : Nat) (hq : q < t.length) :
    call T (k+4) f_moved [dT t, dEds eds, .int q] = .ok (dMv (movE 0 0 eds q)) := by
  rw [call_eq T_moved rfl]
  have le := c_look_edits k t ht eds h hl
  rw [if_pos hs] at le
  have sq : seqD (dEds eds) = .ok (eds.map dEd) := rfl
  have a1 : t.length ≤ 100000 := by omega
  have a2 : (q : Int) ≤ (t.length : Int) - 1 := by omega
  rcases mov_loop (call T (k+3)) t.length (dT t) (dEds eds) q eds 0 0 none none none h (by omega) with ⟨i1, i2⟩ | ⟨i, x', y', z', i1, i2⟩
  · have i2' : forB (call T (k+3)) (.t3 (.name 4) (.name 5) (.name 6)) bMov (eds.map dEd) [some (.val (dT t)), some (.val (dEds eds)), some (.val (.int q)), some (.val (.int 0)), none, none, none] = .rt .none := i2
    simp only [bMov] at i2'
    rw [i1]
    simp [d_moved, b_moved, le, sq, a1, c_is_within, isWithin, a2, i2', dMv]
  · have i2' : forB (call T (k+3)) (.t3 (.name 4) (.name 5) (.name 6)) bMov (eds.map dEd) [some (.val (dT t)), some (.val (dEds eds)), some (.val (.int q)), some (.val (.int 0)), none, none, none] = .nx [some (.val (dT t)), some (.val (dEds eds)), some (.val (.int q)), some (.val (.int ((i : Int) - (q : Int)))), x', y', z'] := i2
    simp only [bMov] at i2'
    have e1 : (q : Int) + ((i : Int) - (q : Int)) = (i : Int) := by omega
    rw [i1]
    simp [d_moved, b_moved, le, sq, a1, c_is_within, isWithin, a2, i2', dMv, e1]
end M

set_option linter.all false
set_option maxRecDepth 100000
set_option maxHeartbeats 1000000
namespace M
open PySem TL
/-! ### the law's changes -/
theorem okE_map (n : Nat) (f : Nat → Ed) (N : Nat) (hf : ∀ j, j < N → (f j).1 ≤ (f j).2.1 ∧ (f j).2.1 ≤ n ∧ (f j).2.2.length ≤ 1000) (hm : ∀ j, j + 1 < N → (f j).2.1 ≤ (f (j+1)).1) : ∀ (q s at_ : Nat), s + q ≤ N → (q = 0 ∨ at_ ≤ (f s).1) → okE n at_ ((List.range' s q).map f)
  | 0, s, at_, _, _ => trivial
  | q + 1, s, at_, hs, ha => by
    rw [List.range'_succ, List.map_cons]
    have h := hf s (by omega)
    have ha : at_ ≤ (f s).1 := by
      rcases ha with ha | ha
      · cases ha
      · exact ha
    obtain ⟨⟨b, e, new⟩, hfs⟩ : ∃ x, f s = x := ⟨_, rfl⟩
    rw [hfs] at h ha ⊢
    refine ⟨ha, h.1, h.2.1, h.2.2, okE_map n f N hf hm q (s+1) e (by omega) ?_⟩
    cases q with
    | zero => exact .inl rfl
    | succ q =>
      have := hm s (by omega)
      rw [hfs] at this
      exact .inr this
theorem c_law_edits (k : Nat) {sd : D} {ns : List Int} (sc : Scr sd ns) (i : Nat) (t : List Nat) (ht : t.length ≤ 1000) :
    ∃ eds : List Ed, call T (k+3) f_law_edits [sd, .int i, dT t] = .ok (dEds eds) ∧ okE t.length 0 eds ∧ eds.length ≤ 5 ∧ ∀ ed ∈ eds, ed.2.2.length ≤ 5 ∧ plainCs ed.2.2 := by
  obtain ⟨L0, hL0⟩ : ∃ L0 : List Int, (List.range 10).map (fun (j : Nat) => mixN (cell ns ((i : Int) + (j : Int) % 3) + 53 * (j : Int) * (j : Int)) 9949 ((t.length : Int) + 1)) = L0 := ⟨_, rfl⟩
  have hl0 : L0.length = 10 := by rw [← hL0]; simp
  have hb0 : ∀ x ∈ L0, 0 ≤ x ∧ x ≤ t.length := by
    intro x hx
    rw [← hL0] at hx
    obtain ⟨j, _, rfl⟩ := List.mem_map.mp hx
    have := mixN_ge (cell ns ((i : Int) + (j : Int) % 3) + 53 * (j : Int) * (j : Int)) 9949 ((t.length : Int) + 1) (by omega)
    have := mixN_lt (cell ns ((i : Int) + (j : Int) % 3) + 53 * (j : Int) * (j : Int)) 9949 ((t.length : Int) + 1) (by omega)
    omega
  obtain ⟨s1, s2, s3⟩ := sortI_spec L0
  have so := sortedI L0
  obtain ⟨C, hC⟩ : ∃ C, sortI L0 = C := ⟨_, rfl⟩
  rw [hC] at s1 s2 s3 so
  have hCl : C.length = 10 := by omega
  have hCb : ∀ x ∈ C, 0 ≤ x ∧ x ≤ t.length := fun x hx => hb0 x ((s3 x).mp hx)
  obtain ⟨cf, hcf⟩ : ∃ cf : Nat → Nat, cf = fun j => (C.getD j 0).toNat := ⟨_, rfl⟩
  have hcg : ∀ j, j < 10 → C[j]? = some ((cf j : Nat) : Int) ∧ cf j ≤ t.length := by
    intro j hj
    have h1 : C[j]? = some C[j] := List.getElem?_eq_getElem (by omega)
    have h2 := hCb C[j] (List.getElem_mem _)
    have h3 : C.getD j 0 = C[j] := by rw [List.getD_eq_getElem?_getD, h1]; rfl
    have h4 : cf j = C[j].toNat := by rw [hcf]; show (C.getD j 0).toNat = _; rw [h3]
    rw [h1, h4]
    exact ⟨by congr 1; omega, by omega⟩
  have hcm : ∀ j, j + 1 < 10 → cf j ≤ cf (j+1) := by
    intro j hj
    have h1 := (hcg j (by omega)).1
    have h2 := (hcg (j+1) (by omega)).1
    have := List.pairwise_iff_getElem.mp s2 j (j+1) (by omega) (by omega) (by omega)
    obtain ⟨_, e1⟩ := List.getElem?_eq_some_iff.mp h1
    obtain ⟨_, e2⟩ := List.getElem?_eq_some_iff.mp h2
    rw [e1, e2] at this
    omega
  obtain ⟨f, hf⟩ : ∃ f : Nat → Ed, f = fun j => (cf (2 * j), cf (2 * j + 1), textN (seedN (cell ns ((i : Int) + 4) + (j : Int)) j) 5) := ⟨_, rfl⟩
  obtain ⟨q, hq, hq6⟩ : ∃ n : Nat, cell ns ((i : Int) + 3) % 6 = n ∧ n < 6 := ⟨(cell ns ((i : Int) + 3) % 6).toNat, by omega, by omega⟩
  refine ⟨(List.range q).map f, ?_, ?_, by simp; omega, ?_⟩
  rotate_left
  · rw [List.range_eq_range']
    refine okE_map t.length f 5 (fun j hj => ?_) (fun j hj => ?_) q 0 0 (by omega) (.inr (Nat.zero_le _))
    · rw [hf]
      have := textN_len (seedN (cell ns ((i : Int) + 4) + (j : Int)) j) 5 (by decide)
      exact ⟨hcm (2 * j) (by omega), (hcg (2 * j + 1) (by omega)).2, Nat.le_trans this (by decide)⟩
    · rw [hf]
      exact hcm (2 * j + 1) (by omega)
  · intro ed he
    obtain ⟨j, _, rfl⟩ := List.mem_map.mp he
    rw [hf]
    exact ⟨textN_len _ 5 (by decide), textN_plain _ _⟩
  rw [call_eq T_law_edits rfl]
  have a1 : t.length ≤ 100000 := by omega
  have c := compB_of (Φ := call T (k+2)) (x := .call f_law_mix (.cons (.bin .Add (.call f_law_cell (.cons (.var 0) (.cons (.bin .Add (.var 1) (.bin .Mod (.var 5) (.int 3))) .nil))) (.bin .Mult (.bin .Mult (.int 53) (.var 5)) (.var 5))) (.cons (.int 9949) (.cons (.bin .Add (.bi .len (.cons (.var 2) .nil)) (.int 1)) .nil)))) (t := .name 5) (c := .none) (env := [some (.val sd), some (.val (.int i)), some (.val (dT t)), none, none, none]) (List.range 10) (fun (j : Nat) => PyData.int (j : Int)) (fun (j : Nat) => .int (mixN (cell ns ((i : Int) + (j : Int) % 3) + 53 * (j : Int) * (j : Int)) 9949 ((t.length : Int) + 1))) (by simp) fun j hj => by
    have hj : j < 10 := by simpa using hj
    have m1 := c_mix (k+1) (cell ns ((i : Int) + (j : Int) % 3) + 53 * (j : Int) * (j : Int)) 9949 ((t.length : Int) + 1) (by decide) (by decide) (by omega)
    have m2 := sc (k+1) ((i : Int) + (j : Int) % 3) (by omega)
    have s1 : smallI 53 = true := by decide
    have s2 : smallI (j : Int) = true := by simp [smallI]; omega
    simp [Tg.slots, wipeE, m1, m2, s1, s2, a1]
  have ce : (List.range 10).map (fun (j : Nat) => PyData.int (mixN (cell ns ((i : Int) + (j : Int) % 3) + 53 * (j : Int) * (j : Int)) 9949 ((t.length : Int) + 1))) = L0.map .int := by rw [← hL0, List.map_map]; rfl
  rw [ce] at c
  have r10 : rngD (.int 10) = .ok ((List.range 10).map fun (k : Nat) => PyData.int (k : Int)) := rfl
  obtain ⟨R10, hR10⟩ : ∃ R10, (List.range 10).map (fun (k : Nat) => PyData.int (k : Int)) = R10 := ⟨_, rfl⟩
  rw [hR10] at c r10
  have cc := sc (k+1) ((i : Int) + 3) (by omega)
  simp [-rngI4, d_law_edits, b_law_edits, r10, c, so, cc, hq, rng_nat q (by omega)]
  refine endR_for (fun j env => ∃ x, env = [some (.val sd), some (.val (.int i)), some (.val (dT t)), some (.val (.list (C.map .int))), some (.own (((List.range j).map f).map dEd)), x]) ⟨none, rfl⟩ ?_ ?_
  · rintro j e env hd ⟨x, rfl⟩
    obtain ⟨rfl, hj⟩ := rng_get hd
    have g1 := (hcg (2 * j) (by omega)).1
    have g2 := (hcg (2 * j + 1) (by omega)).1
    have i1 : L2.atI (C.map PyData.int) (2 * (j : Int)) = some (.int (cf (2 * j) : Nat)) := by
      refine atI_get (by omega) ?_
      have : (2 * (j : Int)).toNat = 2 * j := by omega
      rw [this, List.getElem?_map, g1]; rfl
    have i2 : L2.atI (C.map PyData.int) (2 * (j : Int) + 1) = some (.int (cf (2 * j + 1) : Nat)) := by
      refine atI_get (by omega) ?_
      have : (2 * (j : Int) + 1).toNat = 2 * j + 1 := by omega
      rw [this, List.getElem?_map, g2]; rfl
    have c4 := sc (k+1) ((i : Int) + 4) (by omega)
    have sd1 := c_seed (k+1) (cell ns ((i : Int) + 4) + (j : Int)) j
    have tx := c_law_text k (seedN (cell ns ((i : Int) + 4) + (j : Int)) j) 5 (by decide) (by decide)
    have sm : smallI 2 = true := by decide
    have ll : (((List.range j).map f).map dEd).length < 100000 := by simp; omega
    rw [List.range_succ, List.map_append, List.map_append]
    obtain ⟨F, hF⟩ : ∃ F, ((List.range j).map f).map dEd = F := ⟨_, rfl⟩
    rw [hF] at ll ⊢
    have ef : dEd (f j) = .tuple [.int (cf (2 * j) : Nat), .int (cf (2 * j + 1) : Nat), dT (textN (seedN (cell ns ((i : Int) + 4) + (j : Int)) j) 5)] := by rw [hf]; rfl
    refine ⟨[some (.val sd), some (.val (.int i)), some (.val (dT t)), some (.val (.list (C.map .int))), some (.own (F ++ [dEd (f j)])), some (.val (.int j))], ?_, _, rfl⟩
    rw [ef]
    simp [i1, i2, c4, sd1, tx, sm, ll]
  · rintro env' ⟨x, rfl⟩
    rw [List.length_map, List.length_range]
    have fin : PyData.tuple (((List.range q).map f).map dEd) = dEds ((List.range q).map f) := rfl
    simp only [s_ret', e_bi, es_cons, es_nil, e_ow, getO_s, getO_0]
    rfl
theorem chT_le (t : List Nat) (eds : List Ed) (h : okE t.length 0 eds) (hl : eds.length ≤ 5) (hn : ∀ ed ∈ eds, ed.2.2.length ≤ 5 ∧ plainCs ed.2.2) : (chT t 0 eds).length ≤ t.length + 25 := by
  have cl := chT_len t eds 0 (by omega) h
  have : ∀ (es : List Ed) (at_ : Nat), okE t.length at_ es → (∀ ed ∈ es, ed.2.2.length ≤ 5) → growE es ≤ 5 * (es.length : Int) := by
    intro es
    induction es with
    | nil => intro _ _ _; simp [growE]
    | cons ed r ih =>
      obtain ⟨b, e, new⟩ := ed
      rintro at_ ⟨h1, h2, h3, h4, h5⟩ hh
      have := ih e h5 fun x hx => hh x (List.mem_cons_of_mem _ hx)
      have := hh _ List.mem_cons_self
      simp only [growE, List.length_cons] at *
      omega
  have := this eds 0 h fun ed he => (hn ed he).1
  omega
theorem chT_plain (t : List Nat) (ht : plainCs t) : ∀ (eds : List Ed) (at_ : Nat), (∀ ed ∈ eds, plainCs ed.2.2) → plainCs (chT t at_ eds)
  | [], at_, _ => fun x hx => ht x (List.mem_of_mem_drop hx)
  | (b, e, new) :: r, at_, h => by
    have ih := chT_plain t ht r e fun ed he => h ed (List.mem_cons_of_mem _ he)
    have hn := h _ List.mem_cons_self
    simp only [chT]
    exact plain_app (fun x hx => ht x (List.mem_of_mem_drop (List.mem_of_mem_take hx))) (plain_app hn ih)
theorem undo_plain (t : List Nat) (ht : plainCs t) : ∀ (eds : List Ed) (p at_ : Nat), ∀ ed ∈ undoE t p at_ eds, plainCs ed.2.2
  | (b, e, new) :: r, p, at_, ed, he => by
    simp only [undoE] at he
    rcases List.mem_cons.mp he with rfl | he
    · exact fun x hx => ht x (List.mem_of_mem_drop (List.mem_of_mem_take hx))
    · exact undo_plain t ht r _ _ ed he
theorem pd_dEds (eds : List Ed) (h : ∀ ed ∈ eds, plainCs ed.2.2) : pd (dEds eds) := by
  have h1 : ∀ d ∈ eds.map dEd, pl d = true ∧ d.depth ≤ 2 := by
    intro d hd
    obtain ⟨ed, he, rfl⟩ := List.mem_map.mp hd
    have := (pd_str (h ed he)).1
    refine ⟨by simp [dEd, pl, plL]; simpa [pl] using this, by simp [dEd, PyData.depth, PyData.depthAll]⟩
  have h2 := depthAll_le fun d hd => (h1 d hd).2
  refine ⟨?_, ?_⟩
  · simp [dEds, pl, plL_all fun d hd => (h1 d hd).1]
  · simp only [dEds, PyData.depth]; omega
end M

set_option linter.all false
set_option maxRecDepth 100000
set_option maxHeartbeats 1000000
namespace M
open PySem TL
/-! ### from the end on -/
/-- changes done one by one, the last ones first -/
def fromEnd {α : Type} (new : Ed → List α) : List Ed → List α → List α
  | [], d => d
  | ed :: r, d => fromEnd new r (d.take ed.1 ++ new ed ++ d.drop ed.2.1)
theorem fromEnd_app {α : Type} (new : Ed → List α) : ∀ (a b : List Ed) (d : List α), fromEnd new (a ++ b) d = fromEnd new b (fromEnd new a d)
  | [], b, d => rfl
  | ed :: a, b, d => by simp only [List.cons_append, fromEnd, fromEnd_app new a b]
/-- the same, with any kind of items -/
def chX {α : Type} (t : List α) (new : Ed → List α) : Nat → List Ed → List α
  | at_, [] => t.drop at_
  | at_, ed :: r => (t.drop at_).take (ed.1 - at_) ++ (new ed ++ chX t new ed.2.1 r)
theorem fromEnd_ch {α : Type} (t : List α) (new : Ed → List α) : ∀ (eds : List Ed) (at_ : Nat), at_ ≤ t.length → okE t.length at_ eds → fromEnd new eds.reverse t = t.take at_ ++ chX t new at_ eds
  | [], at_, h, _ => by simp [fromEnd, chX]
  | (b, e, nw) :: r, at_, h, ⟨h1, h2, h3, h4, h5⟩ => by
    rw [List.reverse_cons, fromEnd_app, fromEnd_ch t new r e h3 h5]
    simp only [fromEnd, chX]
    have e1 : (t.take e ++ chX t new e r).take b = t.take b := by
      rw [List.take_append_of_le_length (by simp; omega), List.take_take]
      congr 1; omega
    have e2 : (t.take e ++ chX t new e r).drop e = chX t new e r := by
      have : (t.take e).length = e := by simp; omega
      exact List.drop_left' this
    rw [e1, e2]
    have e3 : t.take b = t.take at_ ++ (t.drop at_).take (b - at_) := (take_drop_mid t at_ b h1).symm
    rw [e3]
    simp
theorem chX_T (t : List Nat) : ∀ (eds : List Ed) (at_ : Nat), chX t (fun ed => ed.2.2) at_ eds = chT t at_ eds
  | [], _ => rfl
  | (b, e, nw) :: r, at_ => by simp only [chX, chT, chX_T t r e]
theorem whole_drop (n a : Nat) : (wholeL n 0).drop a = alL0 a (n - a) := by
  apply List.ext_getElem?
  intro i
  rw [List.getElem?_drop]
  by_cases h : a + i < n
  · simp [wholeL, alL0, h, show i < n - a by omega]
  · simp [wholeL, alL0]
    rw [List.getElem?_eq_none (by simp; omega), List.getElem?_eq_none (by simp; omega)]
    rfl
theorem chX_L (n : Nat) : ∀ (eds : List Ed) (at_ : Nat), at_ ≤ n → okE n at_ eds → chX (wholeL n 0) (fun ed => List.replicate ed.2.2.length (none : Ld)) at_ eds = chL n at_ eds
  | [], at_, h, _ => by simp only [chX, chL, whole_drop]
  | (b, e, nw) :: r, at_, h, ⟨h1, h2, h3, h4, h5⟩ => by
    simp only [chX, chL, chX_L n r e h3 h5, whole_drop]
    congr 1
    apply List.ext_getElem?
    intro i
    by_cases hi : i < b - at_
    · rw [List.getElem?_take_of_lt hi]
      simp [alL0, hi, show i < n - at_ by omega]
    · rw [List.getElem?_eq_none (by simp [alL0]; omega), List.getElem?_eq_none (by simp [alL0]; omega)]
/-- a text changed step by step stays short -/
theorem okE_bound (n : Nat) : ∀ (eds : List Ed) (at_ : Nat), okE n at_ eds → ∀ ed ∈ eds, ed.1 ≤ ed.2.1 ∧ ed.2.1 ≤ n
  | (b, e, nw) :: r, at_, ⟨h1, h2, h3, h4, h5⟩, ed, he => by
    rcases List.mem_cons.mp he with rfl | he
    · exact ⟨h2, h3⟩
    · exact okE_bound n r e h5 ed he
theorem fromEnd_len {α : Type} (new : Ed → List α) (hn : ∀ ed, (new ed).length = ed.2.2.length) : ∀ (l : List Ed) (d : List α), (∀ ed ∈ l, ed.1 ≤ ed.2.1 ∧ ed.2.2.length ≤ 5) → (fromEnd new l d).length ≤ d.length + 5 * l.length
  | [], d, _ => by simp [fromEnd]
  | ed :: r, d, h => by
    have ih := fromEnd_len new hn r (d.take ed.1 ++ new ed ++ d.drop ed.2.1) fun x hx => h x (List.mem_cons_of_mem _ hx)
    obtain ⟨h1, h2⟩ := h ed List.mem_cons_self
    have := hn ed
    simp only [fromEnd]
    rw [List.length_append, List.length_append, List.length_take, List.length_drop] at ih
    rw [List.length_cons]
    omega
theorem fromEnd_take {α : Type} (new : Ed → List α) (l : List Ed) (d : List α) (i : Nat) (ed : Ed) (h : l[i]? = some ed) : fromEnd new (l.take (i+1)) d = (fromEnd new (l.take i) d).take ed.1 ++ new ed ++ (fromEnd new (l.take i) d).drop ed.2.1 := by
  rw [List.take_add_one, h, fromEnd_app]
  rfl
/-- a change and the one that leads back -/
theorem undo_pairs (t : List Nat) : ∀ (eds : List Ed) (p at_ : Nat) (pre : List Nat), pre.length = p → at_ ≤ t.length → okE t.length at_ eds → ∀ (i : Nat) (ed ud : Ed), eds[i]? = some ed → (undoE t p at_ eds)[i]? = some ud →
    ud.2.2 = (t.drop ed.1).take (ed.2.1 - ed.1) ∧ ((pre ++ chT t at_ eds).drop ud.1).take (ud.2.1 - ud.1) = ed.2.2 ∧ ud.1 ≤ ud.2.1 ∧ ud.2.1 ≤ (pre ++ chT t at_ eds).length ∧ ed.1 ≤ ed.2.1 ∧ ed.2.1 ≤ t.length
  | [], p, at_, pre, hp, h, _, i, ed, ud, h1, h2 => by simp at h1
  | (b, e, new) :: r, p, at_, pre, hp, h, ⟨h1, h2, h3, h4, h5⟩, 0, ed, ud, g1, g2 => by
    simp only [undoE, List.getElem?_cons_zero, Option.some.injEq] at g1 g2
    subst g1 g2
    have u := undo_cut t b e new r p at_ pre hp h1 (by omega)
    have lb : ((t.drop at_).take (b - at_)).length = b - at_ := by simp; omega
    refine ⟨rfl, ?_, by simp, ?_, h2, h3⟩
    · simp only [chT]
      have : p + (b - at_) + new.length - (p + (b - at_)) = new.length := by omega
      rw [this]; exact u.2
    · simp only [chT, List.length_append, lb]; omega
  | (b, e, new) :: r, p, at_, pre, hp, h, ⟨h1, h2, h3, h4, h5⟩, i + 1, ed, ud, g1, g2 => by
    have lb : ((t.drop at_).take (b - at_)).length = b - at_ := by simp; omega
    simp only [undoE, List.getElem?_cons_succ] at g1 g2
    have ih := undo_pairs t r (p + (b - at_) + new.length) e (pre ++ ((t.drop at_).take (b - at_) ++ new)) (by simp; omega) h3 h5 i ed ud g1 g2
    have e4 : pre ++ chT t at_ ((b, e, new) :: r) = pre ++ ((t.drop at_).take (b - at_) ++ new) ++ chT t e r := by simp [chT]
    rw [e4]; exact ih
theorem cutT' {α : Type} (xs : List α) (n : Nat) : cutL xs none (some (n : Int)) = xs.take n := by
  unfold cutL
  rw [HT.sIx_none, HT.sIx_nat, List.drop_zero, Nat.sub_zero]
  exact (List.take_eq_take_min ..).symm
theorem cutD' {α : Type} (xs : List α) (n : Nat) : cutL xs (some (n : Int)) none = xs.drop n := by
  unfold cutL
  rw [HT.sIx_none, HT.sIx_nat]
  by_cases h : n ≤ xs.length
  · rw [Nat.min_eq_left h]
    exact List.take_of_length_le (by simp)
  · rw [Nat.min_eq_right (by omega), List.drop_of_length_le (Nat.le_refl _), List.drop_of_length_le (by omega)]
    simp
/-! no changes -/
theorem c_chg_no (k : Nat) (t e : D) (c : Nat) (h : call T k f_look_edits [t, e] = .exc c) : call T (k+1) f_changed [t, e] = .exc c := by
  rw [call_eq T_changed rfl]; simp [d_changed, b_changed, h]
theorem c_und_no (k : Nat) (t e : D) (c : Nat) (h : call T k f_look_edits [t, e] = .exc c) : call T (k+1) f_undone [t, e] = .exc c := by
  rw [call_eq T_undone rfl]; simp [d_undone, b_undone, h]
theorem c_mov_no (k : Nat) (t e p : D) (c : Nat) (h : call T k f_look_edits [t, e] = .exc c) : call T (k+1) f_moved [t, e, p] = .exc c := by
  rw [call_eq T_moved rfl]; simp [d_moved, b_moved, h]
theorem c_look_notext (k : Nat) (t e : D) (h : call T k f_is_text [t] = .ok (.bool false)) : call T (k+1) f_look_edits [t, e] = .exc 2 := by
  rw [call_eq T_look_edits rfl]; simp [d_look_edits, b_look_edits, h]
theorem c_look_noed (k : Nat) (t : List Nat) (ht : t.length ≤ 1000) (e : D) (h : call T (k+1) f_are_edits [e, .int t.length] = .ok (.bool false)) : call T (k+2) f_look_edits [dT t, e] = .exc 3 := by
  rw [call_eq T_look_edits rfl]
  have a1 : t.length ≤ 100000 := by omega
  simp [d_look_edits, b_look_edits, c_is_text k t ht, a1, h]
theorem are_loop2 (k n : Nat) (a : D) : ∀ (eds : List Ed) (last : Nat) (x : Option W), okE n last eds → ∃ last' x', forB (call T (k+1)) (.name 3) bAre (eds.map dEd) [some (.val a), some (.val (.int n)), some (.val (.int last)), x] = .nx [some (.val a), some (.val (.int n)), some (.val (.int (last' : Nat))), x']
  | [], last, x, _ => ⟨last, x, rfl⟩
  | (b, e, new) :: r, last, x, ⟨h1, h2, h3, h4, h5⟩ => by
    obtain ⟨l', x', ih⟩ := are_loop2 k n a r e (some (.val (dEd (b, e, new)))) h5
    refine ⟨l', x', ?_⟩
    rw [List.map_cons, forB_cons]
    simp only [bAre] at ih
    have h6 : b ≤ n := by omega
    simp only [dEd] at ih ⊢
    simp [bAre, c_is_text k new h4, c_is_within, isWithin, h1, h2, h3, h6]
    exact ih
theorem forB_append (Φ : Nat → List D → R D) (t : Tg) (b : S) : ∀ (xs ys : List D) (env : Env), forB Φ t b (xs ++ ys) env = (forB Φ t b xs env).seq (forB Φ t b ys)
  | [], ys, env => rfl
  | x :: xs, ys, env => by
    rw [List.cons_append, forB_cons, forB_cons]
    cases kAsg2 Φ b (asgn t x env) with
    | nx e => simp only [nx_seq]; exact forB_append Φ t b xs ys e
    | rt d => rfl
    | exc c e => rfl
    | bad => rfl
theorem are_tail (k n : Nat) (eds : List Ed) (h : okE n 0 eds) (hl : eds.length < 19) : call T (k+2) f_are_edits [.tuple (eds.map dEd ++ [.tuple [.int 0, .int 0]]), .int n] = .ok (.bool false) := by
  rw [call_eq T_are_edits rfl]
  have a1 : ¬ (19 : Int) < (eds.length : Int) + 1 := by omega
  obtain ⟨l', x', lp⟩ := are_loop2 k n (.tuple (eds.map dEd ++ [.tuple [.int 0, .int 0]])) eds 0 none h
  have lp2 := forB_append (call T (k+1)) (.name 3) bAre (eds.map dEd) [.tuple [.int 0, .int 0]] [some (.val (.tuple (eds.map dEd ++ [.tuple [.int 0, .int 0]]))), some (.val (.int n)), some (.val (.int 0)), none]
  have lp : forB (call T (k+1)) (.name 3) bAre (eds.map dEd) [some (.val (.tuple (eds.map dEd ++ [.tuple [.int 0, .int 0]]))), some (.val (.int n)), some (.val (.int 0)), none] = .nx [some (.val (.tuple (eds.map dEd ++ [.tuple [.int 0, .int 0]]))), some (.val (.int n)), some (.val (.int (l' : Nat))), x'] := lp
  rw [lp, nx_seq, forB_cons] at lp2
  have fin : (kAsg2 (call T (k+1)) bAre (asgn (.name 3) (.tuple [.int 0, .int 0]) [some (.val (.tuple (eds.map dEd ++ [.tuple [.int 0, .int 0]]))), some (.val (.int n)), some (.val (.int (l' : Nat))), x'])) = .rt (.bool false) := by
    simp [bAre]
  rw [fin, rt_seq] at lp2
  simp only [bAre] at lp2
  simp [d_are_edits, b_are_edits, a1, lp2]
theorem are_one (k n : Nat) (d : D) (hd : ∀ env : Env, kAsg2 (call T k) bAre (asgn (.name 3) d [some (.val (.tuple [d])), some (.val (.int n)), some (.val (.int 0)), none]) = .rt (.bool false)) : call T (k+1) f_are_edits [.tuple [d], .int n] = .ok (.bool false) := by
  rw [call_eq T_are_edits rfl]
  have lp : forB (call T k) (.name 3) bAre [d] [some (.val (.tuple [d])), some (.val (.int n)), some (.val (.int 0)), none] = .rt (.bool false) := by
    rw [forB_cons, hd [], rt_seq]
  simp only [bAre] at lp
  simp [d_are_edits, b_are_edits, lp]
end M

set_option linter.all false
set_option maxRecDepth 100000
set_option maxHeartbeats 1000000
namespace M
open PySem
/-! ### maps laid over one another -/
def ovr : Ld → Ld → Ld
  | none, b => b
  | some p, _ => some p
def agr (a b : Ld) : Ld := if a = b then a else none
def wo (s : Int) : Ld → Ld
  | none => none
  | some p => if p.1 = s then none else some p
def ovL (xs ys : List Ld) : List Ld := List.zipWith ovr xs ys
def agL (xs ys : List Ld) : List Ld := List.zipWith agr xs ys
theorem zipD_dLs (xs ys : List Ld) : zipD (dLs xs) (dLs ys) = .ok ((xs.zip ys).map fun p => .tuple [dL p.1, dL p.2]) := by
  simp only [zipD, dLs, seqNL]
  congr 1
  induction xs generalizing ys with
  | nil => rfl
  | cons x xs ih =>
    cases ys with
    | nil => rfl
    | cons y ys => rw [List.map_cons, List.map_cons, List.zipWith_cons_cons, ih ys]; rfl
theorem zw_map (f : Ld → Ld → Ld) (xs ys : List Ld) : (xs.zip ys).map (fun p => dL (f p.1 p.2)) = (List.zipWith f xs ys).map dL := by
  induction xs generalizing ys with
  | nil => rfl
  | cons x xs ih =>
    cases ys with
    | nil => rfl
    | cons y ys => rw [List.zip_cons_cons, List.map_cons, List.zipWith_cons_cons, List.map_cons, ih ys]
theorem isN_dL (l : Ld) : isNone (dL l) = l.isNone := by cases l <;> rfl
section
variable {d d2 : D} {xs ys : List Ld} (k : Nat)
theorem c_overlaid (h : MapD d xs) (h2 : MapD d2 ys) (hl : xs.length = ys.length) : call T (k+5) f_overlaid [d, d2] = .ok (lm (ovL xs ys)) := by
  rw [call_eq T_overlaid rfl]
  have a1 : eqD (.int (xs.length : Int)) (.int (ys.length : Int)) = .ok true := by rw [eqI, hl]; simp
  have hx := h.len
  have a3 : (ovL xs ys).length ≤ 1000 := by unfold ovL; rw [List.length_zipWith]; omega
  have e : ∀ (Φ : Nat → List D → R D) (u v w : Option W), compB Φ (.ife (.isn (.var 2) false) (.var 3) (.var 2)) (.t2 (.name 2) (.name 3)) .none [u, v, w, none] ((xs.zip ys).map fun p => .tuple [dL p.1, dL p.2]) = .ok (dLs (ovL xs ys)) := by
    intro Φ u v w
    rw [compB_of (xs.zip ys) (fun p => .tuple [dL p.1, dL p.2]) (fun p => dL (ovr p.1 p.2)), zw_map]
    · rfl
    · rw [List.length_zip]; simp only [limE]; omega
    · intro p _
      obtain ⟨a, b⟩ := p
      cases a <;> simp [Tg.slots, wipeE, isN_dL, ovr]
  simp [d_overlaid, b_overlaid, m_chk _ h, m_chk _ h2, h.i0, h2.i0, a1, m_lds _ h, m_lds _ h2, zipD_dLs, e, m_of _ a3, hl]
theorem c_overlaid_ne (h : MapD d xs) (h2 : MapD d2 ys) (hl : xs.length ≠ ys.length) : call T (k+5) f_overlaid [d, d2] = .exc 0 := by
  rw [call_eq T_overlaid rfl]
  have a1 : ¬ (xs.length : Int) = (ys.length : Int) := by omega
  simp [d_overlaid, b_overlaid, m_chk _ h, m_chk _ h2, h.i0, h2.i0, a1, hl]
theorem c_agreed (h : MapD d xs) (h2 : MapD d2 ys) (hl : xs.length = ys.length) : call T (k+5) f_agreed [d, d2] = .ok (lm (agL xs ys)) := by
  rw [call_eq T_agreed rfl]
  have a1 : eqD (.int (xs.length : Int)) (.int (ys.length : Int)) = .ok true := by rw [eqI, hl]; simp
  have hx := h.len
  have a3 : (agL xs ys).length ≤ 1000 := by unfold agL; rw [List.length_zipWith]; omega
  have e : ∀ (Φ : Nat → List D → R D) (u v w : Option W), compB Φ (.ife (.cmp .Eq (.var 2) (.var 3)) (.var 2) .non) (.t2 (.name 2) (.name 3)) .none [u, v, w, none] ((xs.zip ys).map fun p => .tuple [dL p.1, dL p.2]) = .ok (dLs (agL xs ys)) := by
    intro Φ u v w
    rw [compB_of (xs.zip ys) (fun p => .tuple [dL p.1, dL p.2]) (fun p => dL (agr p.1 p.2)), zw_map]
    · rfl
    · rw [List.length_zip]; simp only [limE]; omega
    · intro p _
      obtain ⟨a, b⟩ := p
      by_cases hab : a = b <;> simp [Tg.slots, wipeE, eqD_dL, agr, hab]
  simp [d_agreed, b_agreed, m_chk _ h, m_chk _ h2, h.i0, h2.i0, a1, m_lds _ h, m_lds _ h2, zipD_dLs, e, m_of _ a3, hl]
theorem c_agreed_ne (h : MapD d xs) (h2 : MapD d2 ys) (hl : xs.length ≠ ys.length) : call T (k+5) f_agreed [d, d2] = .exc 0 := by
  rw [call_eq T_agreed rfl]
  have a1 : ¬ (xs.length : Int) = (ys.length : Int) := by omega
  simp [d_agreed, b_agreed, m_chk _ h, m_chk _ h2, h.i0, h2.i0, a1, hl]
theorem c_without (h : MapD d xs) (s : Int) (h0 : 0 ≤ s) (h1 : s ≤ 9) : call T (k+5) f_without [d, .int s] = .ok (lm (xs.map (wo s))) := by
  rw [call_eq T_without rfl]
  have hx := h.len
  have a3 : (xs.map (wo s)).length ≤ 1000 := by rw [List.length_map]; exact hx
  have e : ∀ (Φ : Nat → List D → R D) (u v : Option W), compB Φ (.ife (.and (.isn (.var 2) true) (.one (.cmp .Eq (.idx (.var 2) (.int 0)) (.var 1)))) .non (.var 2)) (.name 2) .none [u, some (.val (.int s)), v] (xs.map dL) = .ok (dLs (xs.map (wo s))) := by
    intro Φ u v
    rw [compB_of xs dL (fun p => dL (wo s p))]
    · rw [dLs, List.map_map]; rfl
    · simp only [limE]; omega
    · intro p _
      rcases p with _ | ⟨a, b⟩
      · simp [Tg.slots, wipeE, isN_dL, wo]
      · by_cases hab : a = s <;> simp [Tg.slots, wipeE, isN_dL, wo, dL, hab]
  simp [d_without, b_without, m_chk _ h, m_lds _ h, c_is_within, isWithin, h0, h1, dLs]
  rw [e]
  simp [m_of _ a3]
theorem c_without_no (h : MapD d xs) (s : D) (hs : ∀ kvs, s ≠ .dict kvs) (hn : isWithin s 0 9 = false) : call T (k+5) f_without [d, s] = .exc 4 := by
  rw [call_eq T_without rfl]
  simp [d_without, b_without, m_chk _ h, c_is_within, hs, hn]
theorem c_mirrored (h : MapD d xs) : call T (k+5) f_mirrored [d] = .ok (lm xs.reverse) := by
  rw [call_eq T_mirrored rfl]
  have a3 : xs.reverse.length ≤ 1000 := by rw [List.length_reverse]; exact h.len
  have e : (dLs xs.reverse) = .list (xs.map dL).reverse := by rw [dLs, List.map_reverse]
  simp [d_mirrored, b_mirrored, m_chk _ h, m_lds _ h, dLs]
  rw [← List.map_reverse]
  have := m_of (k+2) a3
  rw [dLs] at this
  rw [this]; rfl
end
/-! ### doubles -/
def addU (ks : List (Int × Int)) : Ld → List (Int × Int)
  | none => ks
  | some p => if p ∈ ks then ks else ks ++ [p]
def cU (xs : List Ld) (p : Int × Int) : Nat := xs.count (some p)
def tabU (ks : List (Int × Int)) (c : Int × Int → Nat) : List (List Int × D) := ks.map fun p => ([p.1, p.2], .int (c p : Nat))
theorem pair_eq {p q : Int × Int} (h : ([p.1, p.2] : List Int) = [q.1, q.2]) : p = q := by
  obtain ⟨a, b⟩ := p
  obtain ⟨c, d⟩ := q
  simp at h
  rw [h.1, h.2]
theorem look_tabU (p : Int × Int) (c : Int × Int → Nat) : ∀ ks : List (Int × Int), lookT [p.1, p.2] (tabU ks c) = if p ∈ ks then some (.int (c p : Nat)) else none
  | [] => rfl
  | q :: ks => by
    simp only [tabU, List.map_cons, lookT]
    by_cases h : q = p
    · subst h; simp
    · have h1 : ¬ ([q.1, q.2] : List Int) = [p.1, p.2] := fun z => h (pair_eq z)
      have h2 : ¬ p = q := fun z => h z.symm
      rw [if_neg h1]
      have := look_tabU p c ks
      simp only [tabU] at this
      rw [this]
      simp [h2]
theorem put_tabU (p : Int × Int) (c : Int × Int → Nat) (n : Nat) (ks : List (Int × Int)) : putT [p.1, p.2] (.int (n : Nat)) (tabU ks c) = tabU (if p ∈ ks then ks else ks ++ [p]) (fun q => if q = p then n else c q) := by
  have hany : ((tabU ks c).any fun kv => decide (kv.1 = [p.1, p.2])) = decide (p ∈ ks) := by
    simp only [tabU, List.any_map]
    induction ks with
    | nil => rfl
    | cons q ks ih =>
      rw [List.any_cons, ih]
      by_cases h : q = p
      · subst h; simp
      · have h1 : ¬ ([q.1, q.2] : List Int) = [p.1, p.2] := fun z => h (pair_eq z)
        have h2 : ¬ p = q := fun z => h z.symm
        simp only [Function.comp, h1, decide_false, Bool.false_or, List.mem_cons, h2, false_or]
  unfold putT
  rw [hany]
  by_cases h : p ∈ ks
  · simp only [h, decide_true, if_true, tabU, List.map_map]
    apply List.map_congr_left
    intro q _
    by_cases hq : q = p
    · subst hq; simp
    · have h1 : ¬ ([q.1, q.2] : List Int) = [p.1, p.2] := fun z => hq (pair_eq z)
      simp only [Function.comp, h1, if_false, hq]
  · simp only [h, decide_false, Bool.false_eq_true, if_false, tabU, List.map_append]
    congr 1
    · apply List.map_congr_left
      intro q hq
      have : ¬ q = p := fun z => h (by rw [← z]; exact hq)
      simp only [this, if_false]
    · simp
def bDb : S := .ite (.isn (.var 2) true) (.dset 1 (.var 2) (.bin .Add (.dget 1 (.var 2) (.int 0)) (.int 1)) .nil) .nil .nil
theorem db_loop (Φ : Nat → List D → R D) (u : D) : ∀ (xs : List Ld) (ks : List (Int × Int)) (c : Int × Int → Nat) (x : Option W), ks.length + xs.length ≤ 1000 → (∀ p, p ∉ ks → c p = 0) →
    ∃ y, forB Φ (.name 2) bDb (xs.map dL) [some (.val u), some (.dt (tabU ks c)), x] = .nx [some (.val u), some (.dt (tabU (xs.foldl addU ks) (fun p => c p + cU xs p))), y]
  | [], ks, c, x, _, _ => ⟨x, by simp [cU]⟩
  | l :: xs, ks, c, x, hl, hc => by
    rw [List.map_cons, forB_cons]
    cases l with
    | none =>
      obtain ⟨y, e⟩ := db_loop Φ u xs ks c (some (.val .none)) (by simp at hl; omega) hc
      refine ⟨y, ?_⟩
      have e0 : kAsg2 Φ bDb (asgn (.name 2) (dL none) [some (.val u), some (.dt (tabU ks c)), x]) = .nx [some (.val u), some (.dt (tabU ks c)), some (.val .none)] := by simp [bDb, dL]
      rw [e0, nx_seq, e]
      simp [addU, cU]
    | some p =>
      have hlen : (tabU ks c).length < 100000 := by simp at hl; rw [tabU, List.length_map]; omega
      have hg : (lookT [p.1, p.2] (tabU ks c)).getD (.int 0) = .int (c p : Nat) := by
        rw [look_tabU]
        by_cases h : p ∈ ks
        · simp [h]
        · simp [h, hc p h]
      have hp := put_tabU p c (c p + 1) ks
      have e0 : kAsg2 Φ bDb (asgn (.name 2) (dL (some p)) [some (.val u), some (.dt (tabU ks c)), x]) = .nx [some (.val u), some (.dt (tabU (if p ∈ ks then ks else ks ++ [p]) (fun q => if q = p then c p + 1 else c q))), some (.val (dL (some p)))] := by
        rw [← hp]
        simp [bDb, dL, intsOf, hlen, hg]
      rw [e0, nx_seq]
      obtain ⟨y, e⟩ := db_loop Φ u xs (if p ∈ ks then ks else ks ++ [p]) (fun q => if q = p then c p + 1 else c q) (some (.val (dL (some p)))) (by simp at hl; split <;> first | omega | (simp; omega)) (fun q hq => by
        by_cases h : q = p
        · subst h
          by_cases h2 : q ∈ ks
          · simp [h2] at hq
          · simp [h2] at hq
        · simp only [h, if_false]
          apply hc
          intro z
          apply hq
          split
          · exact z
          · exact List.mem_append_left _ z)
      refine ⟨y, ?_⟩
      rw [e]
      have ec : (fun q => (if q = p then c p + 1 else c q) + cU xs q) = fun q => c q + cU (some p :: xs) q := by
        funext q
        simp only [cU, List.count_cons]
        by_cases h : q = p
        · subst h; simp; omega
        · have : ¬ p = q := fun z => h z.symm
          simp [h, this]
      rw [ec]
      rfl
theorem addU_mem (xs : List Ld) : ∀ (ks : List (Int × Int)) (p : Int × Int), p ∈ xs.foldl addU ks ↔ p ∈ ks ∨ some p ∈ xs := by
  induction xs with
  | nil => intro ks p; simp
  | cons l xs ih =>
    intro ks p
    rw [List.foldl_cons, ih]
    cases l with
    | none => simp [addU]
    | some q =>
      simp only [addU]
      by_cases h : q ∈ ks
      · simp only [h, if_true, List.mem_cons, Option.some.injEq]
        constructor
        · rintro (z | z)
          · exact .inl z
          · exact .inr (.inr z)
        · rintro (z | z | z)
          · exact .inl z
          · subst z; exact .inl h
          · exact .inr z
      · simp [h, or_assoc]
theorem addU_nodup (xs : List Ld) : ∀ (ks : List (Int × Int)), ks.Nodup → (xs.foldl addU ks).Nodup := by
  induction xs with
  | nil => intro ks h; exact h
  | cons l xs ih =>
    intro ks h
    rw [List.foldl_cons]
    apply ih
    cases l with
    | none => exact h
    | some q =>
      simp only [addU]
      split
      · exact h
      · rename_i hq
        rw [List.nodup_append]
        refine ⟨h, by simp, fun a ha b hb => ?_⟩
        simp only [List.mem_singleton] at hb
        subst hb
        exact fun z => hq (by rw [← z]; exact ha)
/-- the places led to, each once -/
def kU (xs : List Ld) : List (Int × Int) := xs.foldl addU []
theorem kU_mem {xs : List Ld} {p : Int × Int} : p ∈ kU xs ↔ some p ∈ xs := by simp [kU, addU_mem]
theorem kU_nodup (xs : List Ld) : (kU xs).Nodup := addU_nodup xs [] (by simp)
theorem kU_len (xs : List Ld) : (kU xs).length ≤ xs.length := by
  have : ∀ (xs : List Ld) (ks : List (Int × Int)), (xs.foldl addU ks).length ≤ ks.length + xs.length := by
    intro xs
    induction xs with
    | nil => intro ks; simp
    | cons l xs ih =>
      intro ks
      rw [List.foldl_cons]
      have h1 := ih (addU ks l)
      have h2 : (addU ks l).length ≤ ks.length + 1 := by
        cases l with
        | none => simp [addU]
        | some p => simp only [addU]; split <;> simp
      simp only [List.length_cons]; omega
  have := this xs []
  simpa [kU] using this
def trU (xs : List Ld) (p : Int × Int) : List Int := [p.1, p.2, (cU xs p : Nat)]
def dub0 (xs : List Ld) : List (List Int) := ((kU xs).filter fun p => decide (1 < cU xs p)).map (trU xs)
def dubs (xs : List Ld) : List (List Int) := sortT (dub0 xs)
def dDub (xs : List Ld) : D := .list ((dubs xs).map tupI)
theorem c_doubles (k : Nat) {d : D} {xs : List Ld} (h : MapD d xs) : call T (k+5) f_doubles [d] = .ok (dDub xs) := by
  rw [call_eq T_doubles rfl]
  have hx := h.len
  obtain ⟨y, e⟩ := db_loop (call T (k+4)) d xs [] (fun _ => 0) none (by simpa using hx) (fun _ _ => rfl)
  have ec : (fun p => 0 + cU xs p) = cU xs := by funext p; omega
  rw [ec] at e
  have e2 : forB (call T (k+4)) (.name 2) bDb (xs.map dL) [some (.val d), some (.dt []), none] = .nx [some (.val d), some (.dt (tabU (kU xs) (cU xs))), y] := e
  unfold bDb at e2
  have hk := kU_len xs
  have e3 : compB (call T (k+4)) (.bin .Add (.var 2) (.tup (.cons (.didx 1 (.var 2)) .nil))) (.name 2) (.some (.cmp .Gt (.didx 1 (.var 2)) (.int 1))) [some (.val d), some (.dtf (tabU (kU xs) (cU xs))), y] ((kU xs).map fun p => .tuple [.int p.1, .int p.2]) = .ok (.list ((dub0 xs).map tupI)) := by
    rw [compB_off (kU xs) (fun p => .tuple [.int p.1, .int p.2]) (fun p => if 1 < cU xs p then some (tupI (trU xs p)) else none)]
    · congr 2
      unfold dub0
      induction (kU xs) with
      | nil => rfl
      | cons p ks ih =>
        rw [List.filterMap_cons, List.filter_cons]
        by_cases hp : 1 < cU xs p
        · simp [hp, ih]
        · simp [hp, ih]
    · simp only [limE]; omega
    · intro p hp
      have hl : lookT [p.1, p.2] (tabU (kU xs) (cU xs)) = some (.int (cU xs p : Nat)) := by rw [look_tabU, if_pos hp]
      by_cases h1 : 1 < cU xs p
      · have h2 : (1 : Int) < (cU xs p : Nat) := by omega
        simp [Tg.slots, wipeE, intsOf, hl, h1, h2, tupI, trU]
      · have h2 : ¬ (1 : Int) < (cU xs p : Nat) := by omega
        simp [Tg.slots, wipeE, intsOf, hl, h1, h2]
  have e4 : (tabU (kU xs) (cU xs)).map (fun kv => PyData.tuple (kv.1.map .int)) = (kU xs).map fun p => .tuple [.int p.1, .int p.2] := by
    simp [tabU, List.map_map, Function.comp_def]
  have e5 := sorted_tupI (dub0 xs) 3 (by omega) (by
    intro t ht
    obtain ⟨p, _, rfl⟩ := List.mem_map.mp ht
    rfl)
  simp [d_doubles, b_doubles, m_chk _ h, m_lds _ h, dLs, e2, e4, e3, e5]
  rfl
end M

set_option linter.all false
set_option maxRecDepth 100000
set_option maxHeartbeats 1000000
namespace M
open PySem
/-! ### the plain laws of what is laid over one another -/
theorem ovr_assoc (a b c : Ld) : ovr (ovr a b) c = ovr a (ovr b c) := by cases a <;> rfl
theorem ovr_self (a : Ld) : ovr a a = a := by cases a <;> rfl
theorem ovr_none (a : Ld) : ovr a none = a := by cases a <;> rfl
theorem agr_self (a : Ld) : agr a a = a := by simp [agr]
theorem agr_comm (a b : Ld) : agr a b = agr b a := by
  unfold agr
  by_cases h : a = b
  · subst h; rfl
  · have : ¬ b = a := fun z => h z.symm
    simp [h, this]
theorem agr_none (a : Ld) : agr a none = none := by
  unfold agr; split <;> first | assumption | rfl
theorem agr_assoc (a b c : Ld) : agr (agr a b) c = agr a (agr b c) := by
  unfold agr
  by_cases h1 : a = b
  · subst h1
    by_cases h2 : a = c
    · subst h2; simp
    · simp only [if_true, h2, if_false]
      by_cases h3 : a = none
      · simp [h3]
      · simp [h3]
  · simp only [h1, if_false]
    by_cases h2 : b = c
    · subst h2; simp only [if_true, h1, if_false]; split <;> rfl
    · simp only [h2, if_false]
      by_cases h3 : a = none
      · subst h3; simp
      · simp only [h3, if_false]; split <;> rfl
theorem ovr_agr (a b : Ld) : ovr (agr a b) a = a := by
  unfold agr
  by_cases h : a = b
  · subst h; simp [ovr_self]
  · simp [h, ovr]
theorem zw_assoc {f : Ld → Ld → Ld} (h : ∀ a b c, f (f a b) c = f a (f b c)) : ∀ xs ys zs : List Ld, List.zipWith f (List.zipWith f xs ys) zs = List.zipWith f xs (List.zipWith f ys zs)
  | [], _, _ => by simp
  | _ :: _, [], _ => by simp
  | _ :: _, _ :: _, [] => by simp
  | x :: xs, y :: ys, z :: zs => by simp [h, zw_assoc h xs ys zs]
theorem zw_self {f : Ld → Ld → Ld} (h : ∀ a, f a a = a) : ∀ xs : List Ld, List.zipWith f xs xs = xs
  | [] => rfl
  | x :: xs => by simp [h, zw_self h xs]
theorem ov_assoc (xs ys zs : List Ld) : ovL (ovL xs ys) zs = ovL xs (ovL ys zs) := zw_assoc ovr_assoc xs ys zs
theorem ag_assoc (xs ys zs : List Ld) : agL (agL xs ys) zs = agL xs (agL ys zs) := zw_assoc agr_assoc xs ys zs
theorem ov_self (xs : List Ld) : ovL xs xs = xs := zw_self ovr_self xs
theorem ag_self (xs : List Ld) : agL xs xs = xs := zw_self agr_self xs
theorem ag_comm : ∀ xs ys : List Ld, agL xs ys = agL ys xs
  | [], [] => rfl
  | [], _ :: _ => rfl
  | _ :: _, [] => rfl
  | x :: xs, y :: ys => by
    have := ag_comm xs ys
    simp only [agL] at this ⊢
    simp [agr_comm x y, this]
theorem ov_blank1 : ∀ xs : List Ld, ovL (List.replicate xs.length none) xs = xs
  | [] => rfl
  | x :: xs => by
    have := ov_blank1 xs
    simp only [ovL] at this ⊢
    simp [List.replicate_succ, ovr, this]
theorem ov_blank2 : ∀ xs : List Ld, ovL xs (List.replicate xs.length none) = xs
  | [] => rfl
  | x :: xs => by
    have := ov_blank2 xs
    simp only [ovL] at this ⊢
    simp [List.replicate_succ, ovr_none, this]
theorem ag_blank : ∀ xs : List Ld, agL xs (List.replicate xs.length none) = List.replicate xs.length none
  | [] => rfl
  | x :: xs => by
    have := ag_blank xs
    simp only [agL] at this ⊢
    simp [List.replicate_succ, agr_none, this]
theorem ov_ag : ∀ xs ys : List Ld, xs.length = ys.length → ovL (agL xs ys) xs = xs
  | [], [], _ => rfl
  | [], _ :: _, _ => rfl
  | _ :: _, [], h => by simp at h
  | x :: xs, y :: ys, h => by
    have := ov_ag xs ys (by simpa using h)
    simp only [agL, ovL] at this ⊢
    simp [ovr_agr, this]
theorem ov_len (xs ys : List Ld) (h : xs.length = ys.length) : (ovL xs ys).length = xs.length := by simp [ovL, List.length_zipWith, h]
theorem ag_len (xs ys : List Ld) (h : xs.length = ys.length) : (agL xs ys).length = xs.length := by simp [agL, List.length_zipWith, h]
theorem zw_ok {f : Ld → Ld → Ld} (hf : ∀ a b, okL a → okL b → okL (f a b)) : ∀ {xs ys : List Ld}, (∀ l ∈ xs, okL l) → (∀ l ∈ ys, okL l) → ∀ l ∈ List.zipWith f xs ys, okL l
  | [], _, _, _, l, h => by simp at h
  | _ :: _, [], _, _, l, h => by simp at h
  | x :: xs, y :: ys, hx, hy, l, h => by
    simp only [List.zipWith_cons_cons, List.mem_cons] at h
    rcases h with rfl | h
    · exact hf _ _ (hx x (by simp)) (hy y (by simp))
    · exact zw_ok hf (fun l hl => hx l (by simp [hl])) (fun l hl => hy l (by simp [hl])) l h
theorem ov_ok {xs ys : List Ld} (hx : ∀ l ∈ xs, okL l) (hy : ∀ l ∈ ys, okL l) : ∀ l ∈ ovL xs ys, okL l := zw_ok (fun a b ha hb => by cases a; exact hb; exact ha) hx hy
theorem ag_ok {xs ys : List Ld} (hx : ∀ l ∈ xs, okL l) (hy : ∀ l ∈ ys, okL l) : ∀ l ∈ agL xs ys, okL l := zw_ok (fun a b ha hb => by unfold agr; split; exact ha; exact trivial) hx hy
theorem wo_ok {s : Int} {xs : List Ld} (hx : ∀ l ∈ xs, okL l) : ∀ l ∈ xs.map (wo s), okL l := by
  intro l hl
  obtain ⟨y, hy, rfl⟩ := List.mem_map.mp hl
  cases y with
  | none => exact trivial
  | some p =>
    by_cases h : p.1 = s
    · simp only [wo, h, if_true]; exact trivial
    · simp only [wo, h, if_false]; exact hx _ hy
theorem wo_wo (s : Int) (l : Ld) : wo s (wo s l) = wo s l := by
  cases l with
  | none => rfl
  | some p =>
    by_cases h : p.1 = s
    · simp [wo, h]
    · simp [wo, h]
theorem woL (s : Int) (xs : List Ld) : (xs.map (wo s)).map (wo s) = xs.map (wo s) := by
  rw [List.map_map]
  apply List.map_congr_left
  intro l _
  exact wo_wo s l
/-! shares of what is without a source -/
theorem cntS_wo (s t : Int) : ∀ xs : List Ld, cntS t (xs.map (wo s)) = if t = s then 0 else cntS t xs
  | [] => by simp [cntS]
  | none :: xs => by simp [wo, cntS, cntS_wo s t xs]
  | some p :: xs => by
    obtain ⟨a, b⟩ := p
    rw [List.map_cons]
    by_cases h : a = s
    · subst h
      simp only [wo, if_true, cntS, cntS_wo a t xs]
      by_cases h2 : t = a
      · simp [h2]
      · have : ¬ a = t := fun z => h2 z.symm
        simp [h2, this]
    · simp only [wo, h, if_false, cntS, cntS_wo s t xs]
      by_cases h2 : t = s
      · subst h2; simp [h]
      · simp [h2]
theorem cntN_wo (s : Int) : ∀ xs : List Ld, cntN (xs.map (wo s)) = cntN xs + cntS s xs
  | [] => rfl
  | none :: xs => by simp only [List.map_cons, wo, cntN, cntS, cntN_wo s xs]; omega
  | some p :: xs => by
    obtain ⟨a, b⟩ := p
    by_cases h : a = s
    · subst h
      simp only [List.map_cons, wo, if_true, cntN, cntS, cntN_wo a xs]; omega
    · simp only [List.map_cons, wo, h, if_false, cntN, cntS, cntN_wo s xs]
theorem rows_wo (s : Int) (xs : List Ld) : rowsS (xs.map (wo s)) = (List.range 10).filterMap fun (t : Nat) => if (t : Int) = s then none else rowS xs t := by
  unfold rowsS
  congr 1
  funext t
  unfold rowS
  rw [cntS_wo]
  by_cases h : (t : Int) = s
  · simp [h]
  · simp [h]
theorem cntS_rev (t : Int) : ∀ xs : List Ld, cntS t xs.reverse = cntS t xs
  | [] => rfl
  | l :: xs => by
    rw [List.reverse_cons, cntS_app, cntS_rev t xs]
    cases l with
    | none => simp [cntS]
    | some p => simp only [cntS]; split <;> omega
theorem cntN_rev : ∀ xs : List Ld, cntN xs.reverse = cntN xs
  | [] => rfl
  | l :: xs => by
    rw [List.reverse_cons, cntN_app, cntN_rev xs]
    cases l <;> simp only [cntN] <;> omega
theorem sh_rev (xs : List Ld) : dSh xs.reverse = dSh xs := by
  unfold dSh rowsS
  rw [cntN_rev]
  congr 4
  funext t
  unfold rowS
  rw [cntS_rev]
/-! a table of rows, read -/
theorem pairs_rows (xs : List Ld) : ∀ l : List Nat, pairsOf (l.filterMap (rowS xs)) = some ((l.filter fun (s : Nat) => decide (0 < cntS s xs)).map fun (s : Nat) => ((s : Int), (.int (cntS s xs : Nat) : D)))
  | [] => rfl
  | s :: l => by
    rw [List.filterMap_cons, List.filter_cons]
    by_cases h : 0 < cntS s xs
    · simp [rowS, h, pairsOf, pairs_rows xs l]
    · simp [rowS, h, pairs_rows xs l]
theorem look_fold (k : Int) : ∀ (ps acc : List (Int × D)), lookI k (ps.foldl (fun acc kv => putI kv.1 kv.2 acc) acc) = match (ps.reverse.find? fun p => decide (p.1 = k)) with
    | some p => some p.2
    | none => lookI k acc
  | [], acc => rfl
  | p :: ps, acc => by
    rw [List.foldl_cons, look_fold k ps, List.reverse_cons, List.find?_append]
    cases hf : ps.reverse.find? fun p => decide (p.1 = k) with
    | some q => rfl
    | none =>
      simp only [Option.none_or, lookI_put]
      by_cases h : p.1 = k
      · subst h; simp
      · have : ¬ k = p.1 := fun z => h z.symm
        simp [h, this]
theorem look_rows (xs : List Ld) (k : Nat) (hk : k < 10) : (lookI (k : Int) ((((List.range 10).filter fun (s : Nat) => decide (0 < cntS s xs)).map fun (s : Nat) => ((s : Int), (.int (cntS s xs : Nat) : D))).foldl (fun acc kv => putI kv.1 kv.2 acc) [])).getD (.int 0) = .int (cntS k xs : Nat) := by
  rw [look_fold]
  cases hf : ((((List.range 10).filter fun (s : Nat) => decide (0 < cntS s xs)).map fun (s : Nat) => ((s : Int), (.int (cntS s xs : Nat) : D))).reverse.find? fun p => decide (p.1 = (k : Int))) with
  | some p =>
    have h1 := List.find?_some hf
    have h2 := List.mem_of_find?_eq_some hf
    rw [List.mem_reverse] at h2
    obtain ⟨s, hs, rfl⟩ := List.mem_map.mp h2
    simp only [decide_eq_true_eq] at h1
    have : s = k := by omega
    subst this
    rfl
  | none =>
    rw [List.find?_eq_none] at hf
    have : ¬ 0 < cntS k xs := fun z => by
      have := hf ((k : Int), (.int (cntS k xs : Nat) : D)) (by
        rw [List.mem_reverse]
        refine List.mem_map.mpr ⟨k, ?_, rfl⟩
        rw [List.mem_filter, List.mem_range]
        exact ⟨hk, by simpa using z⟩)
      simp at this
    have : cntS k xs = 0 := by omega
    simp [lookI, this]
/-! without each source -/
theorem wo_all (l : Ld) (h : okL l) : (List.range 10).foldl (fun (l : Ld) (n : Nat) => wo (n : Int) l) l = none := by
  cases l with
  | none => rfl
  | some p =>
    obtain ⟨a, b⟩ := p
    have h : 0 ≤ a ∧ a ≤ 9 ∧ 0 ≤ b ∧ b ≤ 9999 := h
    have : a = 0 ∨ a = 1 ∨ a = 2 ∨ a = 3 ∨ a = 4 ∨ a = 5 ∨ a = 6 ∨ a = 7 ∨ a = 8 ∨ a = 9 := by omega
    rcases this with rfl | rfl | rfl | rfl | rfl | rfl | rfl | rfl | rfl | rfl <;> rfl
def woN (xs : List Ld) (n : Nat) : List Ld := (List.range n).foldl (fun (ys : List Ld) (m : Nat) => ys.map (wo (m : Int))) xs
theorem woN_succ (xs : List Ld) (n : Nat) : woN xs (n + 1) = (woN xs n).map (wo (n : Int)) := by simp [woN, List.range_succ]
theorem woN_map (xs : List Ld) : ∀ n, woN xs n = xs.map fun l => (List.range n).foldl (fun (l : Ld) (n : Nat) => wo (n : Int) l) l
  | 0 => by simp [woN]
  | n + 1 => by
    rw [woN_succ, woN_map xs n, List.map_map]
    apply List.map_congr_left
    intro l _
    simp [List.range_succ]
theorem woN_ok {xs : List Ld} (h : ∀ l ∈ xs, okL l) : ∀ n, ∀ l ∈ woN xs n, okL l
  | 0 => by simpa [woN] using h
  | n + 1 => by rw [woN_succ]; exact wo_ok (woN_ok h n)
theorem woN_len (xs : List Ld) (n : Nat) : (woN xs n).length = xs.length := by rw [woN_map, List.length_map]
theorem woN_10 {xs : List Ld} (h : ∀ l ∈ xs, okL l) : woN xs 10 = List.replicate xs.length none := by
  rw [woN_map]
  apply List.ext_getElem
  · simp
  · intro i h1 h2
    simp only [List.getElem_map, List.getElem_replicate]
    exact wo_all _ (h _ (List.getElem_mem _))
/-! doubles -/
theorem cU_rev (xs : List Ld) (p : Int × Int) : cU xs.reverse p = cU xs p := by simp [cU]
theorem trU_inj {xs : List Ld} {p q : Int × Int} (h : trU xs p = trU xs q) : p = q := by
  obtain ⟨a, b⟩ := p
  obtain ⟨c, d⟩ := q
  simp [trU] at h
  rw [h.1, h.2.1]
theorem dub0_mem {xs : List Ld} {t : List Int} : t ∈ dub0 xs ↔ ∃ p, 1 < cU xs p ∧ t = trU xs p := by
  unfold dub0
  constructor
  · intro h
    obtain ⟨p, hp, rfl⟩ := List.mem_map.mp h
    exact ⟨p, by simpa using (List.mem_filter.mp hp).2, rfl⟩
  · rintro ⟨p, h, rfl⟩
    refine List.mem_map.mpr ⟨p, List.mem_filter.mpr ⟨?_, by simpa using h⟩, rfl⟩
    rw [kU_mem]
    exact List.count_pos_iff.mp (by unfold cU at h; omega)
theorem dub0_nodup (xs : List Ld) : (dub0 xs).Nodup := by
  unfold dub0
  have h : ((kU xs).filter fun p => decide (1 < cU xs p)).Nodup := (kU_nodup xs).filter _
  exact List.pairwise_map.mpr (h.imp fun {a b} hab z => hab (trU_inj z))
theorem dubs_rev (xs : List Ld) : dDub xs.reverse = dDub xs := by
  unfold dDub dubs
  congr 2
  refine sortT_set (dub0_nodup _) (dub0_nodup _) fun t => ?_
  rw [dub0_mem, dub0_mem]
  have e : trU xs.reverse = trU xs := by funext p; simp [trU, cU_rev]
  simp only [cU_rev, e]
theorem dubs_mem {xs : List Ld} {t : List Int} : t ∈ dubs xs ↔ ∃ p, 1 < cU xs p ∧ t = trU xs p := by
  unfold dubs
  rw [(sortT_perm _).mem_iff, dub0_mem]
theorem dubs_len (xs : List Ld) : (dubs xs).length ≤ xs.length := by
  unfold dubs
  rw [(sortT_perm _).length_eq]
  unfold dub0
  rw [List.length_map]
  exact Nat.le_trans (List.length_filter_le _ _) (kU_len xs)
theorem pd_dub (xs : List Ld) : pd (dDub xs) := by
  have h1 : ∀ d ∈ (dubs xs).map tupI, pl d = true ∧ d.depth ≤ 2 := by
    intro d hd
    obtain ⟨t, ht, rfl⟩ := List.mem_map.mp hd
    obtain ⟨p, _, rfl⟩ := dubs_mem.mp ht
    exact ⟨rfl, by simp [tupI, trU, PyData.depth, PyData.depthAll]⟩
  have h2 := depthAll_le fun d hd => (h1 d hd).2
  refine ⟨?_, ?_⟩
  · simp only [dDub, pl]; exact plL_all fun d hd => (h1 d hd).1
  · simp only [dDub, PyData.depth]; omega
theorem backF_len (s a : Int) : ∀ (xs : List Ld) (k : Nat), (backF s a k xs).length = cU xs (s, a)
  | [], _ => rfl
  | l :: xs, k => by
    rw [backF_cons]
    have ih := backF_len s a xs (k + 1)
    unfold cU at ih ⊢
    rw [List.count_cons]
    by_cases h : l = some (s, a)
    · simp [h, ih]
    · simp [h, ih]
/-- all that come from somewhere -/
theorem sum_cU (xs : List Ld) : ∀ ks : List (Int × Int), ks.Nodup → (ks.map (cU xs)).sum + cntN xs ≤ xs.length := by
  induction xs with
  | nil =>
    intro ks _
    have : ∀ ks : List (Int × Int), (ks.map (cU [])).sum = 0 := by
      intro ks
      induction ks with
      | nil => rfl
      | cons p ks ih => simp [ih, cU]
    simp [this, cntN]
  | cons l xs ih =>
    intro ks hn
    have ih := ih ks hn
    cases l with
    | none =>
      have e : ks.map (cU (none :: xs)) = ks.map (cU xs) := by
        apply List.map_congr_left; intro p _; simp [cU, List.count_cons]
      rw [e]
      simp only [cntN, List.length_cons]; omega
    | some q =>
      have key : ∀ ks : List (Int × Int), ks.Nodup → (ks.map (cU (some q :: xs))).sum ≤ (ks.map (cU xs)).sum + 1 ∧ (q ∉ ks → (ks.map (cU (some q :: xs))).sum = (ks.map (cU xs)).sum) := by
        intro ks
        induction ks with
        | nil => intro _; simp
        | cons p ks ih2 =>
          intro hn
          rw [List.nodup_cons] at hn
          obtain ⟨i1, i2⟩ := ih2 hn.2
          simp only [List.map_cons, List.sum_cons]
          by_cases h : q = p
          · subst h
            have e : cU (some q :: xs) q = cU xs q + 1 := by simp [cU]
            rw [e, i2 hn.1]
            refine ⟨by omega, fun z => absurd List.mem_cons_self z⟩
          · have e : cU (some q :: xs) p = cU xs p := by simp [cU, List.count_cons, h]
            rw [e]
            refine ⟨by omega, fun z => ?_⟩
            rw [i2 fun y => z (List.mem_cons_of_mem _ y)]
      have := (key ks hn).1
      simp only [cntN, List.length_cons]; omega
theorem perm_sumI {a b : List Int} (p : a.Perm b) : a.sum = b.sum := by
  induction p with
  | nil => rfl
  | cons x _ ih => simp [ih]
  | swap x y l => simp; omega
  | trans _ _ h1 h2 => rw [h1, h2]
theorem sum_dubs (xs : List Ld) : ((dubs xs).map fun t => t.getD 2 0).sum + (cntN xs : Int) ≤ (xs.length : Int) := by
  have p1 : ((dubs xs).map fun t => t.getD 2 0).sum = ((dub0 xs).map fun t => t.getD 2 0).sum := perm_sumI ((sortT_perm (dub0 xs)).map _)
  rw [p1]
  unfold dub0
  rw [List.map_map]
  have h := sum_cU xs ((kU xs).filter fun p => decide (1 < cU xs p)) ((kU_nodup xs).filter _)
  have e : (((kU xs).filter fun p => decide (1 < cU xs p)).map ((fun t : List Int => t.getD 2 0) ∘ trU xs)).sum = ((((kU xs).filter fun p => decide (1 < cU xs p)).map (cU xs)).sum : Nat) := by
    generalize ((kU xs).filter fun p => decide (1 < cU xs p)) = l
    induction l with
    | nil => rfl
    | cons p l ih =>
      simp only [List.map_cons, List.sum_cons, ih, Function.comp, trU]
      simp
  rw [e]
  omega
theorem zw_rev {f : Ld → Ld → Ld} {xs ys : List Ld} (h : xs.length = ys.length) : (List.zipWith f xs ys).reverse = List.zipWith f xs.reverse ys.reverse := by
  rw [List.reverse_zipWith h]
end M

set_option linter.all false
set_option maxRecDepth 100000
set_option maxHeartbeats 1000000
namespace M
open PySem TL
/-! ### changes of two hands: what clashes -/
def clashB (e f : Ed) : Bool := decide (e.1 < f.2.1) && decide (f.1 < e.2.1) || decide (e.1 = f.1) && (decide (e.1 = e.2.1) || decide (f.1 = f.2.1))
def clsRow (i : Nat) (e : Ed) : Nat → List Ed → List (Nat × Nat)
  | _, [] => []
  | j, f :: r => (if clashB e f then [(i, j)] else []) ++ clsRow i e (j + 1) r
def clsAll (ots : List Ed) : Nat → List Ed → List (Nat × Nat)
  | _, [] => []
  | i, e :: r => clsRow i e 0 ots ++ clsAll ots (i + 1) r
def dPr (p : Nat × Nat) : D := .tuple [.int p.1, .int p.2]
def enk (j : Nat) (xs : List D) : List D := (xs.zipIdx j).map fun p => .tuple [.int p.2, p.1]
theorem enum_enk (xs : List D) : enumD xs = enk 0 xs := rfl
theorem enk_cons (j : Nat) (x : D) (xs : List D) : enk j (x :: xs) = .tuple [.int (j : Nat), x] :: enk (j + 1) xs := rfl
theorem clsRow_len (i : Nat) (e : Ed) : ∀ (ots : List Ed) (j : Nat), (clsRow i e j ots).length ≤ ots.length
  | [], _ => by simp [clsRow]
  | f :: r, j => by
    have := clsRow_len i e r (j + 1)
    simp only [clsRow, List.length_append, List.length_cons]
    split <;> simp <;> omega
theorem clsAll_len (ots : List Ed) : ∀ (eds : List Ed) (i : Nat), (clsAll ots i eds).length ≤ eds.length * ots.length
  | [], _ => by simp [clsAll]
  | e :: r, i => by
    have h1 := clsRow_len i e ots 0
    have h2 := clsAll_len ots r (i + 1)
    simp only [clsAll, List.length_append, List.length_cons, Nat.succ_mul]
    omega
def bCls : S := .ite (.or (.and (.cmp .Lt (.var 4) (.var 9)) (.one (.cmp .Lt (.var 8) (.var 5)))) (.one (.and (.cmp .Eq (.var 4) (.var 8)) (.one (.or (.cmp .Eq (.var 4) (.var 5)) (.one (.cmp .Eq (.var 8) (.var 9)))))))) (.app 2 (.tup (.cons (.var 3) (.cons (.var 7) .nil))) .nil) .nil .nil
def xCls : E := .or (.and (.cmp .Lt (.var 4) (.var 9)) (.one (.cmp .Lt (.var 8) (.var 5)))) (.one (.and (.cmp .Eq (.var 4) (.var 8)) (.one (.or (.cmp .Eq (.var 4) (.var 5)) (.one (.cmp .Eq (.var 8) (.var 9)))))))
theorem cls_test (Φ : Nat → List D → R D) (env : Env) (i4 i5 i8 i9 : Int) (h4 : getV env 4 = .ok (.int i4)) (h5 : getV env 5 = .ok (.int i5)) (h8 : getV env 8 = .ok (.int i8)) (h9 : getV env 9 = .ok (.int i9)) :
    kT (evE Φ xCls env) = .ok (decide (i4 < i9) && decide (i8 < i5) || decide (i4 = i8) && (decide (i4 = i5) || decide (i8 = i9))) := by
  rcases ha : decide (i4 < i9) <;> rcases hb : decide (i8 < i5) <;> rcases hc : decide (i4 = i8) <;> rcases hd : decide (i4 = i5) <;> rcases he : decide (i8 = i9) <;>
    simp only [xCls, e_or, e_and, e_cmp, e_one, e_var, h4, h5, h8, h9, k2_ok, cLt, cEq, eqI, kB_ok, kOr1_ok, kAnd1_ok, trB, kOr_ok, kAnd_ok, ha, hb, hc, hd, he, if_true, Bool.false_eq_true, if_false, kT_ok, Bool.and_true, Bool.and_false, Bool.or_true, Bool.or_false, Bool.true_and, Bool.false_and, Bool.true_or, Bool.false_or]
theorem clashI (e f : Ed) : (decide ((e.1 : Int) < (f.2.1 : Int)) && decide ((f.1 : Int) < (e.2.1 : Int)) || decide ((e.1 : Int) = (f.1 : Int)) && (decide ((e.1 : Int) = (e.2.1 : Int)) || decide ((f.1 : Int) = (f.2.1 : Int)))) = clashB e f := by
  simp only [clashB, Int.ofNat_lt, Int.ofNat_inj]
theorem cls_step (Φ : Nat → List D → R D) (a b nw : D) (i j : Nat) (e f : Ed) (F : List D) (x y z w : Option W) (hF : F.length < 100000) :
    kAsg2 Φ bCls (asgn (.t2 (.name 7) (.t3 (.name 8) (.name 9) (.name 10))) (.tuple [.int (j : Nat), dEd f]) [some (.val a), some (.val b), some (.own F), some (.val (.int i)), some (.val (.int e.1)), some (.val (.int e.2.1)), some (.val nw), x, y, z, w]) =
      .nx [some (.val a), some (.val b), some (.own (F ++ (if clashB e f then [(i, j)] else []).map dPr)), some (.val (.int i)), some (.val (.int e.1)), some (.val (.int e.2.1)), some (.val nw), some (.val (.int j)), some (.val (.int f.1)), some (.val (.int f.2.1)), some (.val (dT f.2.2))] := by
  have h1 : asgn (.t2 (.name 7) (.t3 (.name 8) (.name 9) (.name 10))) (.tuple [.int (j : Nat), dEd f]) [some (.val a), some (.val b), some (.own F), some (.val (.int i)), some (.val (.int e.1)), some (.val (.int e.2.1)), some (.val nw), x, y, z, w] =
      some [some (.val a), some (.val b), some (.own F), some (.val (.int i)), some (.val (.int e.1)), some (.val (.int e.2.1)), some (.val nw), some (.val (.int j)), some (.val (.int f.1)), some (.val (.int f.2.1)), some (.val (dT f.2.2))] := by simp [dEd]
  have h2 := cls_test Φ [some (.val a), some (.val b), some (.own F), some (.val (.int i)), some (.val (.int e.1)), some (.val (.int e.2.1)), some (.val nw), some (.val (.int j)), some (.val (.int f.1)), some (.val (.int f.2.1)), some (.val (dT f.2.2))] e.1 e.2.1 f.1 f.2.1 rfl rfl rfl rfl
  rw [clashI] at h2
  rw [h1, kAsg2_some]
  show evS Φ (.ite xCls _ .nil .nil) _ = _
  rw [s_ite', h2, kIte_ok]
  cases clashB e f
  · simp
  · simp [hF, dPr]
theorem cls_inner (Φ : Nat → List D → R D) (a b : D) (i : Nat) (e : Ed) (nw : D) : ∀ (ots : List Ed) (j : Nat) (F : List D) (x y z w : Option W), F.length + ots.length ≤ 10000 →
    ∃ x' y' z' w', forB Φ (.t2 (.name 7) (.t3 (.name 8) (.name 9) (.name 10))) bCls (enk j (ots.map dEd)) [some (.val a), some (.val b), some (.own F), some (.val (.int i)), some (.val (.int e.1)), some (.val (.int e.2.1)), some (.val nw), x, y, z, w] =
      .nx [some (.val a), some (.val b), some (.own (F ++ (clsRow i e j ots).map dPr)), some (.val (.int i)), some (.val (.int e.1)), some (.val (.int e.2.1)), some (.val nw), x', y', z', w']
  | [], j, F, x, y, z, w, _ => ⟨x, y, z, w, by simp [enk, clsRow]⟩
  | f :: r, j, F, x, y, z, w, hl => by
    rw [List.length_cons] at hl
    rw [List.map_cons, enk_cons, forB_cons, cls_step Φ a b nw i j e f F x y z w (by omega), nx_seq]
    obtain ⟨x', y', z', w', ih⟩ := cls_inner Φ a b i e nw r (j + 1) (F ++ (if clashB e f then [(i, j)] else []).map dPr) (some (.val (.int j))) (some (.val (.int f.1))) (some (.val (.int f.2.1))) (some (.val (dT f.2.2))) (by
      rw [List.length_append, List.length_map]
      split <;> simp <;> omega)
    exact ⟨x', y', z', w', by rw [ih]; simp [clsRow]⟩
theorem cls_outer (Φ : Nat → List D → R D) (a : D) (ots : List Ed) (hO : ots.length ≤ 19) : ∀ (eds : List Ed) (i : Nat) (F : List D) (y0 y1 y2 y3 y4 y5 y6 y7 : Option W), F.length + eds.length * 19 ≤ 1000 →
    ∃ z0 z1 z2 z3 z4 z5 z6 z7, forB Φ (.t2 (.name 3) (.t3 (.name 4) (.name 5) (.name 6))) (.frl (.t2 (.name 7) (.t3 (.name 8) (.name 9) (.name 10))) (.enum (.var 1)) bCls .nil) (enk i (eds.map dEd)) [some (.val a), some (.val (dEds ots)), some (.own F), y0, y1, y2, y3, y4, y5, y6, y7] =
      .nx [some (.val a), some (.val (dEds ots)), some (.own (F ++ (clsAll ots i eds).map dPr)), z0, z1, z2, z3, z4, z5, z6, z7]
  | [], i, F, y0, y1, y2, y3, y4, y5, y6, y7, _ => ⟨y0, y1, y2, y3, y4, y5, y6, y7, by simp [enk, clsAll]⟩
  | e :: r, i, F, y0, y1, y2, y3, y4, y5, y6, y7, hl => by
    rw [List.length_cons, Nat.succ_mul] at hl
    rw [List.map_cons, enk_cons, forB_cons]
    have hr := clsRow_len i e ots 0
    obtain ⟨x', y', z', w', h1⟩ := cls_inner Φ a (dEds ots) i e (dT e.2.2) ots 0 F y4 y5 y6 y7 (by omega)
    obtain ⟨z0, z1, z2, z3, z4, z5, z6, z7, h2⟩ := cls_outer Φ a ots hO r (i + 1) (F ++ (clsRow i e 0 ots).map dPr) (some (.val (.int i))) (some (.val (.int e.1))) (some (.val (.int e.2.1))) (some (.val (dT e.2.2))) x' y' z' w' (by simp; omega)
    refine ⟨z0, z1, z2, z3, z4, z5, z6, z7, ?_⟩
    have e0 : kAsg2 Φ (.frl (.t2 (.name 7) (.t3 (.name 8) (.name 9) (.name 10))) (.enum (.var 1)) bCls .nil) (asgn (.t2 (.name 3) (.t3 (.name 4) (.name 5) (.name 6))) (.tuple [.int (i : Nat), dEd e]) [some (.val a), some (.val (dEds ots)), some (.own F), y0, y1, y2, y3, y4, y5, y6, y7]) =
        .nx [some (.val a), some (.val (dEds ots)), some (.own (F ++ (clsRow i e 0 ots).map dPr)), some (.val (.int i)), some (.val (.int e.1)), some (.val (.int e.2.1)), some (.val (dT e.2.2)), x', y', z', w'] := by
      have sq : seqN (dEds ots) = .ok (ots.map dEd) := rfl
      simp [dEd, sq, enum_enk, h1]
    rw [e0, nx_seq, h2]
    simp [clsAll]
theorem c_clashes_of (k : Nat) (eds ots : List Ed) (hE : eds.length ≤ 19) (hO : ots.length ≤ 19) : call T (k+1) f_clashes_of [dEds eds, dEds ots] = .ok (.list ((clsAll ots 0 eds).map dPr)) := by
  rw [call_eq T_clashes_of rfl]
  obtain ⟨z0, z1, z2, z3, z4, z5, z6, z7, h⟩ := cls_outer (call T k) (dEds eds) ots hO eds 0 [] none none none none none none none none (by simp; omega)
  have sq : seqN (dEds eds) = .ok (eds.map dEd) := rfl
  unfold bCls at h
  simp [d_clashes_of, b_clashes_of, sq, enum_enk, h]
/-! ### .. as the law finds it -/
def xIn : E := .or (.and (.cmp .Eq (.var 4) (.var 5)) (.one (.chain .Lt .Lt (.var 8) (.var 4) (.var 9)))) (.one (.and (.cmp .Eq (.var 8) (.var 9)) (.one (.chain .Lt .Lt (.var 4) (.var 8) (.var 5)))))
theorem in_val (Φ : Nat → List D → R D) (env : Env) (i4 i5 i8 i9 : Int) (h4 : getV env 4 = .ok (.int i4)) (h5 : getV env 5 = .ok (.int i5)) (h8 : getV env 8 = .ok (.int i8)) (h9 : getV env 9 = .ok (.int i9)) :
    evE Φ xIn env = .ok (.bool (decide (i4 = i5) && (decide (i8 < i4) && decide (i4 < i9)) || decide (i8 = i9) && (decide (i4 < i8) && decide (i8 < i5)))) := by
  rcases ha : decide (i4 = i5) <;> rcases hb : decide (i8 < i4) <;> rcases hc : decide (i4 < i9) <;> rcases hd : decide (i8 = i9) <;> rcases he : decide (i4 < i8) <;> rcases hf : decide (i8 < i5) <;>
    simp only [xIn, e_or, e_and, e_cmp, e_one, e_var, e_chain, kCh2_ok, kCh_ok, h4, h5, h8, h9, k2_ok, cLt, cEq, eqI, kB_ok, kOr1_ok, kAnd1_ok, trB, kOr_ok, kAnd_ok, ha, hb, hc, hd, he, hf, if_true, Bool.false_eq_true, if_false, kT_ok, Bool.and_true, Bool.and_false, Bool.or_true, Bool.or_false, Bool.true_and, Bool.false_and, Bool.true_or, Bool.false_or]
def xLc : E := .or (.cmp .NotEq (.var 11) (.lst .nil)) (.or (.var 12) (.one (.and (.cmp .Eq (.var 4) (.var 8)) (.one (.or (.cmp .Eq (.var 4) (.var 5)) (.one (.cmp .Eq (.var 8) (.var 9))))))))
theorem lc_test (Φ : Nat → List D → R D) (env : Env) (i4 i5 i8 i9 : Int) (L : D) (c b : Bool) (h4 : getV env 4 = .ok (.int i4)) (h5 : getV env 5 = .ok (.int i5)) (h8 : getV env 8 = .ok (.int i8)) (h9 : getV env 9 = .ok (.int i9)) (h11 : getV env 11 = .ok L) (h12 : getV env 12 = .ok (.bool b)) (hL : eqD L (.list []) = .ok c) :
    kT (evE Φ xLc env) = .ok (!c || (b || decide (i4 = i8) && (decide (i4 = i5) || decide (i8 = i9)))) := by
  have hm : mkLst [] = .ok (.list []) := rfl
  rcases hc : decide (i4 = i8) <;> rcases hd : decide (i4 = i5) <;> rcases he : decide (i8 = i9) <;> cases c <;> cases b <;>
    simp only [xLc, e_or, e_and, e_cmp, e_one, e_var, e_lst, es_nil, kL_ok, hm, h4, h5, h8, h9, h11, h12, hL, k2_ok, cNe, cEq, eqI, kB_ok, kOr1_ok, kAnd1_ok, trB, kOr_ok, kAnd_ok, hc, hd, he, if_true, Bool.false_eq_true, if_false, kT_ok, Bool.and_true, Bool.and_false, Bool.or_true, Bool.or_false, Bool.true_and, Bool.false_and, Bool.true_or, Bool.false_or, Bool.not_true, Bool.not_false]
def bothS (e f : Ed) : List D := (List.range (e.2.1 - e.1)).filterMap fun (k : Nat) => if decide (f.1 ≤ e.1 + k) && decide (e.1 + k < f.2.1) then some (.int ((e.1 : Int) + (k : Int))) else none
theorem both_pd (e f : Ed) : pd (.list (bothS e f)) := by
  have h1 : ∀ d ∈ bothS e f, pl d = true ∧ d.depth ≤ 1 := by
    intro d hd
    obtain ⟨k, _, hk⟩ := List.mem_filterMap.mp hd
    split at hk
    · cases hk; exact ⟨rfl, by simp [PyData.depth]⟩
    · cases hk
  have h2 := depthAll_le fun d hd => (h1 d hd).2
  refine ⟨?_, ?_⟩
  · simp only [pl]; exact plL_all fun d hd => (h1 d hd).1
  · simp only [PyData.depth]; omega
theorem both_eq (e f : Ed) : eqD (.list (bothS e f)) (.list []) = .ok (decide (bothS e f = [])) := by
  have hp : pd (.list []) := ⟨rfl, by simp [PyData.depth, PyData.depthAll]⟩
  by_cases h : bothS e f = []
  · rw [h, eqD_self hp]; simp
  · rw [eqD_ne (both_pd e f) hp (fun z => h (by simpa using z))]; simp [h]
theorem both_nil (e f : Ed) (he : e.1 ≤ e.2.1) (hf : f.1 ≤ f.2.1) : bothS e f = [] ↔ ¬ (e.1 < e.2.1 ∧ f.1 < f.2.1 ∧ e.1 < f.2.1 ∧ f.1 < e.2.1) := by
  constructor
  · intro h z
    unfold bothS at h
    rw [List.filterMap_eq_nil_iff] at h
    have := h (max e.1 f.1 - e.1) (by rw [List.mem_range]; omega)
    have h1 : f.1 ≤ e.1 + (max e.1 f.1 - e.1) := by omega
    have h2 : e.1 + (max e.1 f.1 - e.1) < f.2.1 := by omega
    simp [h1, h2] at this
  · intro h
    unfold bothS
    rw [List.filterMap_eq_nil_iff]
    intro k hk
    rw [List.mem_range] at hk
    by_cases h1 : f.1 ≤ e.1 + k
    · by_cases h2 : e.1 + k < f.2.1
      · exfalso; apply h; omega
      · simp [h2]
    · simp [h1]
theorem law_clash (e f : Ed) (he : e.1 ≤ e.2.1) (hf : f.1 ≤ f.2.1) : (!decide (bothS e f = []) || ((decide ((e.1 : Int) = (e.2.1 : Int)) && (decide ((f.1 : Int) < (e.1 : Int)) && decide ((e.1 : Int) < (f.2.1 : Int))) || decide ((f.1 : Int) = (f.2.1 : Int)) && (decide ((e.1 : Int) < (f.1 : Int)) && decide ((f.1 : Int) < (e.2.1 : Int)))) ||
    decide ((e.1 : Int) = (f.1 : Int)) && (decide ((e.1 : Int) = (e.2.1 : Int)) || decide ((f.1 : Int) = (f.2.1 : Int))))) = clashB e f := by
  have hb := both_nil e f he hf
  have e1 : decide (bothS e f = []) = decide (¬ (e.1 < e.2.1 ∧ f.1 < f.2.1 ∧ e.1 < f.2.1 ∧ f.1 < e.2.1)) := decide_eq_decide.mpr hb
  rw [e1]
  unfold clashB
  rw [Bool.eq_iff_iff]
  simp only [Bool.or_eq_true, Bool.and_eq_true, Bool.not_eq_true', decide_eq_true_eq, decide_eq_false_iff_not]
  omega
def bLc : S := .asg (.name 11) (.comp (.var 13) (.name 13) (.rng2 (.var 4) (.var 5)) (.some (.chain .LtE .Lt (.var 8) (.var 13) (.var 9)))) (.asg (.name 12) xIn (.ite xLc (.app 2 (.tup (.cons (.var 3) (.cons (.var 7) .nil))) .nil) .nil .nil))
theorem lc_comp (Φ : Nat → List D → R D) (e f : Ed) (h2 : e.2.1 ≤ 1000) (a0 a1 a2 a3 a6 a7 a10 a11 a12 a13 : Option W) :
    compB Φ (.var 13) (.name 13) (.some (.chain .LtE .Lt (.var 8) (.var 13) (.var 9))) [a0, a1, a2, a3, some (.val (.int e.1)), some (.val (.int e.2.1)), a6, a7, some (.val (.int f.1)), some (.val (.int f.2.1)), a10, a11, a12, a13] ((List.range (e.2.1 - e.1)).map fun (k : Nat) => .int ((e.1 : Int) + (k : Int))) = .ok (.list (bothS e f)) := by
  refine compB_off _ (fun (k : Nat) => .int ((e.1 : Int) + (k : Int))) _ (by simp; omega) fun k hk => ?_
  by_cases h3 : f.1 ≤ e.1 + k
  · have h3' : (f.1 : Int) ≤ (e.1 : Int) + (k : Int) := by omega
    by_cases h4 : e.1 + k < f.2.1
    · have h4' : (e.1 : Int) + (k : Int) < (f.2.1 : Int) := by omega
      simp [Tg.slots, wipeE, h3, h3', h4, h4']
    · have h4' : ¬ (e.1 : Int) + (k : Int) < (f.2.1 : Int) := by omega
      simp [Tg.slots, wipeE, h3, h3', h4, h4']
  · have h3' : ¬ (f.1 : Int) ≤ (e.1 : Int) + (k : Int) := by omega
    simp [Tg.slots, wipeE, h3, h3']
theorem lc_step (Φ : Nat → List D → R D) (a b nw : D) (i j : Nat) (e f : Ed) (F : List D) (y0 y1 y2 y3 y4 y5 y6 : Option W) (hF : F.length < 100000) (he : e.1 ≤ e.2.1) (he2 : e.2.1 ≤ 1000) (hf : f.1 ≤ f.2.1) :
    ∃ z5 z6, kAsg2 Φ bLc (asgn (.t2 (.name 7) (.t3 (.name 8) (.name 9) (.name 10))) (.tuple [.int (j : Nat), dEd f]) [some (.val a), some (.val b), some (.own F), some (.val (.int i)), some (.val (.int e.1)), some (.val (.int e.2.1)), some (.val nw), y0, y1, y2, y3, y4, y5, y6]) =
      .nx [some (.val a), some (.val b), some (.own (F ++ (if clashB e f then [(i, j)] else []).map dPr)), some (.val (.int i)), some (.val (.int e.1)), some (.val (.int e.2.1)), some (.val nw), some (.val (.int j)), some (.val (.int f.1)), some (.val (.int f.2.1)), some (.val (dT f.2.2)), z5, z6, y6] := by
  have h1 : asgn (.t2 (.name 7) (.t3 (.name 8) (.name 9) (.name 10))) (.tuple [.int (j : Nat), dEd f]) [some (.val a), some (.val b), some (.own F), some (.val (.int i)), some (.val (.int e.1)), some (.val (.int e.2.1)), some (.val nw), y0, y1, y2, y3, y4, y5, y6] =
      some [some (.val a), some (.val b), some (.own F), some (.val (.int i)), some (.val (.int e.1)), some (.val (.int e.2.1)), some (.val nw), some (.val (.int j)), some (.val (.int f.1)), some (.val (.int f.2.1)), some (.val (dT f.2.2)), y4, y5, y6] := by simp [dEd]
  have rg := rng2_ok e.1 e.2.1 (by omega) (by omega)
  have cc := lc_comp Φ e f he2
  have iv := in_val Φ [some (.val a), some (.val b), some (.own F), some (.val (.int i)), some (.val (.int e.1)), some (.val (.int e.2.1)), some (.val nw), some (.val (.int j)), some (.val (.int f.1)), some (.val (.int f.2.1)), some (.val (dT f.2.2)), some (.val (.list (bothS e f))), y5, y6] e.1 e.2.1 f.1 f.2.1 rfl rfl rfl rfl
  obtain ⟨bi, hbi⟩ : ∃ bi, (decide ((e.1 : Int) = (e.2.1 : Int)) && (decide ((f.1 : Int) < (e.1 : Int)) && decide ((e.1 : Int) < (f.2.1 : Int))) || decide ((f.1 : Int) = (f.2.1 : Int)) && (decide ((e.1 : Int) < (f.1 : Int)) && decide ((f.1 : Int) < (e.2.1 : Int)))) = bi := ⟨_, rfl⟩
  rw [hbi] at iv
  have lt := lc_test Φ [some (.val a), some (.val b), some (.own F), some (.val (.int i)), some (.val (.int e.1)), some (.val (.int e.2.1)), some (.val nw), some (.val (.int j)), some (.val (.int f.1)), some (.val (.int f.2.1)), some (.val (dT f.2.2)), some (.val (.list (bothS e f))), some (.val (.bool bi)), y6] e.1 e.2.1 f.1 f.2.1 (.list (bothS e f)) (decide (bothS e f = [])) bi rfl rfl rfl rfl rfl rfl (both_eq e f)
  have lw := law_clash e f he hf
  rw [hbi] at lw
  rw [lw] at lt
  refine ⟨some (.val (.list (bothS e f))), some (.val (.bool bi)), ?_⟩
  rw [h1, kAsg2_some]
  unfold bLc
  rw [s_asg', e_comp]
  have e1 : evI Φ (.rng2 (.var 4) (.var 5)) [some (.val a), some (.val b), some (.own F), some (.val (.int i)), some (.val (.int e.1)), some (.val (.int e.2.1)), some (.val nw), some (.val (.int j)), some (.val (.int f.1)), some (.val (.int f.2.1)), some (.val (dT f.2.2)), y4, y5, y6] = .ok ((List.range (e.2.1 - e.1)).map fun (k : Nat) => .int ((e.1 : Int) + (k : Int))) := by
    simp [rg]
  rw [e1, kL_ok, cc]
  simp only [kAsg_ok, asgn_name, List.length_cons, List.length_nil]
  simp only [Nat.reduceAdd, Nat.reduceLT, if_true, List.set_cons_succ, List.set_cons_zero, kAsg2_some]
  rw [s_asg', iv]
  simp only [kAsg_ok, asgn_name, List.length_cons, List.length_nil]
  simp only [Nat.reduceAdd, Nat.reduceLT, if_true, List.set_cons_succ, List.set_cons_zero, kAsg2_some]
  rw [s_ite', lt, kIte_ok]
  cases clashB e f
  · simp
  · simp [hF, dPr]
theorem lc_inner (Φ : Nat → List D → R D) (a b : D) (i : Nat) (e : Ed) (nw : D) (he : e.1 ≤ e.2.1) (he2 : e.2.1 ≤ 1000) : ∀ (ots : List Ed) (j : Nat) (F : List D) (y0 y1 y2 y3 y4 y5 y6 : Option W), (∀ f ∈ ots, f.1 ≤ f.2.1) → F.length + ots.length ≤ 10000 →
    ∃ z0 z1 z2 z3 z4 z5, forB Φ (.t2 (.name 7) (.t3 (.name 8) (.name 9) (.name 10))) bLc (enk j (ots.map dEd)) [some (.val a), some (.val b), some (.own F), some (.val (.int i)), some (.val (.int e.1)), some (.val (.int e.2.1)), some (.val nw), y0, y1, y2, y3, y4, y5, y6] =
      .nx [some (.val a), some (.val b), some (.own (F ++ (clsRow i e j ots).map dPr)), some (.val (.int i)), some (.val (.int e.1)), some (.val (.int e.2.1)), some (.val nw), z0, z1, z2, z3, z4, z5, y6]
  | [], j, F, y0, y1, y2, y3, y4, y5, y6, _, _ => ⟨y0, y1, y2, y3, y4, y5, by simp [enk, clsRow]⟩
  | f :: r, j, F, y0, y1, y2, y3, y4, y5, y6, hf, hl => by
    rw [List.length_cons] at hl
    obtain ⟨z5, z6, h1⟩ := lc_step Φ a b nw i j e f F y0 y1 y2 y3 y4 y5 y6 (by omega) he he2 (hf f List.mem_cons_self)
    rw [List.map_cons, enk_cons, forB_cons, h1, nx_seq]
    obtain ⟨w0, w1, w2, w3, w4, w5, ih⟩ := lc_inner Φ a b i e nw he he2 r (j + 1) (F ++ (if clashB e f then [(i, j)] else []).map dPr) (some (.val (.int j))) (some (.val (.int f.1))) (some (.val (.int f.2.1))) (some (.val (dT f.2.2))) z5 z6 y6 (fun g hg => hf g (List.mem_cons_of_mem _ hg)) (by
      rw [List.length_append, List.length_map]
      split <;> simp <;> omega)
    exact ⟨w0, w1, w2, w3, w4, w5, by rw [ih]; simp [clsRow]⟩
theorem lc_outer (Φ : Nat → List D → R D) (a : D) (ots : List Ed) (hO : ots.length ≤ 19) (hf : ∀ f ∈ ots, f.1 ≤ f.2.1) : ∀ (eds : List Ed) (i : Nat) (F : List D) (y0 y1 y2 y3 y4 y5 y6 y7 y8 y9 y10 : Option W), (∀ e ∈ eds, e.1 ≤ e.2.1 ∧ e.2.1 ≤ 1000) → F.length + eds.length * 19 ≤ 1000 →
    ∃ z0 z1 z2 z3 z4 z5 z6 z7 z8 z9, forB Φ (.t2 (.name 3) (.t3 (.name 4) (.name 5) (.name 6))) (.frl (.t2 (.name 7) (.t3 (.name 8) (.name 9) (.name 10))) (.enum (.var 1)) bLc .nil) (enk i (eds.map dEd)) [some (.val a), some (.val (dEds ots)), some (.own F), y0, y1, y2, y3, y4, y5, y6, y7, y8, y9, y10] =
      .nx [some (.val a), some (.val (dEds ots)), some (.own (F ++ (clsAll ots i eds).map dPr)), z0, z1, z2, z3, z4, z5, z6, z7, z8, z9, y10]
  | [], i, F, y0, y1, y2, y3, y4, y5, y6, y7, y8, y9, y10, _, _ => ⟨y0, y1, y2, y3, y4, y5, y6, y7, y8, y9, by simp [enk, clsAll]⟩
  | e :: r, i, F, y0, y1, y2, y3, y4, y5, y6, y7, y8, y9, y10, he, hl => by
    rw [List.length_cons, Nat.succ_mul] at hl
    rw [List.map_cons, enk_cons, forB_cons]
    have hr := clsRow_len i e ots 0
    have hee := he e List.mem_cons_self
    obtain ⟨x0, x1, x2, x3, x4, x5, h1⟩ := lc_inner Φ a (dEds ots) i e (dT e.2.2) hee.1 hee.2 ots 0 F y4 y5 y6 y7 y8 y9 y10 hf (by omega)
    obtain ⟨z0, z1, z2, z3, z4, z5, z6, z7, z8, z9, h2⟩ := lc_outer Φ a ots hO hf r (i + 1) (F ++ (clsRow i e 0 ots).map dPr) (some (.val (.int i))) (some (.val (.int e.1))) (some (.val (.int e.2.1))) (some (.val (dT e.2.2))) x0 x1 x2 x3 x4 x5 y10 (fun g hg => he g (List.mem_cons_of_mem _ hg)) (by simp; omega)
    refine ⟨z0, z1, z2, z3, z4, z5, z6, z7, z8, z9, ?_⟩
    have e0 : kAsg2 Φ (.frl (.t2 (.name 7) (.t3 (.name 8) (.name 9) (.name 10))) (.enum (.var 1)) bLc .nil) (asgn (.t2 (.name 3) (.t3 (.name 4) (.name 5) (.name 6))) (.tuple [.int (i : Nat), dEd e]) [some (.val a), some (.val (dEds ots)), some (.own F), y0, y1, y2, y3, y4, y5, y6, y7, y8, y9, y10]) =
        .nx [some (.val a), some (.val (dEds ots)), some (.own (F ++ (clsRow i e 0 ots).map dPr)), some (.val (.int i)), some (.val (.int e.1)), some (.val (.int e.2.1)), some (.val (dT e.2.2)), x0, x1, x2, x3, x4, x5, y10] := by
      have sq : seqN (dEds ots) = .ok (ots.map dEd) := rfl
      simp [dEd, sq, enum_enk, h1]
    rw [e0, nx_seq, h2]
    simp [clsAll]
theorem c_law_clashes (k : Nat) (n : Nat) (hn : n ≤ 1000) (eds ots : List Ed) (hE : eds.length ≤ 19) (hO : ots.length ≤ 19) (oE : okE n 0 eds) (oO : okE n 0 ots) : call T (k+1) f_law_clashes [dEds eds, dEds ots] = .ok (.list ((clsAll ots 0 eds).map dPr)) := by
  rw [call_eq T_law_clashes rfl]
  obtain ⟨z0, z1, z2, z3, z4, z5, z6, z7, z8, z9, h⟩ := lc_outer (call T k) (dEds eds) ots hO (fun f hf => (okE_bound n ots 0 oO f hf).1) eds 0 [] none none none none none none none none none none none (fun e he => by
    have := okE_bound n eds 0 oE e he
    omega) (by simp; omega)
  have sq : seqN (dEds eds) = .ok (eds.map dEd) := rfl
  unfold bLc xIn xLc at h
  simp [d_law_clashes, b_law_clashes, sq, enum_enk, h]
end M

set_option linter.all false
set_option maxRecDepth 100000
set_option maxHeartbeats 1000000
namespace M
open PySem TL
/-! ### changes of two hands, in order -/
abbrev Rw := Ed × Nat × Nat
def rkey (r : Rw) : List Int := [(r.1.1 : Nat), (r.1.2.1 : Nat), (r.2.1 : Nat), (r.2.2 : Nat)]
def dRw (r : Rw) : D := .tuple [.int r.1.1, .int r.1.2.1, .int r.2.1, .int r.2.2, dEd r.1]
theorem tkey_dRw (r : Rw) : tkey (dRw r) = rkey r := rfl
theorem tlen_dRw (r : Rw) : tlen (dRw r) = some 5 := rfl
def rwsF (h k : Nat) (eds : List Ed) : List Rw := (eds.zipIdx k).map fun p => (p.1, h, p.2)
theorem rwsF_cons (h k : Nat) (e : Ed) (eds : List Ed) : rwsF h k (e :: eds) = (e, h, k) :: rwsF h (k + 1) eds := rfl
def leR (a b : Rw) : Bool := lexLe (rkey a) (rkey b)
def spLe (e f : Ed) : Bool := decide (e.1 < f.1) || (decide (e.1 = f.1) && decide (e.2.1 ≤ f.2.1))
def mrg (eds ots : List Ed) : List Ed := List.merge eds ots spLe
theorem rwsF_fst (h : Nat) : ∀ (eds : List Ed) (k : Nat), (rwsF h k eds).map (·.1) = eds
  | [], _ => rfl
  | e :: eds, k => by rw [rwsF_cons, List.map_cons, rwsF_fst h eds (k + 1)]
theorem rwsF_mem (h : Nat) : ∀ (eds : List Ed) (k : Nat) (r : Rw), r ∈ rwsF h k eds → r.1 ∈ eds ∧ r.2.1 = h ∧ k ≤ r.2.2
  | [], _, r, hr => by simp [rwsF] at hr
  | e :: eds, k, r, hr => by
    rw [rwsF_cons] at hr
    rcases List.mem_cons.mp hr with rfl | hr
    · exact ⟨List.mem_cons_self, rfl, Nat.le_refl _⟩
    · obtain ⟨h1, h2, h3⟩ := rwsF_mem h eds (k + 1) r hr
      exact ⟨List.mem_cons_of_mem _ h1, h2, by omega⟩
theorem okE_at (n : Nat) : ∀ (eds : List Ed) (at_ : Nat), okE n at_ eds → ∀ e ∈ eds, at_ ≤ e.1 ∧ e.1 ≤ e.2.1
  | [], _, _, e, he => by cases he
  | (b, e, nw) :: r, at_, ⟨h1, h2, h3, h4, h5⟩, x, hx => by
    rcases List.mem_cons.mp hx with rfl | hx
    · exact ⟨h1, h2⟩
    · have := okE_at n r e h5 x hx
      exact ⟨by omega, this.2⟩
theorem rwsF_srt (n h : Nat) : ∀ (eds : List Ed) (k at_ : Nat), okE n at_ eds → (rwsF h k eds).Pairwise fun a b => leR a b = true
  | [], _, _, _ => .nil
  | (b, e, nw) :: r, k, at_, ⟨h1, h2, h3, h4, h5⟩ => by
    rw [rwsF_cons]
    refine List.pairwise_cons.mpr ⟨fun x hx => ?_, rwsF_srt n h r (k + 1) e h5⟩
    obtain ⟨m1, m2, m3⟩ := rwsF_mem h r (k + 1) x hx
    obtain ⟨o1, o2⟩ := okE_at n r e h5 x.1 m1
    simp only [leR, rkey, lexLe, m2]
    by_cases q1 : (b : Int) = (x.1.1 : Int)
    · rw [if_pos q1]
      by_cases q2 : (e : Int) = (x.1.2.1 : Int)
      · rw [if_pos q2, if_pos trivial]
        by_cases q3 : (k : Int) = (x.2.2 : Int)
        · rw [if_pos q3]
        · rw [if_neg q3]; simp; omega
      · rw [if_neg q2]; simp; omega
    · rw [if_neg q1]; simp; omega
theorem rwsF_nd (h : Nat) : ∀ (eds : List Ed) (k : Nat), (rwsF h k eds).Pairwise fun a b => a.2.2 < b.2.2
  | [], _ => .nil
  | e :: r, k => by
    rw [rwsF_cons]
    refine List.pairwise_cons.mpr ⟨fun x hx => ?_, rwsF_nd h r (k + 1)⟩
    have := (rwsF_mem h r (k + 1) x hx).2.2
    show k < x.2.2
    omega
/-- the rows of both hands -/
def rws (eds ots : List Ed) : List Rw := rwsF 0 0 eds ++ rwsF 1 0 ots
theorem rws_order (eds ots : List Ed) : (rws eds ots).Pairwise fun a b => a.2.1 < b.2.1 ∨ (a.2.1 = b.2.1 ∧ a.2.2 < b.2.2) := by
  unfold rws
  rw [List.pairwise_append]
  refine ⟨(rwsF_nd 0 eds 0).imp_of_mem fun {a b} ha hb h => .inr ⟨?_, h⟩, (rwsF_nd 1 ots 0).imp_of_mem fun {a b} ha hb h => .inr ⟨?_, h⟩, fun a ha b hb => .inl ?_⟩
  · rw [(rwsF_mem 0 eds 0 a ha).2.1, (rwsF_mem 0 eds 0 b hb).2.1]
  · rw [(rwsF_mem 1 ots 0 a ha).2.1, (rwsF_mem 1 ots 0 b hb).2.1]
  · rw [(rwsF_mem 0 eds 0 a ha).2.1, (rwsF_mem 1 ots 0 b hb).2.1]; omega
theorem rws_keys (eds ots : List Ed) : ((rws eds ots).map rkey).Nodup := by
  refine List.pairwise_map.mpr ((rws_order eds ots).imp fun {a b} h z => ?_)
  simp only [rkey, List.cons.injEq, and_true] at z
  omega
theorem rws_tups (eds ots : List Ed) : tupsOk 5 4 ((rws eds ots).map dRw) = true := by
  unfold tupsOk
  simp only [Bool.and_eq_true, List.all_eq_true, decide_eq_true_eq, Bool.or_eq_true]
  refine ⟨fun x hx => ?_, by omega, .inr ?_⟩
  · obtain ⟨r, _, rfl⟩ := List.mem_map.mp hx
    exact ⟨rfl, rfl⟩
  · rw [List.map_map]
    exact rws_keys eds ots
theorem leR_lt {a b : Rw} (h : leR a b = true) : ltK (dRw b) (dRw a) = false := by
  unfold leR at h
  rw [lexLe_eq, Bool.not_eq_true'] at h
  exact h
theorem leR_tr (a b c : Rw) (h1 : leR a b = true) (h2 : leR b c = true) : leR a c = true := by
  have := ltK_swo.tr (dRw a) (dRw b) (dRw c) (leR_lt h1) (leR_lt h2)
  unfold leR
  rw [lexLe_eq, Bool.not_eq_true']
  exact this
theorem leR_tot (a b : Rw) : (leR a b || leR b a) = true := by
  cases h : leR a b with
  | true => rfl
  | false =>
    unfold leR at h ⊢
    rw [lexLe_eq, Bool.not_eq_false'] at h
    rw [lexLe_eq, Bool.false_or, Bool.not_eq_true']
    exact ltK_swo.asym (dRw b) (dRw a) h
/-- what is sorted by its rows is the one list -/
theorem sort_rows (eds ots : List Ed) (L : List Rw) (p : L.Perm (rws eds ots)) (s : L.Pairwise fun a b => leR a b = true) : sortK ((rws eds ots).map dRw) = L.map dRw := by
  symm
  refine srtK_eq ((p.map dRw).trans (sortK_perm _).symm) (List.pairwise_map.mpr (s.imp fun {a b} h => leR_lt h)) (sortK_sorted _) fun x hx y hy => tupsOk_inj (rws_tups eds ots) x ((p.map dRw).mem_iff.mp hx) y ((p.map dRw).mem_iff.mp hy)
def mrgR (eds ots : List Ed) : List Rw := List.merge (rwsF 0 0 eds) (rwsF 1 0 ots) leR
theorem mrgR_perm (eds ots : List Ed) : (mrgR eds ots).Perm (rws eds ots) := List.merge_perm_append leR
theorem mrgR_srt {n : Nat} {eds ots : List Ed} (h1 : okE n 0 eds) (h2 : okE n 0 ots) : (mrgR eds ots).Pairwise fun a b => leR a b = true := List.pairwise_merge leR_tr leR_tot _ _ (rwsF_srt n 0 eds 0 0 h1) (rwsF_srt n 1 ots 0 0 h2)
theorem mrgR_fst (eds ots : List Ed) : (mrgR eds ots).map (·.1) = mrg eds ots := by
  unfold mrgR mrg
  rw [List.map_merge (s := spLe), rwsF_fst, rwsF_fst]
  intro a ha b hb
  have a2 := (rwsF_mem 0 eds 0 a ha).2.1
  have b2 := (rwsF_mem 1 ots 0 b hb).2.1
  simp only [leR, rkey, lexLe, spLe, a2, b2]
  by_cases q1 : a.1.1 = b.1.1
  · by_cases q2 : a.1.2.1 = b.1.2.1
    · simp [q1, q2]
    · have q3 : ¬ (a.1.2.1 : Int) = (b.1.2.1 : Int) := by omega
      simp only [q1, if_true, q3, if_false]
      by_cases q4 : a.1.2.1 < b.1.2.1
      · have q5 : (a.1.2.1 : Int) < (b.1.2.1 : Int) := by omega
        simp [q5]; omega
      · have q5 : ¬ (a.1.2.1 : Int) < (b.1.2.1 : Int) := by omega
        simp [q5]; omega
  · have q3 : ¬ (a.1.1 : Int) = (b.1.1 : Int) := by omega
    simp only [q3, if_false, q1]
    by_cases q4 : a.1.1 < b.1.1
    · have q5 : (a.1.1 : Int) < (b.1.1 : Int) := by omega
      simp [q4]
    · have q5 : ¬ (a.1.1 : Int) < (b.1.1 : Int) := by omega
      simp [q4]
theorem sorted_ok {ds : List D} {n m : Nat} (h : tupsOk n m ds = true) : biD .sorted [.list ds] = .ok (.list (sortK ds)) := by
  cases ds with
  | nil => rfl
  | cons d ds =>
    have hx := h
    unfold tupsOk at hx
    simp only [Bool.and_eq_true, List.all_eq_true, decide_eq_true_eq] at hx
    obtain ⟨h1, h2⟩ := hx.1 d List.mem_cons_self
    have hi : intsOf (d :: ds) = none := intsOf_tup d ds fun i z => by subst z; cases h1
    simp only [biD, hi]
    show (if tupsOk _ _ _ = true then _ else _) = _
    rw [h1, h2, Option.getD_some, if_pos h]
@[simp] theorem at4 {α : Type} (x y z w u : α) (xs : List α) : L2.atI (x :: y :: z :: w :: u :: xs) 4 = some u := atI_get (by decide) rfl
theorem put_comp (Φ : Nat → List D → R D) (h : Nat) (eds : List Ed) (hl : eds.length ≤ 19) (a0 a1 a2 a3 a4 a5 : Option W) :
    compB Φ (.tup (.cons (.idx (.var 4) (.int 0)) (.cons (.idx (.var 4) (.int 1)) (.cons (.int (h : Nat)) (.cons (.var 3) (.cons (.var 4) .nil)))))) (.t2 (.name 3) (.name 4)) .none [a0, a1, a2, a3, a4, a5] (enumD (eds.map dEd)) = .ok (.list ((rwsF h 0 eds).map dRw)) := by
  have e1 : enumD (eds.map dEd) = eds.zipIdx.map fun p => .tuple [.int (p.2 : Nat), dEd p.1] := by
    unfold enumD
    rw [List.zipIdx_map, List.map_map]
    rfl
  have e2 : (rwsF h 0 eds).map dRw = eds.zipIdx.map fun p => dRw (p.1, h, p.2) := by
    unfold rwsF
    rw [List.map_map]; rfl
  rw [e1, e2]
  refine compB_of _ _ _ (by simp; omega) fun p _ => ?_
  simp [Tg.slots, wipeE, dEd, dRw]
theorem c_put_in_order (k n : Nat) (eds ots : List Ed) (hE : eds.length ≤ 19) (hO : ots.length ≤ 19) (h1 : okE n 0 eds) (h2 : okE n 0 ots) : call T (k+1) f_put_in_order [dEds eds, dEds ots] = .ok (dEds (mrg eds ots)) := by
  rw [call_eq T_put_in_order rfl]
  have p0 := put_comp (call T k) 0 eds hE
  have p1 := put_comp (call T k) 1 ots hO
  have sq : ∀ x, seqN (dEds x) = .ok (x.map dEd) := fun x => rfl
  have l0 : (rwsF 0 0 eds).length = eds.length := by simp [rwsF]
  have l1 : (rwsF 1 0 ots).length = ots.length := by simp [rwsF]
  have ll : eds.length + ots.length ≤ 100000 := by omega
  have so := sorted_ok (rws_tups eds ots)
  rw [sort_rows eds ots _ (mrgR_perm eds ots) (mrgR_srt h1 h2)] at so
  have er : (rwsF 0 0 eds).map dRw ++ (rwsF 1 0 ots).map dRw = (rws eds ots).map dRw := by rw [rws, List.map_append]
  have lm : (mrgR eds ots).length ≤ 100000 := by rw [(mrgR_perm eds ots).length_eq, rws, List.length_append, l0, l1]; exact ll
  have p2 : ∀ a0 a1 a2 a3 a4 a5 : Option W, compB (call T k) (.idx (.var 5) (.int 4)) (.name 5) .none [a0, a1, a2, a3, a4, a5] ((mrgR eds ots).map dRw) = .ok (.list ((mrgR eds ots).map fun r => dEd r.1)) := by
    intro a0 a1 a2 a3 a4 a5
    refine compB_of _ _ _ (by simpa using lm) fun p _ => ?_
    simp [Tg.slots, wipeE, dRw]
  have ef : (mrgR eds ots).map (fun r => dEd r.1) = (mrg eds ots).map dEd := by rw [← mrgR_fst, List.map_map]; rfl
  rw [ef] at p2
  have p0' : ∀ a0 a1 a2 a3 a4 a5 : Option W, compB (call T k) (.tup (.cons (.idx (.var 4) (.int 0)) (.cons (.idx (.var 4) (.int 1)) (.cons (.int 0) (.cons (.var 3) (.cons (.var 4) .nil)))))) (.t2 (.name 3) (.name 4)) .none [a0, a1, a2, a3, a4, a5] (enumD (eds.map dEd)) = .ok (.list ((rwsF 0 0 eds).map dRw)) := p0
  have p1' : ∀ a0 a1 a2 a3 a4 a5 : Option W, compB (call T k) (.tup (.cons (.idx (.var 4) (.int 0)) (.cons (.idx (.var 4) (.int 1)) (.cons (.int 1) (.cons (.var 3) (.cons (.var 4) .nil)))))) (.t2 (.name 3) (.name 4)) .none [a0, a1, a2, a3, a4, a5] (enumD (ots.map dEd)) = .ok (.list ((rwsF 1 0 ots).map dRw)) := p1
  simp [d_put_in_order, b_put_in_order, sq, p0', p1', l0, l1, ll, er, so, p2]
  rfl
end M

set_option linter.all false
set_option maxRecDepth 100000
set_option maxHeartbeats 1000000
namespace M
open PySem TL
/-! ### where none clash -/
def noCl (eds ots : List Ed) : Prop := ∀ e ∈ eds, ∀ f ∈ ots, clashB e f = false
theorem clsRow_nil (i : Nat) (e : Ed) : ∀ (ots : List Ed) (j : Nat), clsRow i e j ots = [] ↔ ∀ f ∈ ots, clashB e f = false
  | [], _ => by simp [clsRow]
  | f :: r, j => by
    have ih := clsRow_nil i e r (j + 1)
    simp only [clsRow, List.append_eq_nil_iff, ih, List.mem_cons, forall_eq_or_imp]
    cases clashB e f <;> simp
theorem clsAll_nil (ots : List Ed) : ∀ (eds : List Ed) (i : Nat), clsAll ots i eds = [] ↔ noCl eds ots
  | [], _ => by simp [clsAll, noCl]
  | e :: r, i => by
    have ih := clsAll_nil ots r (i + 1)
    simp only [clsAll, List.append_eq_nil_iff, ih, clsRow_nil, noCl, List.mem_cons, forall_eq_or_imp]
theorem mrg_nil1 (q : List Ed) : mrg [] q = q := List.nil_merge q
theorem mrg_nil2 (q : List Ed) : mrg q [] = q := List.merge_right q
theorem mrg_cons (e f : Ed) (r q : List Ed) : mrg (e :: r) (f :: q) = if spLe e f = true then e :: mrg r (f :: q) else f :: mrg (e :: r) q := List.cons_merge_cons _ _ _ _ _
theorem sp_apart {e f : Ed} (h : clashB e f = false) (he : e.1 ≤ e.2.1) (hf : f.1 ≤ f.2.1) : (spLe e f = true → e.2.1 ≤ f.1) ∧ (spLe e f = false → f.2.1 ≤ e.1) := by
  unfold clashB at h
  unfold spLe
  simp only [Bool.or_eq_false_iff, Bool.and_eq_false_iff, decide_eq_false_iff_not, Bool.or_eq_true, Bool.and_eq_true, decide_eq_true_eq] at h ⊢
  omega
theorem okE_later {n at_ a2 : Nat} {eds : List Ed} (h : okE n at_ eds) (h2 : ∀ e, eds.head? = some e → a2 ≤ e.1) : okE n a2 eds := by
  cases eds with
  | nil => trivial
  | cons e r =>
    obtain ⟨b, e', nw⟩ := e
    exact ⟨h2 _ rfl, h.2⟩
theorem mrg_ok (n : Nat) : ∀ (m : Nat) (eds ots : List Ed) (at_ : Nat), eds.length + ots.length ≤ m → okE n at_ eds → okE n at_ ots → noCl eds ots → okE n at_ (mrg eds ots)
  | _, [], ots, at_, _, _, h2, _ => by rw [mrg_nil1]; exact h2
  | _, e :: r, [], at_, _, h1, _, _ => by rw [mrg_nil2]; exact h1
  | 0, _ :: _, _ :: _, _, h, _, _, _ => by simp at h
  | m + 1, e :: r, f :: q, at_, hm, h1, h2, hc => by
    obtain ⟨e1, e2, en⟩ := e
    obtain ⟨f1, f2, fn⟩ := f
    obtain ⟨a1, a2, a3, a4, a5⟩ := h1
    obtain ⟨b1, b2, b3, b4, b5⟩ := h2
    have sp := sp_apart (hc _ List.mem_cons_self _ List.mem_cons_self) a2 b2
    rw [mrg_cons]
    simp only [List.length_cons] at hm
    split
    · rename_i hs
      have := sp.1 hs
      refine ⟨a1, a2, a3, a4, mrg_ok n m r ((f1, f2, fn) :: q) e2 (by simp only [List.length_cons]; omega) a5 ⟨this, b2, b3, b4, b5⟩ fun x hx y hy => hc x (List.mem_cons_of_mem _ hx) y hy⟩
    · rename_i hs
      have := sp.2 (by simpa using hs)
      refine ⟨b1, b2, b3, b4, mrg_ok n m ((e1, e2, en) :: r) q f2 (by simp only [List.length_cons]; omega) ⟨this, a2, a3, a4, a5⟩ b5 fun x hx y hy => hc x hx y (List.mem_cons_of_mem _ hy)⟩
theorem mrg_perm (eds ots : List Ed) : (mrg eds ots).Perm (eds ++ ots) := List.merge_perm_append spLe
theorem mrg_len (eds ots : List Ed) : (mrg eds ots).length = eds.length + ots.length := by rw [(mrg_perm eds ots).length_eq, List.length_append]
theorem growE_app : ∀ a b : List Ed, growE (a ++ b) = growE a + growE b
  | [], b => by simp [growE]
  | (x, y, z) :: a, b => by simp only [List.cons_append, growE, growE_app a b]; omega
theorem growE_perm {a b : List Ed} (p : a.Perm b) : growE a = growE b := by
  induction p with
  | nil => rfl
  | cons x _ ih => obtain ⟨a, b, c⟩ := x; simp only [growE, ih]
  | swap x y l => obtain ⟨a, b, c⟩ := x; obtain ⟨d, e, f⟩ := y; simp only [growE]; omega
  | trans _ _ h1 h2 => rw [h1, h2]
theorem growE_mrg (eds ots : List Ed) : growE (mrg eds ots) = growE eds + growE ots := by rw [growE_perm (mrg_perm eds ots), growE_app]
/-! ### the program's defs -/
section
variable (k : Nat) (t : List Nat) (ht : t.length ≤ 1000) (eds ots : List Ed) (hE : eds.length ≤ 19) (hO : ots.length ≤ 19) (h1 : okE t.length 0 eds) (h2 : okE t.length 0 ots) (s1 : (chT t 0 eds).length ≤ 1000) (s2 : (chT t 0 ots).length ≤ 1000)
include ht hE hO h1 h2 s1 s2
theorem c_clashes : call T (k+4) f_clashes [dT t, dEds eds, dEds ots] = .ok (.list ((clsAll ots 0 eds).map dPr)) := by
  rw [call_eq T_clashes rfl]
  have l1 := c_look_edits k t ht eds h1 hE
  have l2 := c_look_edits k t ht ots h2 hO
  rw [if_pos s1] at l1
  rw [if_pos s2] at l2
  simp [d_clashes, b_clashes, l1, l2, c_clashes_of (k+2) eds ots hE hO]
theorem c_merged_clash (hc : clsAll ots 0 eds ≠ []) : call T (k+4) f_merged [dT t, dEds eds, dEds ots] = .exc 6 := by
  rw [call_eq T_merged rfl]
  have l1 := c_look_edits k t ht eds h1 hE
  have l2 := c_look_edits k t ht ots h2 hO
  rw [if_pos s1] at l1
  rw [if_pos s2] at l2
  simp [d_merged, b_merged, l1, l2, c_clashes_of (k+2) eds ots hE hO, hc]
theorem c_merged_big (hc : noCl eds ots) (hb : 19 < eds.length + ots.length) : call T (k+4) f_merged [dT t, dEds eds, dEds ots] = .exc 5 := by
  rw [call_eq T_merged rfl]
  have l1 := c_look_edits k t ht eds h1 hE
  have l2 := c_look_edits k t ht ots h2 hO
  rw [if_pos s1] at l1
  rw [if_pos s2] at l2
  have hc := (clsAll_nil ots eds 0).mpr hc
  have ln : biD .len [dEds (mrg eds ots)] = .ok (.int ((eds.length + ots.length : Nat) : Int)) := by rw [← mrg_len]; simp [dEds]
  have hb' : (19 : Int) < ((eds.length + ots.length : Nat) : Int) := by omega
  simp [-Int.natCast_add, d_merged, b_merged, l1, l2, c_clashes_of (k+2) eds ots hE hO, hc, c_put_in_order (k+2) t.length eds ots hE hO h1 h2, ln, hb']
theorem c_merged (hc : noCl eds ots) (hb : eds.length + ots.length ≤ 19) (hs : (chT t 0 (mrg eds ots)).length ≤ 1000) : call T (k+4) f_merged [dT t, dEds eds, dEds ots] = .ok (dEds (mrg eds ots)) := by
  rw [call_eq T_merged rfl]
  have l1 := c_look_edits k t ht eds h1 hE
  have l2 := c_look_edits k t ht ots h2 hO
  rw [if_pos s1] at l1
  rw [if_pos s2] at l2
  have l3 := c_look_edits k t ht (mrg eds ots) (mrg_ok t.length _ eds ots 0 (Nat.le_refl _) h1 h2 hc) (by rw [mrg_len]; exact hb)
  rw [if_pos hs] at l3
  have hc := (clsAll_nil ots eds 0).mpr hc
  have ln : biD .len [dEds (mrg eds ots)] = .ok (.int ((eds.length + ots.length : Nat) : Int)) := by rw [← mrg_len]; simp [dEds]
  have hb' : ¬ (19 : Int) < ((eds.length + ots.length : Nat) : Int) := by omega
  simp [-Int.natCast_add, d_merged, b_merged, l1, l2, c_clashes_of (k+2) eds ots hE hO, hc, c_put_in_order (k+2) t.length eds ots hE hO h1 h2, ln, hb', l3]
end
/-! ### the law's order -/
def spot (e : Ed) : List Int := [(e.1 : Nat), (e.2.1 : Nat)]
def spots (eds ots : List Ed) : List (List Int) := sortT ((eds ++ ots).map spot).eraseDups
theorem filt_perm {α β : Type} [DecidableEq β] (f : α → β) : ∀ (S : List β) (R : List α), S.Nodup → (∀ r ∈ R, f r ∈ S) → (S.flatMap fun s => R.filter fun r => decide (f r = s)).Perm R
  | [], R, _, h => by
    cases R with
    | nil => exact .refl _
    | cons r R => exact absurd (h r List.mem_cons_self) (by simp)
  | s :: S, R, hn, h => by
    rw [List.nodup_cons] at hn
    rw [List.flatMap_cons]
    have ih := filt_perm f S (R.filter fun r => !decide (f r = s)) hn.2 fun r hr => by
      obtain ⟨h1, h2⟩ := List.mem_filter.mp hr
      rcases List.mem_cons.mp (h r h1) with z | z
      · simp [z] at h2
      · exact z
    have e : (S.flatMap fun s' => (R.filter fun r => !decide (f r = s)).filter fun r => decide (f r = s')) = S.flatMap fun s' => R.filter fun r => decide (f r = s') := by
      have : ∀ s' ∈ S, ((R.filter fun r => !decide (f r = s)).filter fun r => decide (f r = s')) = R.filter fun r => decide (f r = s') := by
        intro s' hs'
        rw [List.filter_filter]
        apply List.filter_congr
        intro r _
        by_cases h1 : f r = s'
        · have : ¬ f r = s := fun z => hn.1 (by rw [← z, h1]; exact hs')
          simp [h1, show ¬ s' = s from fun z => hn.1 (by rw [← z]; exact hs')]
        · simp [h1]
      rw [List.flatMap_def, List.flatMap_def, List.map_congr_left this]
    rw [e] at ih
    refine (List.Perm.append (.refl _) ih).trans ?_
    have := List.filter_append_perm (fun r => decide (f r = s)) R
    simpa using this
theorem hands_eq {n : Nat} {eds ots : List Ed} (h1 : okE n 0 eds) (h2 : okE n 0 ots) : (spots eds ots).flatMap (fun s => (eds ++ ots).filter fun e => decide (spot e = s)) = mrg eds ots := by
  have key : mrgR eds ots = (spots eds ots).flatMap fun s => (rws eds ots).filter fun r => decide (spot r.1 = s) := by
    have hnd : (spots eds ots).Nodup := ((sortT_perm _).nodup_iff).mpr (nodup_erD _ _ (Nat.le_refl _))
    have hmem : ∀ r ∈ rws eds ots, spot r.1 ∈ spots eds ots := by
      intro r hr
      unfold spots
      rw [(sortT_perm _).mem_iff, List.mem_eraseDups]
      refine List.mem_map.mpr ⟨r.1, ?_, rfl⟩
      rcases List.mem_append.mp hr with hr | hr
      · exact List.mem_append_left _ (rwsF_mem _ _ _ _ hr).1
      · exact List.mem_append_right _ (rwsF_mem _ _ _ _ hr).1
    have p := filt_perm (fun r : Rw => spot r.1) (spots eds ots) (rws eds ots) hnd hmem
    have srt : ((spots eds ots).flatMap fun s => (rws eds ots).filter fun r => decide (spot r.1 = s)).Pairwise fun a b => leR a b = true := by
      rw [List.pairwise_flatMap]
      constructor
      · intro s _
        refine ((rws_order eds ots).filter _).imp_of_mem fun {a b} ha hb h => ?_
        have ea : spot a.1 = s := by simpa using (List.mem_filter.mp ha).2
        have eb : spot b.1 = s := by simpa using (List.mem_filter.mp hb).2
        have e := ea.trans eb.symm
        simp only [spot, List.cons.injEq, and_true] at e
        simp only [leR, rkey, lexLe, e.1, e.2, if_true]
        by_cases q : (a.2.1 : Int) = (b.2.1 : Int)
        · rw [if_pos q]
          by_cases q2 : (a.2.2 : Int) = (b.2.2 : Int)
          · rw [if_pos q2]
          · rw [if_neg q2]; simp; omega
        · rw [if_neg q]; simp; omega
      · have ss : SrtT (spots eds ots) := sortT_sorted _
        refine (List.Pairwise.and ss hnd).imp fun {s s'} h a ha b hb => ?_
        have ea : spot a.1 = s := by simpa using (List.mem_filter.mp ha).2
        have eb : spot b.1 = s' := by simpa using (List.mem_filter.mp hb).2
        obtain ⟨q1, q2⟩ := h
        rw [← ea, ← eb] at q1 q2
        have q3 : HT.lexLt (spot a.1) (spot b.1) = true := by
          cases hq : HT.lexLt (spot a.1) (spot b.1) with
          | true => rfl
          | false => exact absurd (lex_eq hq q1) q2
        simp only [spot, HT.lexLt] at q3
        simp only [leR, rkey, lexLe]
        by_cases z1 : (a.1.1 : Int) = (b.1.1 : Int)
        · rw [if_pos z1] at q3 ⊢
          by_cases z2 : (a.1.2.1 : Int) = (b.1.2.1 : Int)
          · rw [if_pos z2] at q3; cases q3
          · rw [if_neg z2] at q3 ⊢; exact q3
        · rw [if_neg z1] at q3 ⊢; exact q3
    have e1 := sort_rows eds ots _ p srt
    have e2 := sort_rows eds ots _ (mrgR_perm eds ots) (mrgR_srt h1 h2)
    have e3 := e2.symm.trans e1
    have inj : ∀ {a b : List Rw}, a.map dRw = b.map dRw → a = b := by
      intro a
      induction a with
      | nil => intro b h; cases b with
        | nil => rfl
        | cons _ _ => simp at h
      | cons x a ih =>
        intro b h
        cases b with
        | nil => simp at h
        | cons y b =>
          rw [List.map_cons, List.map_cons, List.cons.injEq] at h
          obtain ⟨hx, hr⟩ := h
          rw [ih hr]
          congr 1
          obtain ⟨⟨a1, a2, a3⟩, a4, a5⟩ := x
          obtain ⟨⟨b1, b2, b3⟩, b4, b5⟩ := y
          simp [dRw, dEd] at hx
          simp_all
          omega
    exact inj e3
  rw [← mrgR_fst, key, List.map_flatMap]
  congr 1
  funext s
  have : (rws eds ots).map (·.1) = eds ++ ots := by rw [rws, List.map_append, rwsF_fst, rwsF_fst]
  rw [← this, List.filter_map]
  rfl
theorem spot_tup (e : Ed) : tupI (spot e) = .tuple [.int e.1, .int e.2.1] := rfl
theorem cut2 (a b c : D) : cutL [a, b, c] none (some 2) = [a, b] := rfl
theorem hands_comp (Φ : Nat → List D → R D) (es : List Ed) (hl : es.length ≤ 1000) (a0 a1 a2 a3 a4 : Option W) :
    compB Φ (.sl (.var 4) .none (.some (.int 2))) (.name 4) .none [a0, a1, a2, a3, a4] (es.map dEd) = .ok (.list (es.map fun e => tupI (spot e))) := by
  refine compB_of _ _ _ (by simp; omega) fun e _ => ?_
  simp [Tg.slots, wipeE, dEd, cut2, spot_tup]
theorem hands_pick (Φ : Nat → List D → R D) (es : List Ed) (hl : es.length ≤ 1000) (s : List Int) (hs : ∃ e : Ed, spot e = s) (a0 a1 a2 a4 : Option W) :
    compB Φ (.var 4) (.name 4) (.some (.cmp .Eq (.sl (.var 4) .none (.some (.int 2))) (.var 3))) [a0, a1, a2, some (.val (tupI s)), a4] (es.map dEd) = .ok (.list ((es.filter fun e => decide (spot e = s)).map dEd)) := by
  have e1 : (es.filter fun e => decide (spot e = s)).map dEd = es.filterMap fun e => if spot e = s then some (dEd e) else none := by
    induction es with
    | nil => rfl
    | cons e es ih =>
      have ih := ih (by simp at hl; omega)
      rw [List.filter_cons, List.filterMap_cons]
      by_cases h : spot e = s
      · simp [h, ih]
      · simp [h, ih]
  rw [e1]
  refine compB_off _ _ _ (by simp; omega) fun e _ => ?_
  obtain ⟨g, rfl⟩ := hs
  have pdS : ∀ e : Ed, pd (.tuple [.int e.1, .int e.2.1]) := fun e => pd_ii _ _
  by_cases h : spot e = spot g
  · have h' : (.tuple [.int e.1, .int e.2.1] : D) = tupI (spot g) := by rw [← h]; rfl
    have q : eqD (.tuple [.int e.1, .int e.2.1]) (tupI (spot g)) = .ok true := by rw [← h']; exact eqD_self (pdS e)
    simp [Tg.slots, wipeE, dEd, cut2, h, q]
  · have q : eqD (.tuple [.int e.1, .int e.2.1]) (tupI (spot g)) = .ok false := eqD_ne (pdS e) (pdS g) (fun z => h (by
      simp [tupI, spot] at z
      simp [spot, z]))
    simp [Tg.slots, wipeE, dEd, cut2, h, q]
theorem tupsOf_map : ∀ ts : List (List Int), tupsOf (ts.map tupI) = some ts
  | [] => rfl
  | t :: ts => by
    rw [List.map_cons, tupI, tupsOf, intsOf_map]
    have := tupsOf_map ts
    rw [this]
theorem c_law_hands (k n : Nat) (hn : n ≤ 1000) (eds ots : List Ed) (hE : eds.length ≤ 19) (hO : ots.length ≤ 19) (h1 : okE n 0 eds) (h2 : okE n 0 ots) : call T (k+1) f_law_hands [dEds eds, dEds ots] = .ok (dEds (mrg eds ots)) := by
  rw [call_eq T_law_hands rfl]
  have ll : (eds ++ ots).length ≤ 1000 := by rw [List.length_append]; omega
  have hb : ∀ e ∈ eds ++ ots, e.1 ≤ e.2.1 ∧ e.2.1 ≤ 1000 := by
    intro e he
    rcases List.mem_append.mp he with he | he
    · have := okE_bound n eds 0 h1 e he; omega
    · have := okE_bound n ots 0 h2 e he; omega
  have ad : addD (dEds eds) (dEds ots) = .ok (.tuple ((eds ++ ots).map dEd)) := by
    simp [dEds]; omega
  have c1 := hands_comp (call T k) (eds ++ ots) ll
  have ss : ssetD (.list ((eds ++ ots).map fun e => tupI (spot e))) = .ok (.list ((spots eds ots).map tupI)) := by
    have e1 : (eds ++ ots).map (fun e => tupI (spot e)) = ((eds ++ ots).map spot).map tupI := by rw [List.map_map]; rfl
    rw [e1]
    simp only [ssetD, tupsOf_map]
    rw [if_pos]
    · rfl
    · simp only [Bool.and_eq_true, List.all_eq_true, decide_eq_true_eq]
      refine ⟨by rw [List.length_map, List.length_append]; omega, fun t ht => ?_⟩
      obtain ⟨e, he, rfl⟩ := List.mem_map.mp ht
      have hh : (((eds ++ ots).map spot).headD [0]).length = 2 := by
        generalize eds ++ ots = es at he
        cases es with
        | nil => cases he
        | cons x es => rfl
      have := hb e he
      exact ⟨by rw [hh]; rfl, by simp [spot]⟩
  have hS : ∀ s ∈ spots eds ots, ∃ e : Ed, spot e = s := by
    intro s hs
    unfold spots at hs
    rw [(sortT_perm _).mem_iff, List.mem_eraseDups] at hs
    obtain ⟨e, _, he⟩ := List.mem_map.mp hs
    exact ⟨e, he⟩
  have hM := hands_eq h1 h2
  have hlen : ∀ i, (((spots eds ots).take i).flatMap fun s => (eds ++ ots).filter fun e => decide (spot e = s)).length ≤ 38 := by
    intro i
    have := flat_take_le (fun s => (eds ++ ots).filter fun e => decide (spot e = s)) (spots eds ots) i
    rw [hM, mrg_len] at this
    omega
  have sqT : ∀ x : List D, seqD (.tuple x) = .ok x := fun x => rfl
  have sqL : ∀ x : List D, seqD (.list x) = .ok x := fun x => rfl
  simp [-List.map_append, -List.flatMap_append, d_law_hands, b_law_hands, ad, c1, ss]
  refine endR_for (fun i env => ∃ x y, env = [some (.val (dEds eds)), some (.val (dEds ots)), some (.val (.list ((((spots eds ots).take i).flatMap fun s => (eds ++ ots).filter fun e => decide (spot e = s)).map dEd))), x, y]) ⟨none, none, by simp⟩ ?_ ?_
  · rintro i e env hd ⟨x, y, rfl⟩
    rw [List.getElem?_map] at hd
    cases ht : (spots eds ots)[i]? with
    | none => rw [ht] at hd; cases hd
    | some s =>
      rw [ht] at hd
      cases hd
      have pk := hands_pick (call T k) (eds ++ ots) ll s (hS s (List.mem_of_getElem? ht))
      have h3 := hlen i
      have h4 : ((eds ++ ots).filter fun e => decide (spot e = s)).length ≤ 1000 := Nat.le_trans (List.length_filter_le _ _) ll
      refine ⟨[some (.val (dEds eds)), some (.val (dEds ots)), some (.val (.list ((((spots eds ots).take (i + 1)).flatMap fun s => (eds ++ ots).filter fun e => decide (spot e = s)).map dEd))), some (.val (tupI s)), y], ?_, _, _, rfl⟩
      rw [flat_take _ _ i s ht]
      generalize hA : (((spots eds ots).take i).flatMap fun s => (eds ++ ots).filter fun e => decide (spot e = s)) = A at h3
      generalize hB : ((eds ++ ots).filter fun e => decide (spot e = s)) = B at h4 pk
      have h5 : A.length + B.length ≤ 100000 := by omega
      simp [-List.map_append, ad, pk, h5]
      simp
  · rintro env' ⟨x, y, rfl⟩
    rw [List.length_map, List.take_length, hM]
    simp
    rfl
end M

set_option linter.all false
set_option maxRecDepth 100000
set_option maxHeartbeats 1000000
namespace M
open PySem TL
/-! ### pairs that clash, plainly -/
theorem clash_comm (e f : Ed) : clashB e f = clashB f e := by
  unfold clashB
  rw [Bool.eq_iff_iff]
  simp only [Bool.or_eq_true, Bool.and_eq_true, decide_eq_true_eq]
  omega
theorem clsRow_mem (i : Nat) (e : Ed) : ∀ (ots : List Ed) (j a b : Nat), (a, b) ∈ clsRow i e j ots ↔ a = i ∧ j ≤ b ∧ ∃ f, ots[b - j]? = some f ∧ clashB e f = true
  | [], j, a, b => by simp [clsRow]
  | f :: r, j, a, b => by
    have ih := clsRow_mem i e r (j + 1) a b
    simp only [clsRow, List.mem_append, ih]
    constructor
    · rintro (h | ⟨h1, h2, g, h3, h4⟩)
      · cases hc : clashB e f with
        | false => rw [hc] at h; simp at h
        | true =>
          rw [hc] at h
          simp at h
          obtain ⟨rfl, rfl⟩ := h
          exact ⟨rfl, Nat.le_refl _, f, by simp, hc⟩
      · refine ⟨h1, by omega, g, ?_, h4⟩
        have : b - j = b - (j + 1) + 1 := by omega
        rw [this]; simpa using h3
    · rintro ⟨h1, h2, g, h3, h4⟩
      by_cases hb : b = j
      · subst hb
        simp at h3
        subst h3
        left
        simp [h4, h1]
      · right
        refine ⟨h1, by omega, g, ?_, h4⟩
        have : b - j = b - (j + 1) + 1 := by omega
        rw [this] at h3; simpa using h3
theorem clsAll_mem (ots : List Ed) : ∀ (eds : List Ed) (i a b : Nat), (a, b) ∈ clsAll ots i eds ↔ i ≤ a ∧ ∃ e f, eds[a - i]? = some e ∧ ots[b]? = some f ∧ clashB e f = true
  | [], i, a, b => by simp [clsAll]
  | e :: r, i, a, b => by
    have ih := clsAll_mem ots r (i + 1) a b
    simp only [clsAll, List.mem_append, ih, clsRow_mem]
    constructor
    · rintro (⟨h1, h2, f, h3, h4⟩ | ⟨h1, e', f, h2, h3, h4⟩)
      · subst h1
        exact ⟨Nat.le_refl _, e, f, by simp, by simpa using h3, h4⟩
      · refine ⟨by omega, e', f, ?_, h3, h4⟩
        have : a - i = a - (i + 1) + 1 := by omega
        rw [this]; simpa using h2
    · rintro ⟨h1, e', f, h2, h3, h4⟩
      by_cases ha : a = i
      · subst ha
        simp at h2
        subst h2
        exact .inl ⟨rfl, Nat.zero_le _, f, by simpa using h3, h4⟩
      · refine .inr ⟨by omega, e', f, ?_, h3, h4⟩
        have : a - i = a - (i + 1) + 1 := by omega
        rw [this] at h2; simpa using h2
def prI (p : Nat × Nat) : List Int := [(p.1 : Nat), (p.2 : Nat)]
theorem dPr_tup (p : Nat × Nat) : dPr p = tupI (prI p) := rfl
theorem clsRow_srt (i : Nat) (e : Ed) : ∀ (ots : List Ed) (j : Nat), (clsRow i e j ots).Pairwise fun p q => p.1 = q.1 ∧ p.2 < q.2
  | [], _ => .nil
  | f :: r, j => by
    simp only [clsRow]
    rw [List.pairwise_append]
    refine ⟨by split <;> simp, clsRow_srt i e r (j + 1), fun p hp q hq => ?_⟩
    obtain ⟨q1, q2⟩ := q
    obtain ⟨h1, h2, _⟩ := (clsRow_mem i e r (j + 1) q1 q2).mp hq
    split at hp
    · simp at hp
      subst hp
      exact ⟨h1.symm, by show j < q2; omega⟩
    · cases hp
theorem clsAll_srt (ots : List Ed) : ∀ (eds : List Ed) (i : Nat), (clsAll ots i eds).Pairwise fun p q => p.1 < q.1 ∨ (p.1 = q.1 ∧ p.2 < q.2)
  | [], _ => .nil
  | e :: r, i => by
    simp only [clsAll]
    rw [List.pairwise_append]
    refine ⟨(clsRow_srt i e ots 0).imp fun h => .inr h, clsAll_srt ots r (i + 1), fun p hp q hq => .inl ?_⟩
    obtain ⟨p1, p2⟩ := p
    obtain ⟨q1, q2⟩ := q
    have h1 := ((clsRow_mem i e ots 0 p1 p2).mp hp).1
    have h2 := ((clsAll_mem ots r (i + 1) q1 q2).mp hq).1
    show p1 < q1
    omega
theorem pr_srt {L : List (Nat × Nat)} (h : L.Pairwise fun p q => p.1 < q.1 ∨ (p.1 = q.1 ∧ p.2 < q.2)) : SrtT (L.map prI) ∧ (L.map prI).Nodup := by
  constructor
  · refine List.pairwise_map.mpr (h.imp fun {p q} h => ?_)
    simp only [prI, HT.lexLt]
    by_cases h1 : (q.1 : Int) = (p.1 : Int)
    · rw [if_pos h1]
      by_cases h2 : (q.2 : Int) = (p.2 : Int)
      · rw [if_pos h2]
      · rw [if_neg h2]; simp; omega
    · rw [if_neg h1]; simp; omega
  · refine List.pairwise_map.mpr (h.imp fun {p q} h z => ?_)
    simp only [prI, List.cons.injEq, and_true] at z
    omega
/-- the pairs turned round, sorted -/
theorem cls_turned (eds ots : List Ed) : sortT ((clsAll ots 0 eds).map fun p => prI (p.2, p.1)) = (clsAll eds 0 ots).map prI := by
  obtain ⟨s1, n1⟩ := pr_srt (clsAll_srt eds ots 0)
  have n0 : (clsAll ots 0 eds).Nodup := (clsAll_srt ots eds 0).imp fun {p q} h z => by subst z; omega
  have n2 : ((clsAll ots 0 eds).map fun p => prI (p.2, p.1)).Nodup := by
    refine List.pairwise_map.mpr (n0.imp fun {p q} h z => h ?_)
    obtain ⟨a, b⟩ := p
    obtain ⟨c, d⟩ := q
    simp only [prI, List.cons.injEq, and_true] at z
    simp only [Prod.mk.injEq]; omega
  have e : sortT ((clsAll ots 0 eds).map fun p => prI (p.2, p.1)) = sortT ((clsAll eds 0 ots).map prI) := by
    refine sortT_set n2 n1 fun x => ?_
    constructor
    · intro hx
      obtain ⟨⟨a, b⟩, hp, rfl⟩ := List.mem_map.mp hx
      obtain ⟨_, e, f, h1, h2, h3⟩ := (clsAll_mem ots eds 0 a b).mp hp
      refine List.mem_map.mpr ⟨(b, a), (clsAll_mem eds ots 0 b a).mpr ⟨Nat.zero_le _, f, e, by simpa using h2, by simpa using h1, by rw [clash_comm]; exact h3⟩, rfl⟩
    · intro hx
      obtain ⟨⟨a, b⟩, hp, rfl⟩ := List.mem_map.mp hx
      obtain ⟨_, e, f, h1, h2, h3⟩ := (clsAll_mem eds ots 0 a b).mp hp
      exact List.mem_map.mpr ⟨(b, a), (clsAll_mem ots eds 0 b a).mpr ⟨Nat.zero_le _, f, e, by simpa using h2, by simpa using h1, by rw [clash_comm]; exact h3⟩, rfl⟩
  rw [e]
  exact srtT_eq (sortT_perm _) (sortT_sorted _) s1
theorem pd_prs (L : List (Nat × Nat)) : pd (.list (L.map dPr)) := by
  have h1 : ∀ d ∈ L.map dPr, pl d = true ∧ d.depth ≤ 2 := by
    intro d hd
    obtain ⟨p, _, rfl⟩ := List.mem_map.mp hd
    exact ⟨rfl, by simp [dPr, PyData.depth, PyData.depthAll]⟩
  have h2 := depthAll_le fun d hd => (h1 d hd).2
  refine ⟨?_, ?_⟩
  · simp only [pl]; exact plL_all fun d hd => (h1 d hd).1
  · simp only [PyData.depth]; omega
theorem okE_mono {n at_ a2 : Nat} (h2 : a2 ≤ at_) : ∀ {eds : List Ed}, okE n at_ eds → okE n a2 eds
  | [], _ => trivial
  | (b, e, nw) :: r, h => ⟨Nat.le_trans h2 h.1, h.2⟩
theorem okE_filter (n : Nat) (p : Ed → Bool) : ∀ (eds : List Ed) (at_ : Nat), okE n at_ eds → okE n at_ (eds.filter p)
  | [], _, _ => trivial
  | (b, e, nw) :: r, at_, ⟨h1, h2, h3, h4, h5⟩ => by
    rw [List.filter_cons]
    split
    · exact ⟨h1, h2, h3, h4, okE_filter n p r e h5⟩
    · exact okE_mono (by omega) (okE_filter n p r e h5)
/-! ### the words -/
section
variable (k : Nat) (a b c : D) (x : Nat)
theorem c_told_6 (h : call T k f_merged [a, b, c] = .exc x) : call T (k+1) f_law_told_of [.int 6, .list [a, b, c]] = .exc x := by
  rw [call_eq T_law_told_of rfl]
  simp [d_law_told_of, b_law_told_of, h]
theorem c_word_6 (h : call T k f_merged [a, b, c] = .exc x) (w : Str) (hw : (x = 3 ∧ w = "deed") ∨ (x = 5 ∧ w = "big") ∨ (x = 6 ∧ w = "clash") ∨ (x = 2 ∧ w = "text")) : call T (k+2) f_law_told_word [.int 6, .list [a, b, c]] = .ok (.str w) := by
  rw [call_eq T_law_told_word rfl]
  have h1 := c_told_6 k a b c x h
  rcases hw with ⟨rfl, rfl⟩ | ⟨rfl, rfl⟩ | ⟨rfl, rfl⟩ | ⟨rfl, rfl⟩
  all_goals simp [d_law_told_word, b_law_told_word, h1]
end
theorem c_merged_no1 (k : Nat) (t e f : D) (c : Nat) (h : call T k f_look_edits [t, e] = .exc c) : call T (k+1) f_merged [t, e, f] = .exc c := by
  rw [call_eq T_merged rfl]
  simp [d_merged, b_merged, h]
theorem c_merged_no2 (k : Nat) (t e f : D) (c : Nat) (h1 : call T k f_look_edits [t, e] = .ok .none) (h : call T k f_look_edits [t, f] = .exc c) : call T (k+1) f_merged [t, e, f] = .exc c := by
  rw [call_eq T_merged rfl]
  simp [d_merged, b_merged, h1, h]
end M

set_option linter.all false
set_option maxRecDepth 100000
set_option maxHeartbeats 4000000
namespace M.K20
open PySem M
def st : St0 := ⟨["ValueError", "bool", "enumerate", "int", "isinstance", "len", "max", "min", "range", "set", "sorted", "str", "sum", "tuple", "zip"], [("MOST_SIZE", .int 1000), ("MOST_SOURCE", .int 9), ("MOST_AT", .int 9999), ("MOST_EDITS", .int 19), ("MOST_SHORT", .int 30)], [(f_wall, ("_wall" : Str)), (f_is_within, ("is_within" : Str)), (f_is_origin, ("is_origin" : Str)), (f_ends_of, ("ends_of" : Str)), (f_is_map, ("is_map" : Str)), (f_checked, ("checked" : Str)), (f_led, ("led" : Str)), (f_leads_of, ("leads_of" : Str)), (f_goes_on, ("goes_on" : Str)), (f_map_of, ("map_of" : Str)), (f_overlaid, ("overlaid" : Str)), (f_without, ("without" : Str)), (f_agreed, ("agreed" : Str)), (f_mirrored, ("mirrored" : Str)), (f_doubles, ("doubles" : Str)), (f_is_text, ("is_text" : Str)), (f_are_edits, ("are_edits" : Str)), (f_look_edits, ("look_edits" : Str)), (f_clashes_of, ("clashes_of" : Str)), (f_clashes, ("clashes" : Str)), (f_put_in_order, ("put_in_order" : Str)), (f_merged, ("merged" : Str)), (f_longest, ("longest" : Str)), (f_look_short, ("look_short" : Str)), (f_in_common, ("in_common" : Str)), (f_edits_between, ("edits_between" : Str)), (f_law_cell, ("_law_cell" : Str)), (f_law_seed, ("_law_seed" : Str)), (f_law_pick, ("_law_pick" : Str)), (f_law_leads, ("_law_leads" : Str)), (f_law_least, ("_law_least" : Str)), (f_law_goes_on, ("_law_goes_on" : Str)), (f_law_map, ("_law_map" : Str)), (f_law_drawn, ("_law_drawn" : Str)), (f_law_told_of, ("_law_told_of" : Str)), (f_law_told_word, ("_law_told_word" : Str))], [(0, "BadMap"), (2, "BadText"), (3, "BadDeed"), (4, "BadNumber"), (5, "TooBig"), (6, "Clash")], none⟩
def b_law : S := .asg (.t2 (.name 1) (.name 2)) (.call f_law_drawn (.cons (.var 0) (.cons (.int 0) (.cons (.int 40) .nil)))) (.asg (.t2 (.name 3) (.name 4)) (.call f_law_drawn (.cons (.var 0) (.cons (.int 2) (.cons (.int 40) .nil)))) (.asg (.name 5) (.bi .min (.cons (.bi .len (.cons (.var 1) .nil)) (.cons (.bi .len (.cons (.var 3) .nil)) .nil))) (.ite (.cmp .NotEq (.bi .len (.cons (.var 1) .nil)) (.bi .len (.cons (.var 3) .nil))) (.ite (.cmp .NotEq (.comp (.call f_law_told_word (.cons (.var 9) (.cons (.lst (.cons (.var 2) (.cons (.var 4) .nil))) .nil))) (.name 9) (.seq (.tup (.cons (.int 0) (.cons (.int 1) .nil)))) .none) (.bin .Mult (.lst (.cons (.str "map") .nil)) (.int 2))) (.ret (.bl false) .nil) .nil (.par 1 3 (.sl (.var 1) .none (.some (.var 5))) (.sl (.var 3) .none (.some (.var 5))) (.asg (.t2 (.name 2) (.name 4)) (.tup (.cons (.call f_law_least (.cons (.var 1) .nil)) (.cons (.call f_law_least (.cons (.var 3) .nil)) .nil))) .nil))) .nil (.ite (.cmp .NotEq (.call f_overlaid (.cons (.var 2) (.cons (.var 4) .nil))) (.call f_law_least (.cons (.comp (.ife (.isn (.var 10) false) (.var 11) (.var 10)) (.t2 (.name 10) (.name 11)) (.zip (.var 1) (.var 3)) .none) .nil))) (.ret (.bl false) .nil) .nil (.ite (.cmp .NotEq (.call f_agreed (.cons (.var 2) (.cons (.var 4) .nil))) (.call f_law_least (.cons (.comp (.ife (.cmp .Eq (.var 10) (.var 11)) (.var 10) .non) (.t2 (.name 10) (.name 11)) (.zip (.var 1) (.var 3)) .none) .nil))) (.ret (.bl false) .nil) .nil (.asg (.name 6) (.bin .Mod (.call f_law_cell (.cons (.var 0) (.cons (.int 4) .nil))) (.int 10)) (.ite (.cmp .NotEq (.call f_without (.cons (.var 2) (.cons (.var 6) .nil))) (.call f_law_least (.cons (.comp (.ife (.and (.isn (.var 10) true) (.one (.cmp .Eq (.idx (.var 10) (.int 0)) (.var 6)))) .non (.var 10)) (.name 10) (.seq (.var 1)) .none) .nil))) (.ret (.bl false) .nil) .nil (.ite (.cmp .NotEq (.call f_mirrored (.cons (.var 2) .nil)) (.call f_law_least (.cons (.rev (.var 1)) .nil))) (.ret (.bl false) .nil) .nil (.asg (.name 7) (.comp (.var 10) (.name 10) (.seq (.var 1)) (.some (.isn (.var 10) true))) (.ite (.cmp .NotEq (.call f_doubles (.cons (.var 2) .nil)) (.sset (.comp (.bin .Add (.var 10) (.tup (.cons (.mt .lcount (.var 7) (.cons (.var 10) .nil)) .nil))) (.name 10) (.seq (.var 7)) (.some (.cmp .Gt (.mt .lcount (.var 7) (.cons (.var 10) .nil)) (.int 1)))))) (.ret (.bl false) .nil) .nil (.asg (.name 8) (.idx (.lst (.cons (.int 10) (.cons (.neg (.int 1)) (.cons .non (.cons (.bl true) (.cons (.str "0") .nil)))))) (.bin .Mod (.call f_law_cell (.cons (.var 0) (.cons (.int 5) .nil))) (.int 5))) (.ret (.cmp .Eq (.call f_law_told_word (.cons (.int 2) (.cons (.lst (.cons (.var 2) (.cons (.var 8) .nil))) .nil))) (.str "number")) .nil))))))))))))
def d_law : Df := ⟨"law", 1, ["script", "some", "one", "more", "other", "size", "source", "known", "odd", "way", "a", "b"], b_law⟩
end M.K20
namespace M.K20
open PySem M
def b3 : S := .asg (.name 7) (.comp (.var 10) (.name 10) (.seq (.var 1)) (.some (.isn (.var 10) true))) (.ite (.cmp .NotEq (.call f_doubles (.cons (.var 2) .nil)) (.sset (.comp (.bin .Add (.var 10) (.tup (.cons (.mt .lcount (.var 7) (.cons (.var 10) .nil)) .nil))) (.name 10) (.seq (.var 7)) (.some (.cmp .Gt (.mt .lcount (.var 7) (.cons (.var 10) .nil)) (.int 1)))))) (.ret (.bl false) .nil) .nil (.asg (.name 8) (.idx (.lst (.cons (.int 10) (.cons (.neg (.int 1)) (.cons .non (.cons (.bl true) (.cons (.str "0") .nil)))))) (.bin .Mod (.call f_law_cell (.cons (.var 0) (.cons (.int 5) .nil))) (.int 5))) (.ret (.cmp .Eq (.call f_law_told_word (.cons (.int 2) (.cons (.lst (.cons (.var 2) (.cons (.var 8) .nil))) .nil))) (.str "number")) .nil)))
def b2 : S := .ite (.cmp .NotEq (.call f_overlaid (.cons (.var 2) (.cons (.var 4) .nil))) (.call f_law_least (.cons (.comp (.ife (.isn (.var 10) false) (.var 11) (.var 10)) (.t2 (.name 10) (.name 11)) (.zip (.var 1) (.var 3)) .none) .nil))) (.ret (.bl false) .nil) .nil (.ite (.cmp .NotEq (.call f_agreed (.cons (.var 2) (.cons (.var 4) .nil))) (.call f_law_least (.cons (.comp (.ife (.cmp .Eq (.var 10) (.var 11)) (.var 10) .non) (.t2 (.name 10) (.name 11)) (.zip (.var 1) (.var 3)) .none) .nil))) (.ret (.bl false) .nil) .nil (.asg (.name 6) (.bin .Mod (.call f_law_cell (.cons (.var 0) (.cons (.int 4) .nil))) (.int 10)) (.ite (.cmp .NotEq (.call f_without (.cons (.var 2) (.cons (.var 6) .nil))) (.call f_law_least (.cons (.comp (.ife (.and (.isn (.var 10) true) (.one (.cmp .Eq (.idx (.var 10) (.int 0)) (.var 6)))) .non (.var 10)) (.name 10) (.seq (.var 1)) .none) .nil))) (.ret (.bl false) .nil) .nil (.ite (.cmp .NotEq (.call f_mirrored (.cons (.var 2) .nil)) (.call f_law_least (.cons (.rev (.var 1)) .nil))) (.ret (.bl false) .nil) .nil b3))))
def b1 : S := .asg (.t2 (.name 1) (.name 2)) (.call f_law_drawn (.cons (.var 0) (.cons (.int 0) (.cons (.int 40) .nil)))) (.asg (.t2 (.name 3) (.name 4)) (.call f_law_drawn (.cons (.var 0) (.cons (.int 2) (.cons (.int 40) .nil)))) (.asg (.name 5) (.bi .min (.cons (.bi .len (.cons (.var 1) .nil)) (.cons (.bi .len (.cons (.var 3) .nil)) .nil))) (.ite (.cmp .NotEq (.bi .len (.cons (.var 1) .nil)) (.bi .len (.cons (.var 3) .nil))) (.ite (.cmp .NotEq (.comp (.call f_law_told_word (.cons (.var 9) (.cons (.lst (.cons (.var 2) (.cons (.var 4) .nil))) .nil))) (.name 9) (.seq (.tup (.cons (.int 0) (.cons (.int 1) .nil)))) .none) (.bin .Mult (.lst (.cons (.str "map") .nil)) (.int 2))) (.ret (.bl false) .nil) .nil (.par 1 3 (.sl (.var 1) .none (.some (.var 5))) (.sl (.var 3) .none (.some (.var 5))) (.asg (.t2 (.name 2) (.name 4)) (.tup (.cons (.call f_law_least (.cons (.var 1) .nil)) (.cons (.call f_law_least (.cons (.var 3) .nil)) .nil))) .nil))) .nil b2)))
theorem b1_eq : b_law = b1 := rfl
/-- the places, one behind the other -/
def kn (xs : List Ld) : List (Int × Int) := xs.filterMap id
def dU (p : Int × Int) : D := .tuple [.int p.1, .int p.2]
theorem kn_count (xs : List Ld) (p : Int × Int) : (kn xs).count p = cU xs p := by
  unfold kn cU
  induction xs with
  | nil => rfl
  | cons l xs ih =>
    cases l with
    | none => simp only [List.filterMap_cons, id]; rw [ih]; simp [List.count_cons]
    | some q => simp only [List.filterMap_cons, id, List.count_cons, ih]; simp
theorem kn_mem {xs : List Ld} {p : Int × Int} : p ∈ kn xs ↔ some p ∈ xs := by simp [kn]
theorem kn_len (xs : List Ld) : (kn xs).length ≤ xs.length := List.length_filterMap_le _ _
theorem kn_map (xs : List Ld) : (xs.filterMap fun l => if l.isNone then none else some (dL l)) = (kn xs).map dU := by
  unfold kn
  induction xs with
  | nil => rfl
  | cons l xs ih => cases l with
    | none => exact ih
    | some p =>
      obtain ⟨a, b⟩ := p
      show dL (some (a, b)) :: List.filterMap _ xs = dU (a, b) :: List.map dU (List.filterMap id xs)
      rw [ih]
      rfl
theorem dU_inj {p q : Int × Int} (h : dU p = dU q) : p = q := by
  obtain ⟨a, b⟩ := p
  obtain ⟨c, d⟩ := q
  simp [dU] at h
  rw [h.1, h.2]
theorem pd_dU (p : Int × Int) : pd (dU p) := ⟨rfl, by simp [dU, PyData.depth, PyData.depthAll]⟩
theorem pd_kn (l : List (Int × Int)) : pd (.list (l.map dU)) := by
  have h2 : PyData.depthAll (l.map dU) ≤ 2 := depthAll_le fun d hd => by
    obtain ⟨p, _, rfl⟩ := List.mem_map.mp hd
    simp [dU, PyData.depth, PyData.depthAll]
  refine ⟨?_, by simp only [PyData.depth]; omega⟩
  rw [pl]
  exact plL_all fun d hd => by
    obtain ⟨p, _, rfl⟩ := List.mem_map.mp hd
    rfl
theorem countP_dU (l : List (Int × Int)) (p : Int × Int) : (l.map dU).countP (fun z => PyData.eqv z (dU p)) = l.count p := by
  rw [List.countP_map, List.count]
  congr 1
  funext q
  show PyData.eqv (dU q) (dU p) = (q == p)
  rw [Bool.eq_iff_iff, eqv_pl _ _ (pd_dU q).1 (pd_dU p).1]
  constructor
  · intro h; rw [dU_inj h]; simp
  · intro h; rw [show q = p by simpa using h]
theorem cnt (xs : List Ld) (p : Int × Int) : mtD .lcount (.list ((kn xs).map dU)) [dU p] = .ok (.int (cU xs p : Nat)) := by
  rw [mtc, pd_shaped (pd_kn _), pd_shaped (pd_dU p), countP_dU, kn_count]
  rfl
theorem dup_sset (xs : List Ld) (hl : xs.length ≤ 200) : ssetD (.list (((kn xs).filter fun p => decide (1 < cU xs p)).map fun p => tupI (trU xs p))) = .ok (dDub xs) := by
  have e1 : ((kn xs).filter fun p => decide (1 < cU xs p)).map (fun p => tupI (trU xs p)) = (((kn xs).filter fun p => decide (1 < cU xs p)).map (trU xs)).map tupI := by rw [List.map_map]; rfl
  have kl := kn_len xs
  have fl := List.length_filter_le (fun p => decide (1 < cU xs p)) (kn xs)
  rw [e1]
  simp only [ssetD, tupsOf_map]
  rw [if_pos]
  · have : sortT (((kn xs).filter fun p => decide (1 < cU xs p)).map (trU xs)).eraseDups = dubs xs := by
      unfold dubs
      refine sortT_set (nodup_erD _ _ (Nat.le_refl _)) (dub0_nodup _) fun t => ?_
      rw [List.mem_eraseDups, dub0_mem, List.mem_map]
      constructor
      · rintro ⟨p, hp, rfl⟩
        exact ⟨p, by simpa using (List.mem_filter.mp hp).2, rfl⟩
      · rintro ⟨p, h, rfl⟩
        refine ⟨p, List.mem_filter.mpr ⟨kn_mem.mpr ?_, by simpa using h⟩, rfl⟩
        exact List.count_pos_iff.mp (by unfold cU at h; omega)
    rw [this]
    rfl
  · simp only [Bool.and_eq_true, List.all_eq_true, decide_eq_true_eq]
    refine ⟨by rw [List.length_map]; omega, fun t ht => ?_⟩
    obtain ⟨p, hp, rfl⟩ := List.mem_map.mp ht
    have hh : ((((kn xs).filter fun p => decide (1 < cU xs p)).map (trU xs)).headD [0]).length = 3 := by
      generalize (kn xs).filter (fun p => decide (1 < cU xs p)) = es at hp
      cases es with
      | nil => cases hp
      | cons x es => rfl
    exact ⟨by rw [hh]; rfl, by simp [trU]⟩
theorem word (k way : Nat) (args : List D) (c : Nat) (w : Str) (h : call T (k+1) f_law_told_of [.int way, .list args] = .exc c) (hw : (c = 0 ∧ w = "map") ∨ (c = 4 ∧ w = "number")) : call T (k+2) f_law_told_word [.int way, .list args] = .ok (.str w) := by
  rw [call_eq T_law_told_word rfl]
  rcases hw with ⟨rfl, rfl⟩ | ⟨rfl, rfl⟩
  all_goals simp [d_law_told_word, b_law_told_word, h]
theorem told0 (k : Nat) (a b : D) (c : Nat) (h : call T k f_overlaid [a, b] = .exc c) : call T (k+1) f_law_told_of [.int 0, .list [a, b]] = .exc c := by
  rw [call_eq T_law_told_of rfl]
  simp [d_law_told_of, b_law_told_of, h]
theorem told1 (k : Nat) (a b : D) (c : Nat) (h : call T k f_agreed [a, b] = .exc c) : call T (k+1) f_law_told_of [.int 1, .list [a, b]] = .exc c := by
  rw [call_eq T_law_told_of rfl]
  simp [d_law_told_of, b_law_told_of, h]
theorem told2 (k : Nat) (a b : D) (c : Nat) (h : call T k f_without [a, b] = .exc c) : call T (k+1) f_law_told_of [.int 2, .list [a, b]] = .exc c := by
  rw [call_eq T_law_told_of rfl]
  simp [d_law_told_of, b_law_told_of, h]
theorem part3 (ns : List Int) (X : List Ld) (d : D) (m : MapD d X) (hl : X.length ≤ 200) (a3 a4 a5 a6 a9 : Option W) : endR (evS (call T 10) b3 [some (.val (scr ns)), some (.val (dLs X)), some (.val d), a3, a4, a5, a6, none, none, a9, none, none]) = .ok (.bool true) := by
  have sq : seqD (dLs X) = .ok (X.map dL) := rfl
  have c1 : compB (call T 10) (.var 10) (.name 10) (.some (.isn (.var 10) true)) [some (.val (scr ns)), some (.val (dLs X)), some (.val d), a3, a4, a5, a6, none, none, a9, none, none] (X.map dL) = .ok (.list ((kn X).map dU)) := by
    rw [← kn_map]
    refine compB_off X dL _ (by simp only [limE]; omega) fun l _ => ?_
    cases l with
    | none => simp [Tg.slots, wipeE, isN_dL]
    | some p => simp [Tg.slots, wipeE, isN_dL]
  have kl := kn_len X
  have c2 : ∀ x8 : Option W, compB (call T 10) (.bin .Add (.var 10) (.tup (.cons (.mt .lcount (.var 7) (.cons (.var 10) .nil)) .nil))) (.name 10) (.some (.cmp .Gt (.mt .lcount (.var 7) (.cons (.var 10) .nil)) (.int 1))) [some (.val (scr ns)), some (.val (dLs X)), some (.val d), a3, a4, a5, a6, some (.val (.list ((kn X).map dU))), x8, a9, none, none] ((kn X).map dU) = .ok (.list (((kn X).filter fun p => decide (1 < cU X p)).map fun p => tupI (trU X p))) := by
    intro x8
    rw [compB_off (kn X) dU (fun p => if 1 < cU X p then some (tupI (trU X p)) else none)]
    · congr 2
      generalize kn X = l
      induction l with
      | nil => rfl
      | cons p ks ih =>
        rw [List.filterMap_cons, List.filter_cons]
        by_cases hp : 1 < cU X p <;> simp [hp, ih]
    · simp only [limE]; omega
    · intro p _
      have h3 := cnt X p
      have h4 : addD (dU p) (.tuple [.int (cU X p : Nat)]) = .ok (tupI (trU X p)) := by simp [dU, tupI, trU]
      generalize dU p = dp at h3 h4 ⊢
      by_cases h1 : 1 < cU X p
      · have h2 : (1 : Int) < (cU X p : Nat) := by omega
        simp [-mtc, Tg.slots, wipeE, h3, h4, h1, h2]
      · have h2 : ¬ (1 : Int) < (cU X p : Nat) := by omega
        simp [-mtc, Tg.slots, wipeE, h3, h1, h2]
  have ss := dup_sset X hl
  have u1 : call T 10 f_doubles [d] = .ok (dDub X) := c_doubles 5 m
  have v1 := eqD_self (pd_dub X)
  have c5 := c_cell 9 ns 5 (by decide)
  have wd : ∀ s : D, (∀ kvs, s ≠ .dict kvs) → isWithin s 0 9 = false → call T 10 f_law_told_word [.int 2, .list [d, s]] = .ok (.str "number") := fun s h1 h2 => word 8 2 [d, s] 4 "number" (told2 8 d s 4 (c_without_no 3 m s h1 h2)) (.inr ⟨rfl, rfl⟩)
  have w1 := wd (.int 10) (by simp) (by rfl)
  have w2 := wd (.int (-1)) (by simp) (by rfl)
  have w3 := wd .none (by simp) (by rfl)
  have w4 := wd (.bool true) (by simp) (by rfl)
  have w5 := wd (.str "0") (by simp) (by rfl)
  have sqk : seqD (.list ((kn X).map dU)) = .ok ((kn X).map dU) := rfl
  generalize PyData.list (((kn X).filter fun p => decide (1 < cU X p)).map fun p => tupI (trU X p)) = DL at c2 ss
  generalize (kn X).map dU = KL at *
  generalize dDub X = DD at *
  have qn : eqD (.str "number") (.str "number") = .ok true := eqD_self ⟨by decide +kernel, by simp [PyData.depth]⟩
  have hr : cell ns 5 % 5 = 0 ∨ cell ns 5 % 5 = 1 ∨ cell ns 5 % 5 = 2 ∨ cell ns 5 % 5 = 3 ∨ cell ns 5 % 5 = 4 := by omega
  rcases hr with hr | hr | hr | hr | hr
  all_goals simp [b3, sq, c1, sqk, c2, ss, u1, v1, c5, hr, w1, w2, w3, w4, w5, qn]
theorem part2 (ns : List Int) (X Y : List Ld) (d e : D) (m : MapD d X) (m2 : MapD e Y) (hxy : X.length = Y.length) (hl : X.length ≤ 200) (a5 a9 : Option W) : endR (evS (call T 10) b2 [some (.val (scr ns)), some (.val (dLs X)), some (.val d), some (.val (dLs Y)), some (.val e), a5, none, none, none, a9, none, none]) = .ok (.bool true) := by
  have z := zipD_dLs X Y
  have c1 : compB (call T 10) (.ife (.isn (.var 10) false) (.var 11) (.var 10)) (.t2 (.name 10) (.name 11)) .none [some (.val (scr ns)), some (.val (dLs X)), some (.val d), some (.val (dLs Y)), some (.val e), a5, none, none, none, a9, none, none] ((X.zip Y).map fun p => .tuple [dL p.1, dL p.2]) = .ok (dLs (ovL X Y)) := by
    rw [compB_of (X.zip Y) (fun p => .tuple [dL p.1, dL p.2]) (fun p => dL (ovr p.1 p.2)), zw_map]
    · rfl
    · rw [List.length_zip]; simp only [limE]; omega
    · intro p _
      obtain ⟨a, b⟩ := p
      cases a <;> simp [Tg.slots, wipeE, isN_dL, ovr]
  have c2 : compB (call T 10) (.ife (.cmp .Eq (.var 10) (.var 11)) (.var 10) .non) (.t2 (.name 10) (.name 11)) .none [some (.val (scr ns)), some (.val (dLs X)), some (.val d), some (.val (dLs Y)), some (.val e), a5, none, none, none, a9, none, none] ((X.zip Y).map fun p => .tuple [dL p.1, dL p.2]) = .ok (dLs (agL X Y)) := by
    rw [compB_of (X.zip Y) (fun p => .tuple [dL p.1, dL p.2]) (fun p => dL (agr p.1 p.2)), zw_map]
    · rfl
    · rw [List.length_zip]; simp only [limE]; omega
    · intro p _
      obtain ⟨a, b⟩ := p
      by_cases hab : a = b <;> simp [Tg.slots, wipeE, eqD_dL, agr, hab]
  obtain ⟨s, hs, hs10⟩ : ∃ s : Nat, cell ns 4 % 10 = s ∧ s < 10 := ⟨(cell ns 4 % 10).toNat, by omega, by omega⟩
  have c3 : compB (call T 10) (.ife (.and (.isn (.var 10) true) (.one (.cmp .Eq (.idx (.var 10) (.int 0)) (.var 6)))) .non (.var 10)) (.name 10) .none [some (.val (scr ns)), some (.val (dLs X)), some (.val d), some (.val (dLs Y)), some (.val e), a5, some (.val (.int s)), none, none, a9, none, none] (X.map dL) = .ok (dLs (X.map (wo s))) := by
    rw [compB_of X dL (fun p => dL (wo s p))]
    · rw [dLs, List.map_map]; rfl
    · simp only [limE]; omega
    · intro p _
      rcases p with _ | ⟨a, b⟩
      · simp [Tg.slots, wipeE, isN_dL, wo]
      · by_cases hab : a = s <;> simp [Tg.slots, wipeE, isN_dL, wo, dL, hab]
  have o1 : call T 10 f_overlaid [d, e] = .ok (lm (ovL X Y)) := c_overlaid 5 m m2 hxy
  have g1 : call T 10 f_agreed [d, e] = .ok (lm (agL X Y)) := c_agreed 5 m m2 hxy
  have w1 : call T 10 f_without [d, .int s] = .ok (lm (X.map (wo s))) := c_without 5 m s (by omega) (by omega)
  have r1 : call T 10 f_mirrored [d] = .ok (lm X.reverse) := c_mirrored 5 m
  have k1 : call T 10 f_law_least [dLs (ovL X Y)] = .ok (lm (ovL X Y)) := l_least 8 (by rw [ov_len X Y hxy]; omega)
  have k2 : call T 10 f_law_least [dLs (agL X Y)] = .ok (lm (agL X Y)) := l_least 8 (by rw [ag_len X Y hxy]; omega)
  have k3 : call T 10 f_law_least [dLs (X.map (wo s))] = .ok (lm (X.map (wo s))) := l_least 8 (by rw [List.length_map]; omega)
  have k4 : call T 10 f_law_least [dLs X.reverse] = .ok (lm X.reverse) := l_least 8 (by rw [List.length_reverse]; omega)
  have rv : revLD (dLs X) = .ok (dLs X.reverse) := by simp [dLs]
  have sq : seqD (dLs X) = .ok (X.map dL) := rfl
  have c4 := c_cell 9 ns 4 (by decide)
  have q1 := eqD_lm (ovL X Y)
  have q2 := eqD_lm (agL X Y)
  have q3 := eqD_lm (X.map (wo s))
  have q4 := eqD_lm X.reverse
  have p3 := part3 ns X d m hl (some (.val (dLs Y))) (some (.val e)) a5 (some (.val (.int s))) a9
  simp [b2, z, c1, c2, c3, o1, g1, w1, r1, k1, k2, k3, k4, rv, sq, c4, hs, q1, q2, q3, q4]
  exact p3
theorem compB_l2 {Φ : Nat → List D → R D} {x : E} {t : Tg} {cc : O} {env : Env} {a b A B : D} (ha : compAt Φ x cc (asgn t a (wipeE env t.slots)) = .ok (some A)) (hb : compAt Φ x cc (asgn t b (wipeE env t.slots)) = .ok (some B)) :
    compB Φ x t cc env [a, b] = .ok (.list [A, B]) := by
  simp only [compB, List.length_cons, List.length_nil, compF, ha, hb]
  rfl
theorem main (ns : List Int) (h : ns.length ≤ 63) : M.run (M.call M.T 10) M.K20.d_law [M.scr ns] = .ok (.bool true) := by
  rw [run_eq]
  obtain ⟨X, d, e0, m0, l0⟩ := m_drawn 6 (scr_scr ns) 0 40 (by decide) (by decide) (by decide)
  obtain ⟨Y, e, e1, m1, l1⟩ := m_drawn 6 (scr_scr ns) 2 40 (by decide) (by decide) (by decide)
  have l0 : X.length ≤ 200 := l0
  have l1 : Y.length ≤ 200 := l1
  have ll := len_dLs X
  have ll2 := len_dLs Y
  by_cases hxy : X.length = Y.length
  · have p2 := part2 ns X Y d e m0 m1 hxy l0
    have hz : (X.length : Int) = (Y.length : Int) := by omega
    simp [d_law, b1_eq, b1, e0, e1, ll, ll2, hz]
    exact p2 _ none
  · have hz : ¬ (X.length : Int) = (Y.length : Int) := by omega
    obtain ⟨n, hn, n0, n1⟩ : ∃ n : Nat, biD .min [.int X.length, .int Y.length] = .ok (.int n) ∧ n ≤ X.length ∧ n ≤ Y.length := by
      by_cases c : (Y.length : Int) < X.length
      · exact ⟨Y.length, by simp [c], by omega, Nat.le_refl _⟩
      · exact ⟨X.length, by simp [c], Nat.le_refl _, by omega⟩
    have w0 : call T 10 f_law_told_word [.int 0, .list [d, e]] = .ok (.str "map") := word 8 0 [d, e] 0 "map" (told0 8 d e 0 (c_overlaid_ne 3 m0 m1 hxy)) (.inl ⟨rfl, rfl⟩)
    have w1 : call T 10 f_law_told_word [.int 1, .list [d, e]] = .ok (.str "map") := word 8 1 [d, e] 0 "map" (told1 8 d e 0 (c_agreed_ne 3 m0 m1 hxy)) (.inl ⟨rfl, rfl⟩)
    have cw : compB (call T 10) (.call f_law_told_word (.cons (.var 9) (.cons (.lst (.cons (.var 2) (.cons (.var 4) .nil))) .nil))) (.name 9) .none [some (.val (scr ns)), some (.val (dLs X)), some (.val d), some (.val (dLs Y)), some (.val e), some (.val (.int n)), none, none, none, none, none, none] [.int 0, .int 1] = .ok (.list [.str "map", .str "map"]) := by
      refine compB_l2 ?_ ?_
      · simp [Tg.slots, wipeE, w0]
      · simp [Tg.slots, wipeE, w1]
    have q : eqD (.list [.str "map", .str "map"]) (.list [.str "map", .str "map"]) = .ok true := eqD_self ⟨by decide +kernel, by simp [PyData.depth, PyData.depthAll]⟩
    have ml : mulD (.list [.str "map"]) (.int 2) = .ok (.list [.str "map", .str "map"]) := by rfl
    have lX : (X.take n).length = n := by rw [List.length_take]; omega
    have lY : (Y.take n).length = n := by rw [List.length_take]; omega
    have k0 : call T 10 f_law_least [dLs (X.take n)] = .ok (lm (X.take n)) := l_least 8 (by omega)
    have k1 : call T 10 f_law_least [dLs (Y.take n)] = .ok (lm (Y.take n)) := l_least 8 (by omega)
    have gX : MapD (lm (X.take n)) (X.take n) := mapD_lm (fun l hl => m0.ok l (List.mem_of_mem_take hl)) (by omega)
    have gY : MapD (lm (Y.take n)) (Y.take n) := mapD_lm (fun l hl => m1.ok l (List.mem_of_mem_take hl)) (by omega)
    have p2 := part2 ns (X.take n) (Y.take n) _ _ gX gY (by omega) (by omega) (some (.val (.int n)))
    have s0 := sl_to X n n0
    have s1 := sl_to Y n n1
    simp [-min2, d_law, b1_eq, b1, e0, e1, ll, ll2, hz, hxy, hn, cw, q, ml, s0, s1, k0, k1]
    exact p2 _
end M.K20

set_option Elab.async false
set_option linter.all false
set_option maxRecDepth 100000
set_option maxHeartbeats 0
namespace M.K20
open PySem M
abbrev R : PySem.W.OpenRow := PySem.W.OpenLaw.row PySem.Challenge.rw_threadmap_k20_overlays
def toD : Stmt → Option He.DefD
  | .FunctionDef n a b _ _ _ sc _ _ _ => some ⟨(n, none), n, n, a, b, sc, [], []⟩
  | _ => none
def fn : List He.DefD := R.prog.main.body.filterMap toD
def lawAt : Nat := R.prog.main.body.length - 1
def names : List PySem.Str := (R.prog.main.scope.names.map (·.1)).filter fun x => decide (x ≠ "law") && decide (x ≠ "__name__")
abbrev hk : PySem.W.Hook := hookM 4 (faOf st) fn st
def ob (s : PySem.W.SharedT) : AlM := obsM 4 (faOf st) fn st (HandSHeadRun.getT s)
theorem ob_eq (s : PySem.W.SharedT) : ob s = hk.obs s.abs := obsM_eq (HandSHeadRun.getT_eq s)
theorem run (w : World) : HandSHeadRun.RunEq R (PySem.W.view R.prog [lawAt]) hk ob 20000 names w := by
  intro os
  kernel_rfl
theorem exs_ok : exsOk st = true := by decide +kernel
theorem fns_ok : fnsOk st T fn = true := by decide +kernel
theorem law_here : fnHere st d_law "law" fn = true := by decide +kernel
end M.K20

open PySem PySem.W PySem.Calls PyProof.Rows
theorem PySem.Challenge.cw_threadmap_k20_overlays_holds : PySem.Challenge.rw_threadmap_k20_overlays.Holds := by
  w_on; o_law
  refine HandSHeadRun.head_any (r := OpenLaw.row PySem.Challenge.rw_threadmap_k20_overlays) (q := view (OpenLaw.row PySem.Challenge.rw_threadmap_k20_overlays).prog [M.K20.lawAt]) (H := M.K20.hk) (ob := M.K20.ob) (M := 20000) (loose := M.K20.names) (d := HandSHeadRun.topDef (OpenLaw.row PySem.Challenge.rw_threadmap_k20_overlays).prog M.K20.lawAt) (kwd := []) M.K20.ob_eq
    (by kernel_rfl) (fun s => by kernel_rfl) M.K20.run (by kernel_rfl) (by kernel_rfl) (by kernel_rfl) (by rfl) (by first | assumption | decide +kernel) (by decide +kernel) ⟨rfl, rfl, rfl, rfl, rfl, by decide +kernel⟩ ?hw ?hc
  case hw => w_witness2
  case hc =>
    exact M.law_end (l := PySem.Challenge.rw_threadmap_k20_overlays) (n := 63) (k := 10) (x := "script") rfl (by decide) (by kernel_rfl) ⟨rfl, by decide, by decide⟩ (by kernel_rfl) M.K20.exs_ok M.K20.fns_ok M.K20.law_here rfl M.K20.main
