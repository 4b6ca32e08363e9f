import PyProof.Rows.All
import Wide.All
import OpenK.AllK
import Wide.FinOn
import HandS.ForMost
import HandS.Walk
import HandS.Exc
import HandS.WordsExc
import HandS.Conv
import HandS.Zip
import HandS.IsInst
import HandS.TupAny
import HandS.TupMul
import HandS.Deep
import HandS.TupLe
import HandS.SortInts
import HandS.Head0
import HandS.Head1
import HandS.Head2
import HandS.HeadEnd
import HandS.HeadHook1
import HandS.HeadHook2
import HandS.Defaults
import HandS.Codes
import KE.BitLaws
import PySem.Challenge.RW_swapsigns_k75_whole_forms_of_signs
set_option Elab.async false
set_option linter.all false
set_option maxRecDepth 100000
set_option maxHeartbeats 0
/-! PV, part a: data, the monad of wishes, the small syntax, what it evaluates to. -/
namespace PV
open PySem

/-- a value as data: no addresses; the law's tape and script are tokens -/
inductive D where
  | non | bl (b : Bool) | int (i : Int) | str (x : Str)
  | tup (xs : List D) | lst (xs : List D)
  | tape | scr

abbrev Exn := Nat × D
/-- a computation: what must hold so that every end is wished for (demonic) -/
def W (α : Type) : Type := (Except Exn α → Prop) → Prop
namespace W
variable {α β γ : Type}
def ret (a : α) : W α := fun Q => Q (.ok a)
def bind (m : W α) (f : α → W β) : W β := fun Q => m fun r => match r with
  | .error e => Q (.error e)
  | .ok a => f a Q
def fail : W α := fun _ => False
def thr (e : Exn) : W α := fun Q => Q (.error e)
@[simp] theorem ret_bind (a : α) (f : α → W β) : bind (ret a) f = f a := rfl
@[simp] theorem fail_bind (f : α → W β) : bind (fail : W α) f = fail := rfl
@[simp] theorem thr_bind (e : Exn) (f : α → W β) : bind (thr e) f = thr e := rfl
@[simp] theorem bind_ret (m : W α) : bind m ret = m := by
  funext Q
  show m _ = m Q
  congr 1
  funext r
  cases r <;> rfl
theorem bind_assoc (m : W α) (f : α → W β) (g : β → W γ) : bind (bind m f) g = bind m fun a => bind (f a) g := by
  funext Q
  show m _ = m _
  congr 1
@[simp] theorem ite_bind {c : Prop} [Decidable c] (a b : W α) (f : α → W β) : bind (if c then a else b) f = if c then bind a f else bind b f := by
  split <;> rfl
end W
open W

/-- a number below n is drawn -/
def pick (n : Int) : W D := fun Q => (0 < n ∧ n < 1073741824) ∧ ∀ d : Nat, (d : Int) < n → Q (.ok (.int d))

/-! ### operations by values -/
mutual
def toPy : D → Option PyData
  | .non => some .none
  | .bl b => some (.bool b)
  | .int i => some (.int i)
  | .str x => some (.str x)
  | .tup xs => (toPys xs).map .tuple
  | .lst xs => (toPys xs).map .list
  | .tape => none
  | .scr => none
def toPys : List D → Option (List PyData)
  | [] => some []
  | x :: xs => match toPy x, toPys xs with
    | some a, some b => some (a :: b)
    | _, _ => none
end
def okPy (d : PyData) : Bool := SeqAt.shaped d
def eqD (a b : D) : W Bool := match toPy a, toPy b with
  | some x, some y => if (okPy x && okPy y) = true then ret (PyData.eqv x y) else fail
  | _, _ => fail
def asI (d : D) (f : Int → W D) : W D := match d with
  | .int i => f i
  | _ => fail
def ii (a b : D) (f : Int → Int → W D) : W D := match a, b with
  | .int i, .int j => f i j
  | _, _ => fail
def mulOk (i j : Int) : Bool := (decide (-(2 ^ 64) < i) && decide (i < 2 ^ 64)) || (decide (-(2 ^ 64) < j) && decide (j < 2 ^ 64))
def powOk (i j : Int) : Bool := decide (0 ≤ j) && decide (j ≤ 1000000) && decide (i.natAbs < 2 ^ 64)
def addD : D → D → W D
  | .int i, .int j => ret (.int (i + j))
  | .tup xs, .tup ys => if xs.length + ys.length ≤ sizeLine then ret (.tup (xs ++ ys)) else fail
  | .lst xs, .lst ys => if xs.length + ys.length ≤ sizeLine then ret (.lst (xs ++ ys)) else fail
  | .str x, .str y => if x.length + y.length ≤ sizeLine then ret (.str (x ++ y)) else fail
  | _, _ => fail
def mulD : D → D → W D
  | .int i, .int j => if mulOk i j = true then ret (.int (i * j)) else fail
  | .lst xs, .int k => if -(2 ^ 63) ≤ k ∧ k < 2 ^ 63 ∧ xs.length * k.toNat ≤ sizeLine then ret (.lst (List.replicate k.toNat xs).flatten) else fail
  | .tup xs, .int k => if xs ≠ [] ∧ 1 ≤ k ∧ k ≤ 1000 ∧ xs.length ≤ 1000 then ret (.tup (List.replicate k.toNat xs).flatten) else fail
  | _, _ => fail
def binD (o : Operator) (a b : D) : W D := match o with
  | .Add => addD a b
  | .Sub => ii a b fun i j => ret (.int (i - j))
  | .Mult => mulD a b
  | .FloorDiv => ii a b fun i j => if 0 < j ∧ j < 1073741824 then ret (.int (i / j)) else fail
  | .Mod => ii a b fun i j => if 0 < j then ret (.int (i % j)) else fail
  | .Pow => ii a b fun i j => if powOk i j = true then ret (.int (i ^ j.toNat)) else fail
  | .LShift => ii a b fun i j => if powOk i j = true then ret (.int (i * 2 ^ j.toNat)) else fail
  | .RShift => ii a b fun i j => if 0 ≤ j then ret (.int (i / 2 ^ j.toNat)) else fail
  | .BitAnd => ii a b fun i j => ret (.int (Builtin.bitAnd i j))
  | .BitOr => ii a b fun i j => ret (.int (Builtin.bitOr i j))
  | .BitXor => ii a b fun i j => ret (.int (Builtin.bitXor i j))
  | _ => fail
/-- x in xs -/
def memD (x : D) (xs : List D) : W Bool := match toPy x, toPys xs with
  | some d, some ds => if (okPy d && okPy (.list ds)) = true then ret (ds.any fun z => PyData.eqv z d) else fail
  | _, _ => fail
def blD (m : W Bool) : W D := bind m fun b => ret (.bl b)
/-- both are ints, or both tuples of ints: < -/
def intsOf : List D → Option (List Int)
  | [] => some []
  | .int i :: r => (intsOf r).map (i :: ·)
  | _ :: _ => none
def cmpD (o : CmpOp) (a b : D) : W D := match o with
  | .Eq => blD (eqD a b)
  | .NotEq => bind (eqD a b) fun r => ret (.bl (!r))
  | .Lt => ii a b fun i j => ret (.bl (decide (i < j)))
  | .LtE => ii a b fun i j => ret (.bl (decide (i ≤ j)))
  | .Gt => ii a b fun i j => ret (.bl (decide (j < i)))
  | .GtE => ii a b fun i j => ret (.bl (decide (j ≤ i)))
  | .In => match b with
    | .tup xs => blD (memD a xs)
    | .lst xs => blD (memD a xs)
    | _ => fail
  | .NotIn => match b with
    | .tup xs => bind (memD a xs) fun r => ret (.bl (!r))
    | .lst xs => bind (memD a xs) fun r => ret (.bl (!r))
    | _ => fail
  | _ => fail
def isNonB : D → Bool
  | .non => true
  | _ => false
/-- the i-th item, from the end if i is below nought -/
def atD (xs : List D) (i : Int) : W D := match L2.atI xs i with
  | some d => ret d
  | none => fail
def ixD (a b : D) : W D := match a, b with
  | .tup xs, .int i => atD xs i
  | .lst xs, .int i => atD xs i
  | _, _ => fail
/-- a part of a slice that is left out, or an int -/
def partW (b : Bool) (w : W D) : W (Option Int) := if b = true then ret none else bind w fun d => match d with
  | .int i => ret (some i)
  | _ => fail
def cutD (xs : List D) (lo hi : Option Int) : List D :=
  (xs.drop (HT.sIx xs.length 0 lo)).take (HT.sIx xs.length xs.length hi - HT.sIx xs.length 0 lo)
def slD (a : D) (lo hi : Option Int) : W D := match a with
  | .tup xs => ret (.tup (cutD xs lo hi))
  | .lst xs => ret (.lst (cutD xs lo hi))
  | _ => fail
def itemsD : D → W (List D)
  | .tup xs => ret xs
  | .lst xs => ret xs
  | _ => fail
def tyD : D → Option String
  | .non => some "NoneType"
  | .bl _ => some "bool"
  | .int _ => some "int"
  | .str _ => some "str"
  | .tup _ => some "tuple"
  | .lst _ => some "list"
  | _ => none
def isaD (d : D) (T : String) : W D := match tyD d with
  | some t => if T ∈ ["bool", "int", "str", "tuple", "list"] then ret (.bl (t == T || (t == "bool" && T == "int"))) else fail
  | none => fail
def bools : List D → Option (List Bool)
  | [] => some []
  | .bl b :: r => (bools r).map (b :: ·)
  | _ :: _ => none

inductive BI where
  | len | tuple | list | sum | int | abs | all | any
  deriving DecidableEq
def BI.name : BI → Str
  | .len => "len" | .tuple => "tuple" | .list => "list" | .sum => "sum" | .int => "int" | .abs => "abs" | .all => "all" | .any => "any"
def biD (b : BI) (xs : List D) : W D := match b, xs with
  | .len, [.tup ys] => ret (.int ys.length)
  | .len, [.lst ys] => ret (.int ys.length)
  | .tuple, [.tup ys] => ret (.tup ys)
  | .tuple, [.lst ys] => ret (.tup ys)
  | .list, [.tup ys] => ret (.lst ys)
  | .list, [.lst ys] => ret (.lst ys)
  | .sum, [.lst ys] => match intsOf ys with
    | some ns => ret (.int ns.sum)
    | none => fail
  | .int, [.int i] => ret (.int i)
  | .int, [.bl b] => ret (.int (if b then 1 else 0))
  | .abs, [.int i] => ret (.int (if i < 0 then -i else i))
  | .all, [.lst ys] => match bools ys with
    | some bs => ret (.bl (bs.all id))
    | none => fail
  | .any, [.lst ys] => match bools ys with
    | some bs => ret (.bl (bs.any id))
    | none => fail
  | _, _ => fail

/-! ### the syntax of expressions -/
inductive TG where
  | nm (i : Nat) | tp (is : List Nat)
inductive CE where
  | var (i : Nat) | int (i : Int) | bl (b : Bool) | non | str (x : Str)
  | bin (o : Operator) (a b : CE) | neg (a : CE) | not (a : CE)
  | cmp (o : CmpOp) (a b : CE) | chn (o o' : CmpOp) (a b c : CE) | isN (a : CE) | notN (a : CE) | isB (a : CE) (b : Bool)
  | and (a b : CE) | or (a b : CE) | ite (c a b : CE)
  | tup (es : CE) | lst (es : CE) | nil | cons (a b : CE)
  | ix (a b : CE) | sl (a lo hi : CE)
  | call (j : Nat) (es : CE) | bi (b : BI) (es : CE) | isa (a : CE) (T : String)
  | comp (own : List Nat) (tg : TG) (it c e : CE)
  | comp2 (own : List Nat) (tg : TG) (it : CE) (own1 : List Nat) (tg1 : TG) (it1 c1 e : CE)
  | rng1 (a : CE) | rng2 (a b : CE) | zip (a b : CE) | enm (a : CE)

abbrev Env := List (Option D)
abbrev Tab := List (Str × (List D → W D))
def callT (T : Tab) (j : Nat) (ds : List D) : W D := match T[j]? with
  | some (_, m) => m ds
  | none => fail
def getV (env : Env) (i : Nat) : W D := match env[i]? with
  | some (some d) => ret d
  | _ => fail
def wipeE (env : Env) : List Nat → Env
  | [] => env
  | v :: vs => (wipeE env vs).set v none
def bindN : List Nat → List D → Env → Option Env
  | [], [], env => some env
  | i :: is, d :: ds, env => bindN is ds (env.set i (some d))
  | _, _, _ => none
def bindO : TG → D → Env → Option Env
  | .nm i, d, env => some (env.set i (some d))
  | .tp is, .tup ds, env => bindN is ds env
  | .tp _, _, _ => none
def bindT (tg : TG) (d : D) (env : Env) : W Env := match bindO tg d env with
  | some e => ret e
  | none => fail
def TG.slots : TG → List Nat
  | .nm i => [i]
  | .tp is => is
/-- each item's list, one behind the other -/
def flatW (f : D → W (List D)) : List D → W (List D)
  | [] => ret []
  | x :: xs => bind (f x) fun ys => bind (flatW f xs) fun zs => ret (ys ++ zs)
def onB (d : D) (a b : W α) : W α := match d with
  | .bl true => a
  | .bl false => b
  | _ => fail
def blOf (d : D) (k : Bool → W α) : W α := match d with
  | .bl b => k b
  | _ => fail
def intsR (lo : Int) (n : Nat) : List D := (List.range n).map fun i => .int (lo + (i : Nat))
def rngD (lo hi : Int) : W D := if -(2 ^ 62) ≤ lo ∧ lo < 2 ^ 62 ∧ -(2 ^ 62) ≤ hi ∧ hi < 2 ^ 62 ∧ (hi - lo).toNat ≤ sizeLine then ret (.lst (intsR lo (hi - lo).toNat)) else fail
def zipD (xs ys : List D) : List D := List.zipWith (fun x y => .tup [x, y]) xs ys
def enmD (xs : List D) : List D := zipD (intsR 0 xs.length) xs

def isNil : CE → Bool
  | .nil => true
  | _ => false
/-- of two lists, or of two tuples -/
def zipW : D → D → W D
  | .tup xs, .tup ys => ret (.lst (zipD xs ys))
  | .lst xs, .lst ys => ret (.lst (zipD xs ys))
  | _, _ => fail
def enmW : D → W D
  | .lst xs => ret (.lst (enmD xs))
  | _ => fail
/-- a turn of a comprehension: its items -/
def compF (tg : TG) (own : List Nat) (mc me : Env → W D) (env : Env) (x : D) : W (List D) :=
  bind (bindT tg x (wipeE env own)) fun env1 => bind (mc env1) fun b => onB b (bind (me env1) fun y => ret [y]) (ret [])
def compF2 (n : Nat) (tg : TG) (own : List Nat) (mi : Env → W D) (tg1 : TG) (own1 : List Nat) (mc me : Env → W D) (env : Env) (x : D) : W (List D) :=
  bind (bindT tg x (wipeE env own)) fun env1 => bind (mi env1) fun v1 => bind (itemsD v1) fun xs1 => if n * xs1.length ≤ sizeLine then flatW (compF tg1 own1 mc me env1) xs1 else fail
def evE (T : Tab) : CE → Env → W D
  | .var i, env => getV env i
  | .int i, _ => ret (.int i)
  | .bl b, _ => ret (.bl b)
  | .non, _ => ret .non
  | .str x, _ => ret (.str x)
  | .bin o a b, env => bind (evE T a env) fun x => bind (evE T b env) fun y => binD o x y
  | .neg a, env => bind (evE T a env) fun x => asI x fun i => ret (.int (-i))
  | .not a, env => bind (evE T a env) fun x => blOf x fun b => ret (.bl (!b))
  | .cmp o a b, env => bind (evE T a env) fun x => bind (evE T b env) fun y => cmpD o x y
  | .chn o o' a b c, env => bind (evE T a env) fun x => bind (evE T b env) fun y => bind (cmpD o x y) fun r =>
      onB r (bind (evE T c env) fun z => cmpD o' y z) (ret (.bl false))
  | .isN a, env => bind (evE T a env) fun x => ret (.bl (isNonB x))
  | .notN a, env => bind (evE T a env) fun x => ret (.bl (!isNonB x))
  | .isB a b, env => bind (evE T a env) fun x => blOf x fun c => ret (.bl (decide (c = b)))
  | .and a b, env => bind (evE T a env) fun x => onB x (evE T b env) (ret (.bl false))
  | .or a b, env => bind (evE T a env) fun x => onB x (ret (.bl true)) (evE T b env)
  | .ite c a b, env => bind (evE T c env) fun x => onB x (evE T a env) (evE T b env)
  | .tup es, env => evE T es env
  | .lst es, env => bind (evE T es env) fun v => bind (itemsD v) fun ds => ret (.lst ds)
  | .nil, _ => ret (.tup [])
  | .cons a b, env => bind (evE T a env) fun x => bind (evE T b env) fun r => bind (itemsD r) fun ds => ret (.tup (x :: ds))
  | .ix a b, env => bind (evE T a env) fun x => bind (evE T b env) fun y => ixD x y
  | .sl a lo hi, env => bind (evE T a env) fun x => bind (partW (isNil lo) (evE T lo env)) fun l => bind (partW (isNil hi) (evE T hi env)) fun h => slD x l h
  | .call j es, env => bind (evE T es env) fun v => bind (itemsD v) fun ds => callT T j ds
  | .bi b es, env => bind (evE T es env) fun v => bind (itemsD v) fun ds => biD b ds
  | .isa a t, env => bind (evE T a env) fun x => isaD x t
  | .comp own tg it c e, env => bind (evE T it env) fun v => bind (itemsD v) fun xs => bind (flatW (compF tg own (evE T c) (evE T e) env) xs) fun ys => ret (.lst ys)
  | .comp2 own tg it own1 tg1 it1 c1 e, env => bind (evE T it env) fun v => bind (itemsD v) fun xs =>
      bind (flatW (compF2 xs.length tg own (evE T it1) tg1 own1 (evE T c1) (evE T e) env) xs) fun ys => ret (.lst ys)
  | .rng1 a, env => bind (evE T a env) fun x => asI x fun j => rngD 0 j
  | .rng2 a b, env => bind (evE T a env) fun x => bind (evE T b env) fun y => ii x y fun i j => rngD i j
  | .zip a b, env => bind (evE T a env) fun x => bind (evE T b env) fun y => zipW x y
  | .enm a, env => bind (evE T a env) fun x => enmW x

/-! ### statements -/
abbrev SEnv := List (Option (Bool × D))
inductive Fl where
  | nx (e : SEnv) | bk (e : SEnv) | ct (e : SEnv) | rt (d : D)
/-- an expression's view: owned lists may be read where they are opened -/
def opn (fz : List Nat) (env : SEnv) : Env := env.mapIdx fun i c => match c with
  | some (false, d) => some d
  | some (true, d) => if i ∈ fz then some d else none
  | none => none
def opnAll (env : SEnv) : Env := env.map fun c => c.map (·.2)
def frz (fz : List Nat) (env : SEnv) : SEnv := env.mapIdx fun i c => match c with
  | some (o, d) => some (if i ∈ fz then false else o, d)
  | none => none
mutual
def noL : D → Bool
  | .lst _ => false
  | .tup xs => noLs xs
  | _ => true
def noLs : List D → Bool
  | [] => true
  | x :: xs => noL x && noLs xs
end
/-- the slots that were opened are frozen if the value may hold their lists -/
def keepF (fz : List Nat) (b : Bool) (env : SEnv) : SEnv := if fz = [] ∨ b = true then env else frz fz env
def mask (env0 env : SEnv) : SEnv := List.zipWith (fun a b => match a with
  | none => none
  | some _ => b) env0 env
def bindNS : List Nat → List D → SEnv → Option SEnv
  | [], [], env => some env
  | i :: is, d :: ds, env => bindNS is ds (env.set i (some (false, d)))
  | _, _, _ => none
def bindOS : TG → D → SEnv → Option SEnv
  | .nm i, d, env => some (env.set i (some (false, d)))
  | .tp is, .tup ds, env => bindNS is ds env
  | .tp _, _, _ => none
def bindTS (tg : TG) (d : D) (env : SEnv) : W SEnv := match bindOS tg d env with
  | some e => ret e
  | none => fail
def forW (f : D → SEnv → W Fl) : List D → SEnv → W Fl
  | [], env => ret (.nx env)
  | x :: xs, env => bind (f x env) fun fl => match fl with
    | .nx e => forW f xs (mask env e)
    | .ct e => forW f xs (mask env e)
    | .bk e => ret (.nx (mask env e))
    | .rt d => ret (.rt d)
def whileN (c : SEnv → W D) (f : SEnv → W Fl) : Nat → SEnv → W Fl
  | 0, _ => fail
  | n + 1, env => bind (c env) fun b => onB b (bind (f env) fun fl => match fl with
    | .nx e => whileN c f n (mask env e)
    | .ct e => whileN c f n (mask env e)
    | .bk e => ret (.nx (mask env e))
    | .rt d => ret (.rt d)) (ret (.nx env))
def whileW (c : SEnv → W D) (f : SEnv → W Fl) (env : SEnv) : W Fl := fun Q => ∃ n, whileN c f n env Q
def ownL (env : SEnv) (i : Nat) (k : List D → W α) : W α := match env[i]? with
  | some (some (true, .lst xs)) => k xs
  | _ => fail

def ownOk (o : Bool) (d : D) : Bool := !o || (match d with
  | .lst _ => true
  | _ => false)
/-- op= -/
def augD (o : Operator) (x y : D) : W D := match o with
  | .Add => ii x y fun i j => ret (.int (i + j))
  | .Sub => ii x y fun i j => ret (.int (i - j))
  | .Mult => ii x y fun i j => if mulOk i j = true then ret (.int (i * j)) else fail
  | .BitXor => ii x y fun i j => ret (.int (Builtin.bitXor i j))
  | _ => fail
/-- an index from nought on, below n -/
def asN (d : D) (n : Nat) (f : Nat → W α) : W α := match d with
  | .int i => if 0 ≤ i ∧ i < n ∧ i < 2 ^ 63 then f i.toNat else fail
  | _ => fail

inductive CS where
  | nil | seq (a b : CS) | pass
  | asg (i : Nat) (e : CE) (fz : List Nat)
  | own (i : Nat) (e : CE) (fz : List Nat)
  | unp (is : List Nat) (e : CE) (fz : List Nat)
  | par (i j : Nat) (a b : CE) (oi oj : Bool)
  | aug (i : Nat) (o : Operator) (e : CE)
  | app (i : Nat) (e : CE) (fz : List Nat)
  | pop (j i : Nat) (e : CE)
  | put (i : Nat) (k e : CE)
  | ret (e : CE) | retN
  | ite (c : CE) (a b : CS)
  | for (tg : TG) (it : CE) (body : CS) (fz : List Nat)
  | while (c : CE) (body : CS)
  | brk | cnt
  | expr (e : CE)

def isRng : CE → Bool
  | .rng1 _ => true
  | .rng2 _ _ => true
  | _ => false
def evS (T : Tab) : CS → SEnv → W Fl
  | .nil, env => W.ret (.nx env)
  | .seq a b, env => bind (evS T a env) fun fl => match fl with
    | .nx e => evS T b e
    | fl => W.ret fl
  | .pass, env => W.ret (.nx env)
  | .asg i e fz, env => bind (evE T e (opn fz env)) fun d => W.ret (.nx ((keepF fz (noL d) env).set i (some (false, d))))
  | .own i e fz, env => bind (evE T e (opn fz env)) fun d => match d with
    | .lst ds => W.ret (.nx ((keepF fz (noLs ds) env).set i (some (true, d))))
    | _ => fail
  | .unp is e fz, env => bind (evE T e (opn fz env)) fun d => bind (bindTS (.tp is) d (keepF fz (noL d) env)) fun env' => W.ret (.nx env')
  | .par i j a b oi oj, env => bind (evE T a (opn [] env)) fun x => if ownOk oi x = true then bind (evE T b (opn [] env)) fun y => if ownOk oj y = true then W.ret (.nx ((env.set i (some (oi, x))).set j (some (oj, y)))) else fail else fail
  | .aug i o e, env => bind (getV (opn [] env) i) fun x => bind (evE T e (opnAll env)) fun y => bind (augD o x y) fun z => W.ret (.nx (env.set i (some (false, z))))
  | .app i e fz, env => ownL env i fun _ => bind (evE T e (opn fz env)) fun d => ownL (keepF fz (noL d) env) i fun xs => if xs.length < sizeLine then W.ret (.nx ((keepF fz (noL d) env).set i (some (true, .lst (xs ++ [d]))))) else fail
  | .pop j i e, env => ownL env i fun xs => bind (evE T e (opnAll env)) fun k => asN k xs.length fun n => match xs[n]? with
      | some d => W.ret (.nx ((env.set i (some (true, .lst (xs.eraseIdx n)))).set j (some (false, d))))
      | none => fail
  | .put i k e, env => ownL env i fun xs => bind (evE T e (opnAll env)) fun d => bind (evE T k (opnAll env)) fun m => if noL d = true then asN m xs.length fun n => W.ret (.nx (env.set i (some (true, .lst (xs.set n d))))) else fail
  | .ret e, env => bind (evE T e (opnAll env)) fun d => W.ret (.rt d)
  | .retN, _ => W.ret (.rt .non)
  | .ite c a b, env => bind (evE T c (opnAll env)) fun x => onB x (evS T a env) (evS T b env)
  | .for tg it body fz, env => bind (evE T it (opn fz env)) fun v => bind (itemsD v) fun xs =>
      forW (fun x e => bind (bindTS tg x e) fun e1 => evS T body e1) xs (if isRng it = true then env else frz fz env)
  | .while c body, env => whileW (fun e => evE T c (opnAll e)) (fun e => evS T body e) env
  | .brk, env => W.ret (.bk env)
  | .cnt, env => W.ret (.ct env)
  | .expr e, env => bind (evE T e (opnAll env)) fun _ => W.ret (.nx env)

/-- a def: its parameters, then the other names -/
def start (n : Nat) (ds : List D) : SEnv := ds.map (fun d => some (false, d)) ++ List.replicate (n - ds.length) none
def outW (fl : Fl) : W D := match fl with
  | .rt d => W.ret d
  | .nx _ => W.ret .non
  | _ => fail
/-- n names, ar of them parameters -/
def evDef (T : Tab) (n ar : Nat) (body : CS) (ds : List D) : W D := if ds.length = ar then bind (evS T body (start n ds)) outW else fail
end PV
/-! PV, part b: how data lie in the abstract heap; what a reading of a wish is. -/
namespace PV
open PySem PySem.Spec PyProof.Rows L2

/-- the tape's address, the script's -/
structure Ad where
  S : Addr
  C : Addr
/-- what is fixed for a law: the written part, the tape's kind -/
structure Lay where
  K : PySem.W.Frag
  tb : Bool
abbrev Reg := Addr → Prop

mutual
/-- d lies at v: lists stand within the region F (they are not changed any more) -/
inductive Rp (L : Lay) (A : Ad) (F : Reg) (H : Hp) : D → V → Prop
  | non : Rp L A F H .non .non
  | bl (b : Bool) : Rp L A F H (.bl b) (.bl b)
  | int (i : Int) : Rp L A F H (.int i) (.int i)
  | str (x : Str) : Rp L A F H (.str x) (.str x)
  | tup {a : Addr} {vs : List V} {ds : List D} : SqT L.K H a vs → Rps L A F H ds vs → Rp L A F H (.tup ds) (.ref a)
  | lst {a : Addr} {vs : List V} {ds : List D} : F a → H a = some (.lst vs) → Rps L A F H ds vs → Rp L A F H (.lst ds) (.ref a)
  | tape : Rp L A F H .tape (.ref A.S)
  | scr : Rp L A F H .scr (.ref A.C)
inductive Rps (L : Lay) (A : Ad) (F : Reg) (H : Hp) : List D → List V → Prop
  | nil : Rps L A F H [] []
  | cons {d : D} {v : V} {ds : List D} {vs : List V} : Rp L A F H d v → Rps L A F H ds vs → Rps L A F H (d :: ds) (v :: vs)
end

def SqF (K : PySem.W.Frag) (F : Reg) (H : Hp) (c : Addr) (xs : List V) : Prop :=
  (F c ∧ H c = some (.lst xs)) ∨ (∃ o, H c = some (.frz o (.lst xs))) ∨
    ∃ (o : Obj) (its : Array Value) (n : Nat), K.lookup c = some o ∧ o.cls = .type "list" ∧ o.dict = none ∧ o.data = .seq its n ∧ its.size ≤ sizeLine ∧ Vals xs its.toList
theorem SqF.sq {K : PySem.W.Frag} {F : Reg} {H : Hp} {c : Addr} {xs : List V} (h : SqF K F H c xs) : SqL K H c xs := by
  rcases h with ⟨_, h⟩ | h | h
  · exact .inl (.inl h)
  · exact .inl (.inr h)
  · exact .inr h
/-- the tape as it stands at any time -/
def TapeOk (L : Lay) (A : Ad) (F : Reg) (H : Hp) : Prop := ∃ (ns : List Int) (p r h : Int),
  SqF L.K F H A.C (ns.map V.int) ∧ ns.length ≤ 63 ∧ (0 ≤ p ∧ 0 ≤ r ∧ 0 ≤ h ∧ h < 2 ^ 62) ∧
  H A.S = some (.lst (if L.tb = true then [.int p, .int r] else [.ref A.C, .int p, .int r, .int h]))
structure SOk (L : Lay) (A : Ad) (F : Reg) (H : Hp) : Prop where
  d : ∀ a, F a → H a ≠ none
  s : ¬ F A.S
  t : TapeOk L A F H
/-- only new things: all that stood stands, but the tape's content -/
structure Grow (A : Ad) (F : Reg) (H : Hp) (F' : Reg) (H' : Hp) : Prop where
  f : ∀ a, F a → F' a
  n : ∀ a, F' a → F a ∨ H a = none
  h : ∀ a o, H a = some o → a ≠ A.S → H' a = some o
/-- as Grow, but lists outside of the region may change -/
structure Evo (A : Ad) (F : Reg) (H : Hp) (F' : Reg) (H' : Hp) : Prop where
  f : ∀ a, F a → F' a
  h : ∀ a o, H a = some o → a ≠ A.S → (F a ∨ ∀ xs, o ≠ .lst xs) → H' a = some o

section
variable {L : Lay} {A : Ad} {F F' F1 F2 : Reg} {H H' H1 H2 : Hp}
theorem SOk.tape (s : SOk L A F H) : ∃ xs, H A.S = some (.lst xs) := by
  obtain ⟨_, _, _, _, _, _, _, e⟩ := s.t
  exact ⟨_, e⟩
theorem Grow.refl : Grow A F H F H := ⟨fun _ h => h, fun _ h => .inl h, fun _ _ h _ => h⟩
theorem Grow.trans (g : Grow A F H F1 H1) (s : SOk L A F1 H1) (k : Grow A F1 H1 F2 H2) : Grow A F H F2 H2 := by
  refine ⟨fun a h => k.f a (g.f a h), fun a h => ?_, fun a o h z => k.h a o (g.h a o h z) z⟩
  rcases k.n a h with h | h
  · exact g.n a h
  · refine .inr ?_
    cases e : H a with
    | none => rfl
    | some o =>
      by_cases z : a = A.S
      · subst z
        obtain ⟨xs, e'⟩ := s.tape
        rw [h] at e'; cases e'
      · rw [g.h a o e z] at h; cases h
theorem Grow.evo (g : Grow A F H F' H') : Evo A F H F' H' := ⟨g.f, fun a o h z _ => g.h a o h z⟩
theorem Evo.refl : Evo A F H F H := Grow.refl.evo
theorem Evo.trans (g : Evo A F H F1 H1) (k : Evo A F1 H1 F2 H2) : Evo A F H F2 H2 :=
  ⟨fun a h => k.f a (g.f a h), fun a o h z q => k.h a o (g.h a o h z q) z (q.imp (g.f a) id)⟩
theorem sqT_evo {a : Addr} {xs : List V} (s : SOk L A F H) (g : Evo A F H F' H') (h : SqT L.K H a xs) : SqT L.K H' a xs := by
  obtain ⟨ys, e⟩ := s.tape
  rcases h with (h | ⟨o, h⟩) | h
  · refine .inl (.inl (g.h a _ h (fun z => ?_) (.inr fun _ z => nomatch z)))
    subst z; rw [e] at h; cases h
  · refine .inl (.inr ⟨o, g.h a _ h (fun z => ?_) (.inr fun _ z => nomatch z)⟩)
    subst z; rw [e] at h; cases h
  · exact .inr h
mutual
theorem Rp.evo (s : SOk L A F H) (g : Evo A F H F' H') : ∀ {d : D} {v : V}, Rp L A F H d v → Rp L A F' H' d v
  | _, _, .non => .non
  | _, _, .bl b => .bl b
  | _, _, .int i => .int i
  | _, _, .str x => .str x
  | _, _, .tup h r => .tup (sqT_evo s g h) (Rps.evo s g r)
  | _, _, .lst f h r => .lst (g.f _ f) (g.h _ _ h (fun z => s.s (z ▸ f)) (.inl f)) (Rps.evo s g r)
  | _, _, .tape => .tape
  | _, _, .scr => .scr
theorem Rps.evo (s : SOk L A F H) (g : Evo A F H F' H') : ∀ {ds : List D} {vs : List V}, Rps L A F H ds vs → Rps L A F' H' ds vs
  | _, _, .nil => .nil
  | _, _, .cons a b => .cons (Rp.evo s g a) (Rps.evo s g b)
end
theorem Rp.grow {d : D} {v : V} (s : SOk L A F H) (g : Grow A F H F' H') (r : Rp L A F H d v) : Rp L A F' H' d v := r.evo s g.evo
theorem Rps.grow {d : List D} {v : List V} (s : SOk L A F H) (g : Grow A F H F' H') (r : Rps L A F H d v) : Rps L A F' H' d v := r.evo s g.evo
theorem Rps.length : ∀ {ds : List D} {vs : List V}, Rps L A F H ds vs → ds.length = vs.length
  | _, _, .nil => rfl
  | _, _, .cons _ r => by rw [List.length_cons, List.length_cons, r.length]
theorem Rps.get : ∀ {ds : List D} {vs : List V} {i : Nat} {d : D}, Rps L A F H ds vs → ds[i]? = some d → ∃ v, vs[i]? = some v ∧ Rp L A F H d v
  | _, _, _, _, .nil, e => by simp at e
  | _, _, 0, _, .cons a _, e => by
    simp at e; subst e
    exact ⟨_, rfl, a⟩
  | _, _, i + 1, d, .cons _ r, e => by
    obtain ⟨v, h, q⟩ := Rps.get (i := i) (d := d) r (by simpa using e)
    exact ⟨v, by simpa using h, q⟩
theorem Rps.append : ∀ {ds es : List D} {vs us : List V}, Rps L A F H ds vs → Rps L A F H es us → Rps L A F H (ds ++ es) (vs ++ us)
  | _, _, _, _, .nil, s => s
  | _, _, _, _, .cons a r, s => .cons a (r.append s)
theorem Rps.take : ∀ {ds : List D} {vs : List V} (n : Nat), Rps L A F H ds vs → Rps L A F H (ds.take n) (vs.take n)
  | _, _, 0, _ => by simp; exact .nil
  | _, _, _ + 1, .nil => by simp; exact .nil
  | _, _, n + 1, .cons a r => by simp only [List.take_succ_cons]; exact .cons a (r.take n)
theorem Rps.drop : ∀ {ds : List D} {vs : List V} (n : Nat), Rps L A F H ds vs → Rps L A F H (ds.drop n) (vs.drop n)
  | _, _, 0, r => by simpa using r
  | _, _, _ + 1, .nil => by simp; exact .nil
  | _, _, n + 1, .cons a r => by simp only [List.drop_succ_cons]; exact r.drop n
theorem Rps.set {d : D} {v : V} (r : Rp L A F H d v) : ∀ {ds : List D} {vs : List V} (n : Nat), Rps L A F H ds vs → Rps L A F H (ds.set n d) (vs.set n v)
  | _, _, _, .nil => .nil
  | _, _, 0, .cons _ t => .cons r t
  | _, _, n + 1, .cons a t => .cons a (t.set r n)
theorem Rps.eraseIdx : ∀ {ds : List D} {vs : List V} (n : Nat), Rps L A F H ds vs → Rps L A F H (ds.eraseIdx n) (vs.eraseIdx n)
  | _, _, _, .nil => .nil
  | _, _, 0, .cons _ t => t
  | _, _, n + 1, .cons a t => .cons a (t.eraseIdx n)
theorem Rps.rep {ds : List D} {vs : List V} (r : Rps L A F H ds vs) : ∀ n : Nat, Rps L A F H (List.replicate n ds).flatten (List.replicate n vs).flatten
  | 0 => .nil
  | n + 1 => by
    simp only [List.replicate_succ, List.flatten_cons]
    exact r.append (Rps.rep r n)
theorem Rps.single {d : D} {v : V} (r : Rp L A F H d v) : Rps L A F H [d] [v] := .cons r .nil

/-! ### new things -/
theorem TapeOk.at (t : TapeOk L A F H) (ns : ¬ F A.S) (g : Evo A F H F' H') (e : H' A.S = H A.S) : TapeOk L A F' H' := by
  obtain ⟨ns', p, r, h, q, l, b, e'⟩ := t
  refine ⟨ns', p, r, h, ?_, l, b, by rw [e]; exact e'⟩
  rcases q with ⟨f, q⟩ | ⟨o, q⟩ | q
  · exact .inl ⟨g.f _ f, g.h _ _ q (fun z => ns (z ▸ f)) (.inl f)⟩
  · refine .inr (.inl ⟨o, g.h _ _ q (fun z => ?_) (.inr fun _ z => nomatch z)⟩)
    rw [z, e'] at q; cases q
  · exact .inr (.inr q)
theorem ne_S {p : Addr} (s : SOk L A F H) (hp : H p = none) : A.S ≠ p := by
  obtain ⟨xs, e⟩ := s.tape
  exact ne_of_none e hp
theorem grow_tup {p : Addr} {o : HO} (s : SOk L A F H) (hp : H p = none) : Grow A F H F (upd H p o) :=
  ⟨fun _ h => h, fun _ h => .inl h, fun a x h _ => by rw [upd_ne (ne_of_none h hp)]; exact h⟩
theorem sok_new {p : Addr} {o : HO} (s : SOk L A F H) (hp : H p = none) : SOk L A F (upd H p o) := by
  refine ⟨fun a f => ?_, s.s, s.t.at s.s (grow_tup s hp).evo (upd_ne (ne_S s hp))⟩
  by_cases e : a = p
  · subst e; exact absurd hp (s.d _ f)
  · rw [upd_ne e]; exact s.d a f
theorem rp_tup {p : Addr} {ds : List D} {vs : List V} (s : SOk L A F H) (hp : H p = none) (r : Rps L A F H ds vs) : Rp L A F (upd H p (.tup vs)) (.tup ds) (.ref p) :=
  .tup (.inl (.inl upd_same)) (r.grow s (grow_tup s hp))
def addR (F : Reg) (p : Addr) : Reg := fun a => F a ∨ a = p
theorem grow_lst {p : Addr} {vs : List V} (s : SOk L A F H) (hp : H p = none) : Grow A F H (addR F p) (upd H p (.lst vs)) :=
  ⟨fun _ h => .inl h, fun a h => h.elim .inl fun e => .inr (e ▸ hp), fun a x h _ => by rw [upd_ne (ne_of_none h hp)]; exact h⟩
theorem sok_lst {p : Addr} {vs : List V} (s : SOk L A F H) (hp : H p = none) : SOk L A (addR F p) (upd H p (.lst vs)) := by
  refine ⟨fun a f => ?_, fun f => f.elim s.s (ne_S s hp), s.t.at s.s (grow_lst s hp).evo (upd_ne (ne_S s hp))⟩
  by_cases e : a = p
  · subst e; rw [upd_same]; simp
  · rw [upd_ne e]; exact s.d a (f.elim id fun z => absurd z e)
/-- an own list is frozen -/
theorem sok_add {p : Addr} {o : HO} (s : SOk L A F H) (hp : H p = some o) (hs : p ≠ A.S) : SOk L A (addR F p) H := by
  refine ⟨fun a f => ?_, fun f => f.elim s.s fun e => hs e.symm, s.t.at s.s ⟨fun _ h => .inl h, fun _ _ h _ _ => h⟩ rfl⟩
  rcases f with f | rfl
  · exact s.d a f
  · rw [hp]; simp
theorem evo_add {p : Addr} : Evo A F H (addR F p) H := ⟨fun _ h => .inl h, fun _ _ h _ _ => h⟩
theorem rp_lst {p : Addr} {ds : List D} {vs : List V} (s : SOk L A F H) (hp : H p = none) (r : Rps L A F H ds vs) : Rp L A (addR F p) (upd H p (.lst vs)) (.lst ds) (.ref p) :=
  .lst (.inr rfl) upd_same (r.grow s (grow_lst s hp))
end

/-! ### readings -/
/-- the wish w is shown from here on -/
def Snd (L : Lay) (A : Ad) (F : Reg) (H : Hp) (w : W D) (Q : VK) : Prop := ∃ Qd : Except Exn D → Prop, w Qd ∧ (∀ e, ¬ Qd (.error e)) ∧
  ∀ F' H' d v, Grow A F H F' H' → SOk L A F' H' → Rp L A F' H' d v → Qd (.ok d) → Q v H'
def SndL (L : Lay) (A : Ad) (F : Reg) (H : Hp) (n : Nat) (w : W D) (Q : List V → Hp → Prop) : Prop := ∃ Qd : Except Exn D → Prop, w Qd ∧ (∀ e, ¬ Qd (.error e)) ∧
  ∀ F' H' ds vs, vs.length = n → Grow A F H F' H' → SOk L A F' H' → Rps L A F' H' ds vs → Qd (.ok (.tup ds)) → Q vs H'
structure EOk (L : Lay) (A : Ad) (F : Reg) (σ : L2.St) (H : Hp) (env : Env) : Prop where
  s : SOk L A F H
  l : σ.length = env.length
  e : ∀ (i : Nat) (d : D), env[i]? = some (some d) → ∃ v : V, σ[i]? = some (some v) ∧ Rp L A F H d v
def rd (L : Lay) (m : Env → W D) : TE := fun σ H Q => ∃ A F env, EOk L A F σ H env ∧ Snd L A F H (m env) Q
def rdB (L : Lay) (m : Env → W D) : TT := fun σ H Q => ∃ A F env, EOk L A F σ H env ∧ Snd L A F H (m env) fun v H' => ∃ b, v = .bl b ∧ Q b H'
def rdL (L : Lay) (n : Nat) (m : Env → W D) : TA := fun σ H Q => ∃ A F env, EOk L A F σ H env ∧ SndL L A F H n (m env) Q

section
variable {L : Lay} {A : Ad} {F F' : Reg} {H H' : Hp} {σ : L2.St} {env : Env} {w : W D} {k : D → W D} {Q Q' : VK}
theorem EOk.grow (e : EOk L A F σ H env) (g : Grow A F H F' H') (s : SOk L A F' H') : EOk L A F' σ H' env :=
  ⟨s, e.l, fun i d q => let ⟨v, h, r⟩ := e.e i d q; ⟨v, h, r.grow e.s g⟩⟩
theorem Snd.mono (h : Snd L A F H w Q) (m : ∀ v H', Q v H' → Q' v H') : Snd L A F H w Q' :=
  let ⟨Qd, a, b, c⟩ := h; ⟨Qd, a, b, fun F' H' d v g s r q => m v H' (c F' H' d v g s r q)⟩
theorem Snd.ret {d : D} {v : V} (h : Snd L A F H (W.ret d) Q) (s : SOk L A F H) (r : Rp L A F H d v) : Q v H := by
  obtain ⟨Qd, a, _, c⟩ := h
  exact c F H d v .refl s r a
theorem Snd.retG {F' H'} {d : D} {v : V} (h : Snd L A F H (W.ret d) Q) (g : Grow A F H F' H') (s : SOk L A F' H') (r : Rp L A F' H' d v) : Q v H' := by
  obtain ⟨Qd, a, _, c⟩ := h
  exact c F' H' d v g s r a
theorem Snd.no (h : Snd L A F H (W.fail : W D) Q) : False := h.choose_spec.1
theorem Snd.bind (h : Snd L A F H (W.bind w k) Q) : Snd L A F H w fun v H1 => ∃ F1 d, Grow A F H F1 H1 ∧ SOk L A F1 H1 ∧ Rp L A F1 H1 d v ∧ Snd L A F1 H1 (k d) Q := by
  obtain ⟨Qd, a, b, c⟩ := h
  refine ⟨_, a, fun e q => b e q, fun F1 H1 d v g s r q => ⟨F1, d, g, s, r, Qd, q, b, fun F2 H2 d2 v2 g2 s2 r2 q2 => c F2 H2 d2 v2 (g.trans s g2) s2 r2 q2⟩⟩
theorem SndL.bind {n : Nat} (h : Snd L A F H (W.bind w k) Q) : SndL L A F H n w fun vs H1 => ∃ F1 ds, vs.length = n ∧ Grow A F H F1 H1 ∧ SOk L A F1 H1 ∧ Rps L A F1 H1 ds vs ∧ Snd L A F1 H1 (k (.tup ds)) Q := by
  obtain ⟨Qd, a, b, c⟩ := h
  refine ⟨_, a, fun e q => b e q, fun F1 H1 d v l g s r q => ⟨F1, d, l, g, s, r, Qd, q, b, fun F2 H2 d2 v2 g2 s2 r2 q2 => c F2 H2 d2 v2 (g.trans s g2) s2 r2 q2⟩⟩
theorem rd_bind {m : Env → W D} {kk : D → Env → W D} (h : rd L (fun env => W.bind (m env) fun d => kk d env) σ H Q) :
    rd L m σ H fun v H1 => ∃ A F1 env d, EOk L A F1 σ H1 env ∧ Rp L A F1 H1 d v ∧ Snd L A F1 H1 (kk d env) Q := by
  obtain ⟨A, F, env, e, s⟩ := h
  refine ⟨A, F, env, e, s.bind.mono fun v H1 ⟨F1, d, g, s1, r, q⟩ => ⟨A, F1, env, d, e.grow g s1, r, q⟩⟩
end
end PV
/-! PV, part c: operators, subscripts, slices, built-in functions keep what the evaluator says. -/
namespace L2
open PySem PySem.Spec PyProof.Rows
/-- t * 1 is t -/
theorem tuple_mul1 (l : Addr) (items : Array Value) (n : Nat) (dd : Option Addr) (sl : Array (Option Value)) (u : Tok) :
    Meets (Builtin.«tuple.__mul__» ⟨[.ref l, .int 1 u], []⟩) (fun _ R s => s.heap.get? l = some { cls := .type "tuple", dict := dd, data := .seq items n, slots := sl } ∧
      R (.ok (.ret (Value.ref l))) s) :=
  .of_wp fun prog w A R s h => by
    obtain ⟨hp, g, d, tk, os⟩ := s
    obtain ⟨hl, h⟩ := h
    have f1 := AutoSeq1.idx_int
    wp_walk using wpAny_loadPart' hl
    repeat (first
      | (refine wpAny_ite_false (decide_eq_false (by decide)) ?_; wp_walk using wpAny_loadPart' hl)
      | (refine wpAny_ite_true (decide_eq_true (by simp)) ?_; wp_walk using wpAny_loadPart' hl))
    exact ⟨_, rfl, h⟩
def rRep1 (K : PySem.W.Frag) : R2 := fun x y H Q => ∃ l xs, x = .ref l ∧ y = .int 1 ∧ SqT K H l xs ∧ Q (.ref l) H
theorem op_rep1 {X : Cx} : OpR X (binaryOp .Mult) (rRep1 X.K) := by
  intro pins s σ H x y v u Q I rx ry h
  obtain ⟨l, xs, rfl, rfl, hT, q⟩ := h
  cases rx
  obtain ⟨t, rfl⟩ := ry
  obtain ⟨its, r, ⟨⟨cls, dd, data, sl⟩, ho, hc, n, hd⟩, hs⟩ := I.tuple hT
  simp only at hc hd
  subst hc hd
  refine wpAny_binaryOp_repeat_ref (T := "tuple") (U := "int") (by decide) ⟨_, ho, rfl⟩ (fun s' => typeIs_int s' 1 t) noFill_tuple_mul F.fills_int_mul F.slot_int_rmul repeat_tuple F.slot_int_index.lookup
    (call_meets F.slot_int_rmul (typeIs_int s 1 t) F.entry_int_rmul (F.args_int_rmul_2 _ _) (int_rmul_tuple 1 t l its.toArray n dd sl)
      ⟨ho, rfl, ⟨_, ho, rfl⟩, call_meets F.slot_tuple_mul ⟨_, ho, rfl⟩ F.entry_tuple_mul (F.args_tuple_mul_2 _ _) (tuple_mul1 l its.toArray n dd sl t) ⟨ho, ?_⟩⟩)
  exact ⟨.ref l, H, I, rfl, q⟩
end L2
namespace PV
open PySem PySem.Spec PyProof.Rows L2
section
variable {L : Lay} {A : Ad} {F F' : Reg} {H H' : Hp} {σ : L2.St} {Q Q' : VK} {X : Cx}

theorem snd_ii {a b : D} {f : Int → Int → W D} (q : Snd L A F H (ii a b f) Q) : ∃ i j, a = .int i ∧ b = .int j ∧ Snd L A F H (f i j) Q := by
  cases a <;> cases b <;> first | exact ⟨_, _, rfl, rfl, q⟩ | exact (Snd.no q).elim
theorem snd_asI {a : D} {f : Int → W D} (q : Snd L A F H (asI a f) Q) : ∃ i, a = .int i ∧ Snd L A F H (f i) Q := by
  cases a <;> first | exact ⟨_, rfl, q⟩ | exact (Snd.no q).elim
theorem snd_if {c : Prop} [Decidable c] {a : W D} (q : Snd L A F H (if c then a else W.fail) Q) : c ∧ Snd L A F H a Q := by
  by_cases h : c
  · rw [if_pos h] at q; exact ⟨h, q⟩
  · rw [if_neg h] at q; exact (Snd.no q).elim
theorem snd_blOf {a : D} {k : Bool → W D} (q : Snd L A F H (blOf a k) Q) : ∃ b, a = .bl b ∧ Snd L A F H (k b) Q := by
  cases a <;> first | exact ⟨_, rfl, q⟩ | exact (Snd.no q).elim
theorem snd_onB {a : D} {m n : W D} (q : Snd L A F H (onB a m n) Q) : ∃ b, a = .bl b ∧ if b = true then Snd L A F H m Q else Snd L A F H n Q := by
  cases a with
  | bl b => cases b <;> exact ⟨_, rfl, q⟩
  | _ => exact (Snd.no q).elim
theorem snd_items {a : D} {k : List D → W D} (q : Snd L A F H (W.bind (itemsD a) k) Q) : ∃ ds, (a = .tup ds ∨ a = .lst ds) ∧ Snd L A F H (k ds) Q := by
  cases a with
  | tup ds => exact ⟨ds, .inl rfl, q⟩
  | lst ds => exact ⟨ds, .inr rfl, q⟩
  | _ => exact (Snd.no q).elim

/-- a new tuple, a new list -/
theorem q_tup {p : Addr} {ds : List D} {vs : List V} (q : Snd L A F H (W.ret (.tup ds)) Q) (so : SOk L A F H) (r : Rps L A F H ds vs) (hp : H p = none) : Q (.ref p) (upd H p (.tup vs)) :=
  q.retG (grow_tup so hp) (sok_new so hp) (rp_tup so hp r)
theorem q_lst {p : Addr} {ds : List D} {vs : List V} (q : Snd L A F H (W.ret (.lst ds)) Q) (so : SOk L A F H) (r : Rps L A F H ds vs) (hp : H p = none) : Q (.ref p) (upd H p (.lst vs)) :=
  q.retG (grow_lst so hp) (sok_lst so hp) (rp_lst so hp r)

/-! ### data and PyData -/
mutual
theorem Rp.dp (hK : L.K = X.K) : ∀ {d : D} {v : V} {x : PyData}, Rp L A F H d v → toPy d = some x → Dp X.K H v x
  | _, _, _, .non, e => by cases e; exact .non
  | _, _, _, .bl b, e => by cases e; exact .bl b
  | _, _, _, .int i, e => by cases e; exact .int i
  | _, _, _, .str x, e => by cases e; exact .str x
  | .tup ds, _, x, .tup h r, e => by
    unfold toPy at e
    cases q : toPys ds with
    | none => rw [q] at e; cases e
    | some zs =>
      rw [q] at e
      have e' : PyData.tuple zs = x := Option.some.inj e
      subst e'
      rw [hK] at h
      exact .tup h (Rps.dp hK r q)
  | .lst ds, _, x, .lst f h r, e => by
    unfold toPy at e
    cases q : toPys ds with
    | none => rw [q] at e; cases e
    | some zs =>
      rw [q] at e
      have e' : PyData.list zs = x := Option.some.inj e
      subst e'
      exact .lst (.inl (.inl h)) (Rps.dp hK r q)
  | _, _, _, .tape, e => by cases e
  | _, _, _, .scr, e => by cases e
theorem Rps.dp (hK : L.K = X.K) : ∀ {ds : List D} {vs : List V} {xs : List PyData}, Rps L A F H ds vs → toPys ds = some xs → DpAll X.K H vs xs
  | _, _, _, .nil, e => by cases e; exact .nil
  | d :: ds, _, xs, .cons a b, e => by
    unfold toPys at e
    cases q : toPy d with
    | none => rw [q] at e; cases e
    | some z =>
      cases q2 : toPys ds with
      | none => rw [q, q2] at e; cases e
      | some zs =>
        rw [q, q2] at e
        have e' : z :: zs = xs := Option.some.inj e
        subst e'
        exact .cons (Rp.dp hK a q) (Rps.dp hK b q2)
end
theorem snd_eqD {a b : D} {k : Bool → W D} (q : Snd L A F H (W.bind (eqD a b) k) Q) : ∃ x y, toPy a = some x ∧ toPy b = some y ∧ SeqAt.shaped x = true ∧ SeqAt.shaped y = true ∧ Snd L A F H (k (PyData.eqv x y)) Q := by
  unfold eqD at q
  cases ha : toPy a with
  | none => rw [ha] at q; exact (Snd.no q).elim
  | some x =>
    cases hb : toPy b with
    | none => rw [ha, hb] at q; exact (Snd.no q).elim
    | some y =>
      rw [ha, hb] at q
      simp only [W.ite_bind, W.ret_bind, W.fail_bind] at q
      obtain ⟨c, q⟩ := snd_if q
      rw [Bool.and_eq_true] at c
      exact ⟨x, y, rfl, rfl, c.1, c.2, q⟩
theorem snd_memD {a : D} {bs : List D} {k : Bool → W D} (q : Snd L A F H (W.bind (memD a bs) k) Q) : ∃ x ys, toPy a = some x ∧ toPys bs = some ys ∧ SeqAt.shaped x = true ∧ SeqAt.shaped (.list ys) = true ∧ Snd L A F H (k (ys.any fun z => PyData.eqv z x)) Q := by
  unfold memD at q
  cases ha : toPy a with
  | none => rw [ha] at q; exact (Snd.no q).elim
  | some x =>
    cases hb : toPys bs with
    | none => rw [ha, hb] at q; exact (Snd.no q).elim
    | some y =>
      rw [ha, hb] at q
      simp only [W.ite_bind, W.ret_bind, W.fail_bind] at q
      obtain ⟨c, q⟩ := snd_if q
      rw [Bool.and_eq_true] at c
      exact ⟨x, y, rfl, rfl, c.1, c.2, q⟩

/-! ### binary operators -/
def rBin (L : Lay) (m : D → D → W D) : R2 := fun x y H Q => ∃ A F dx dy, SOk L A F H ∧ Rp L A F H dx x ∧ Rp L A F H dy y ∧ Snd L A F H (m dx dy) Q
theorem mulOk_iff {i j : Int} (h : mulOk i j = true) : CMul i j := by
  unfold mulOk at h
  simp only [Bool.or_eq_true, Bool.and_eq_true, decide_eq_true_eq] at h
  exact h
theorem powOk_iff {i j : Int} (h : powOk i j = true) : CPow i j := by
  unfold powOk at h
  simp only [Bool.and_eq_true, decide_eq_true_eq] at h
  exact ⟨h.1.1, h.1.2, h.2⟩
theorem op_binD (hK : L.K = X.K) (o : Operator) : OpR X (binaryOp o) (rBin L (binD o)) := by
  intro pins s σ H x y v u Q I rx ry h
  obtain ⟨A, F, dx, dy, so, qx, qy, q⟩ := h
  cases o with
  | Add =>
    replace q : Snd L A F H (addD dx dy) Q := q
    cases qx <;> cases qy <;> try exact (Snd.no q).elim
    case int.int i j => exact op_add pins s σ H _ _ v u Q I rx ry ⟨i, j, rfl, rfl, q.ret so (.int _)⟩
    case str.str i j =>
      obtain ⟨c, q⟩ := snd_if q
      exact op_add_str pins s σ H _ _ v u Q I rx ry ⟨i, j, rfl, rfl, c, q.ret so (.str _)⟩
    case tup.tup a vs ds ha ra b us es hb rb =>
      obtain ⟨c, q⟩ := snd_if q
      rw [hK] at ha hb
      refine op_catA pins s σ H _ _ v u Q I rx ry ⟨a, b, vs, us, rfl, rfl, ha, hb, by rw [← ra.length, ← rb.length]; exact c, fun e => ?_, fun e e' => ?_, fun _ _ p hp => q_tup q so (ra.append rb) hp⟩
      · subst e
        cases ra
        exact q.ret so (.tup (by rw [hK]; exact hb) rb)
      · subst e'
        cases rb
        rw [List.append_nil] at q
        exact q.ret so (.tup (by rw [hK]; exact ha) ra)
    case lst.lst a vs ds fa ha ra b us es fb hb rb =>
      obtain ⟨c, q⟩ := snd_if q
      exact op_cat pins s σ H _ _ v u Q I rx ry ⟨a, b, vs, us, rfl, rfl, ha, hb, by rw [← ra.length, ← rb.length]; exact c, fun p hp => q_lst q so (ra.append rb) hp⟩
  | Sub =>
    obtain ⟨i, j, rfl, rfl, q⟩ := snd_ii q
    cases qx; cases qy
    exact op_sub pins s σ H _ _ v u Q I rx ry ⟨i, j, rfl, rfl, q.ret so (.int _)⟩
  | Mult =>
    replace q : Snd L A F H (mulD dx dy) Q := q
    cases qx <;> cases qy <;> try exact (Snd.no q).elim
    case int.int i j =>
      obtain ⟨c, q⟩ := snd_if q
      exact op_mul pins s σ H _ _ v u Q I rx ry ⟨i, j, rfl, rfl, mulOk_iff c, q.ret so (.int _)⟩
    case lst.int a vs ds fa ha ra k =>
      obtain ⟨c, q⟩ := snd_if q
      exact op_rep pins s σ H _ _ v u Q I rx ry ⟨a, k, vs, rfl, rfl, ha, c.1, c.2.1, by rw [← ra.length]; exact c.2.2, fun p hp => q_lst q so (ra.rep _) hp⟩
    case tup.int a vs ds ha ra k =>
      obtain ⟨⟨c1, c2, c3, c4⟩, q⟩ := snd_if q
      rw [hK] at ha
      by_cases e : k = 1
      · subst e
        have q' : Snd L A F H (W.ret (.tup ds)) Q := by simpa using q
        exact op_rep1 pins s σ H _ _ v u Q I rx ry ⟨a, vs, rfl, rfl, ha, q'.ret so (.tup (by rw [hK]; exact ha) ra)⟩
      · refine op_repT pins s σ H _ _ v u Q I rx ry ⟨a, k, vs, rfl, rfl, ha, fun z => ?_, by omega, c3, by rw [← ra.length]; exact c4, fun p hp => q_tup q so (ra.rep _) hp⟩
        subst z
        cases ra
        exact c1 rfl
  | FloorDiv =>
    obtain ⟨i, j, rfl, rfl, q⟩ := snd_ii q
    obtain ⟨c, q⟩ := snd_if q
    cases qx; cases qy
    exact op_fdiv pins s σ H _ _ v u Q I rx ry ⟨i, j, rfl, rfl, c, q.ret so (.int _)⟩
  | Mod =>
    obtain ⟨i, j, rfl, rfl, q⟩ := snd_ii q
    obtain ⟨c, q⟩ := snd_if q
    cases qx; cases qy
    exact op_mod pins s σ H _ _ v u Q I rx ry ⟨i, j, rfl, rfl, c, q.ret so (.int _)⟩
  | Pow =>
    obtain ⟨i, j, rfl, rfl, q⟩ := snd_ii q
    obtain ⟨c, q⟩ := snd_if q
    cases qx; cases qy
    exact op_pow pins s σ H _ _ v u Q I rx ry ⟨i, j, rfl, rfl, powOk_iff c, q.ret so (.int _)⟩
  | LShift =>
    obtain ⟨i, j, rfl, rfl, q⟩ := snd_ii q
    obtain ⟨c, q⟩ := snd_if q
    cases qx; cases qy
    exact op_shl pins s σ H _ _ v u Q I rx ry ⟨i, j, rfl, rfl, powOk_iff c, q.ret so (.int _)⟩
  | RShift =>
    obtain ⟨i, j, rfl, rfl, q⟩ := snd_ii q
    obtain ⟨c, q⟩ := snd_if q
    cases qx; cases qy
    exact op_shr pins s σ H _ _ v u Q I rx ry ⟨i, j, rfl, rfl, c, q.ret so (.int _)⟩
  | BitAnd =>
    obtain ⟨i, j, rfl, rfl, q⟩ := snd_ii q
    cases qx; cases qy
    exact op_and pins s σ H _ _ v u Q I rx ry ⟨i, j, rfl, rfl, q.ret so (.int _)⟩
  | BitOr =>
    obtain ⟨i, j, rfl, rfl, q⟩ := snd_ii q
    cases qx; cases qy
    exact op_or pins s σ H _ _ v u Q I rx ry ⟨i, j, rfl, rfl, q.ret so (.int _)⟩
  | BitXor =>
    obtain ⟨i, j, rfl, rfl, q⟩ := snd_ii q
    cases qx; cases qy
    exact op_xor pins s σ H _ _ v u Q I rx ry ⟨i, j, rfl, rfl, q.ret so (.int _)⟩
  | _ => exact (Snd.no q).elim

/-! ### comparisons -/
theorem op_cmpD (hK : L.K = X.K) (hu : X.A.units + 65 < cLine) (o : CmpOp) : OpR X (compareOp o) (rBin L (cmpD o)) := by
  intro pins s σ H x y v u Q I rx ry h
  obtain ⟨A, F, dx, dy, so, qx, qy, q⟩ := h
  cases o with
  | Eq =>
    obtain ⟨a, b, e1, e2, s1, s2, q⟩ := snd_eqD (k := fun b => W.ret (.bl b)) q
    exact op_eqD (by omega) pins s σ H _ _ v u Q I rx ry ⟨a, b, qx.dp hK e1, qy.dp hK e2, s1, s2, q.ret so (.bl _)⟩
  | NotEq =>
    obtain ⟨a, b, e1, e2, s1, s2, q⟩ := snd_eqD q
    exact op_neD (by omega) pins s σ H _ _ v u Q I rx ry ⟨a, b, qx.dp hK e1, qy.dp hK e2, s1, s2, q.ret so (.bl _)⟩
  | Lt =>
    obtain ⟨i, j, rfl, rfl, q⟩ := snd_ii q
    cases qx; cases qy
    exact op_lt pins s σ H _ _ v u Q I rx ry ⟨i, j, rfl, rfl, q.ret so (.bl _)⟩
  | LtE =>
    obtain ⟨i, j, rfl, rfl, q⟩ := snd_ii q
    cases qx; cases qy
    exact op_le pins s σ H _ _ v u Q I rx ry ⟨i, j, rfl, rfl, q.ret so (.bl _)⟩
  | Gt =>
    obtain ⟨i, j, rfl, rfl, q⟩ := snd_ii q
    cases qx; cases qy
    exact op_gt pins s σ H _ _ v u Q I rx ry ⟨i, j, rfl, rfl, q.ret so (.bl _)⟩
  | GtE =>
    obtain ⟨i, j, rfl, rfl, q⟩ := snd_ii q
    cases qx; cases qy
    exact op_ge pins s σ H _ _ v u Q I rx ry ⟨i, j, rfl, rfl, q.ret so (.bl _)⟩
  | In =>
    cases qy <;> try exact (Snd.no q).elim
    case tup a vs ds ha ra =>
      obtain ⟨d, es, e1, e2, s1, s2, q⟩ := snd_memD (k := fun b => W.ret (.bl b)) q
      obtain ⟨as, r1⟩ := Dp.reads I d x v (qx.dp hK e1) rx
      have q2 : Dp X.K H (.ref a) (.tuple es) := .tup (by rw [← hK]; exact ha) (ra.dp hK e2)
      obtain ⟨bs, r2⟩ := Dp.reads I (.tuple es) _ u q2 ry
      exact SeqAt.in_tuple_reads r2 r1 (SeqAt.canLay_of_shaped s2) (SeqAt.canLay_of_shaped s1) (room_in_shaped s1 hu) ⟨.bl _, H, I, rfl, q.ret so (.bl _)⟩
    case lst a vs ds fa ha ra =>
      obtain ⟨d, es, e1, e2, s1, s2, q⟩ := snd_memD (k := fun b => W.ret (.bl b)) q
      have q2 : Dp X.K H (.ref a) (.list es) := .lst (.inl (.inl ha)) (ra.dp hK e2)
      exact op_inD hu pins s σ H _ _ v u Q I rx ry ⟨d, es, qx.dp hK e1, q2, s1, s2, q.ret so (.bl _)⟩
  | NotIn =>
    cases qy <;> try exact (Snd.no q).elim
    case tup a vs ds ha ra =>
      obtain ⟨d, es, e1, e2, s1, s2, q⟩ := snd_memD q
      obtain ⟨as, r1⟩ := Dp.reads I d x v (qx.dp hK e1) rx
      have q2 : Dp X.K H (.ref a) (.tuple es) := .tup (by rw [← hK]; exact ha) (ra.dp hK e2)
      obtain ⟨bs, r2⟩ := Dp.reads I (.tuple es) _ u q2 ry
      exact SeqAt.notIn_tuple_reads r2 r1 (SeqAt.canLay_of_shaped s2) (SeqAt.canLay_of_shaped s1) (room_in_shaped s1 hu) ⟨.bl _, H, I, rfl, q.ret so (.bl _)⟩
    case lst a vs ds fa ha ra =>
      obtain ⟨d, es, e1, e2, s1, s2, q⟩ := snd_memD q
      have q2 : Dp X.K H (.ref a) (.list es) := .lst (.inl (.inl ha)) (ra.dp hK e2)
      exact op_notInD hu pins s σ H _ _ v u Q I rx ry ⟨d, es, qx.dp hK e1, q2, s1, s2, q.ret so (.bl _)⟩
  | _ => exact (Snd.no q).elim

/-! ### subscripts, slices -/
theorem atI_rps {ds : List D} {vs : List V} {i : Int} {d : D} (r : Rps L A F H ds vs) (h : atI ds i = some d) : ∃ v, atI vs i = some v ∧ Rp L A F H d v := by
  unfold atI at h ⊢
  rw [r.length] at h
  cases e : ixN vs.length i with
  | none => rw [e] at h; cases h
  | some j =>
    rw [e] at h
    exact r.get (by simpa using h)
theorem snd_atD {ds : List D} {i : Int} (q : Snd L A F H (atD ds i) Q) : ∃ d, atI ds i = some d ∧ Snd L A F H (W.ret d) Q := by
  unfold atD at q
  cases e : atI ds i with
  | none => rw [e] at q; exact (Snd.no q).elim
  | some d => rw [e] at q; exact ⟨d, rfl, q⟩
theorem ix_D (hK : L.K = X.K) : IxR X (rBin L ixD) := by
  intro vE sE pins s σ H x y v u Q I rx ry h hsub
  obtain ⟨A, F, dx, dy, so, qx, qy, q⟩ := h
  cases qx <;> cases qy <;> try exact (Snd.no q).elim
  case tup.int a vs ds ha ra i =>
    obtain ⟨d, e, q⟩ := snd_atD q
    obtain ⟨w, e', rw'⟩ := atI_rps ra e
    exact ix_tup vE sE pins s σ H _ _ v u Q I rx ry ⟨a, vs, i, w, rfl, rfl, by rw [← hK]; exact ha, e', q.ret so rw'⟩ hsub
  case lst.int a vs ds fa ha ra i =>
    obtain ⟨d, e, q⟩ := snd_atD q
    obtain ⟨w, e', rw'⟩ := atI_rps ra e
    exact ix_list vE sE pins s σ H _ _ v u Q I rx ry ⟨a, vs, i, w, rfl, rfl, .inl (.inl ha), e', q.ret so rw'⟩ hsub
theorem cut_rps {ds : List D} {vs : List V} {lo hi : Option Int} (r : Rps L A F H ds vs) : Rps L A F H (cutD ds lo hi) (cutV vs lo hi) := by
  unfold cutD cutV
  rw [r.length]
  exact (r.drop _).take _
theorem cut_all {α : Type} {xs : List α} {lo hi : Option Int} (h : HT.sIx xs.length 0 lo = 0 ∧ HT.sIx xs.length xs.length hi = xs.length) : (xs.drop (HT.sIx xs.length 0 lo)).take (HT.sIx xs.length xs.length hi - HT.sIx xs.length 0 lo) = xs := by
  rw [h.1, h.2]
  simp
def rSl (L : Lay) : V → Option Int → Option Int → Hp → VK → Prop := fun x lo hi H Q => ∃ A F dx, SOk L A F H ∧ Rp L A F H dx x ∧ Snd L A F H (slD dx lo hi) Q
theorem sl_D (hK : L.K = X.K) : SlR X (rSl L) := by
  intro pins s σ H x v vl vu lo hi sl Q I rx hs pl pu h
  obtain ⟨A, F, dx, so, qx, q⟩ := h
  cases qx <;> try exact (Snd.no q).elim
  case tup a vs ds ha ra =>
    replace q : Snd L A F H (W.ret (.tup (cutD ds lo hi))) Q := q
    refine sl_tupA pins s σ H _ v vl vu lo hi sl Q I rx hs pl pu ⟨a, vs, rfl, by rw [← hK]; exact ha, fun e => ?_, fun _ p hp => q_tup q so (cut_rps ra) hp⟩
    have e' : cutD ds lo hi = ds := by unfold cutD; rw [ra.length]; rw [← ra.length] at e ⊢; exact cut_all e
    rw [e'] at q
    exact q.ret so (.tup ha ra)
  case lst a vs ds fa ha ra =>
    replace q : Snd L A F H (W.ret (.lst (cutD ds lo hi))) Q := q
    exact sl_list pins s σ H _ v vl vu lo hi sl Q I rx hs pl pu ⟨a, vs, rfl, .inl (.inl ha), fun p hp => q_lst q so (cut_rps ra) hp⟩
/-! ### built-in functions -/
def rBI (L : Lay) (m : List D → W D) : List V → Hp → VK → Prop := fun vs H Q => ∃ A F ds, SOk L A F H ∧ Rps L A F H ds vs ∧ Snd L A F H (m ds) Q
theorem ints_rps : ∀ {ds : List D} {vs : List V} {ns : List Int}, Rps L A F H ds vs → intsOf ds = some ns → vs = ns.map V.int
  | _, _, _, .nil, e => by cases e; rfl
  | d :: ds, _, _, .cons a b, e => by
    cases a with
    | int i =>
      unfold intsOf at e
      cases q : intsOf ds with
      | none => rw [q] at e; cases e
      | some ms =>
        rw [q] at e
        cases e
        rw [ints_rps b q]
        rfl
    | _ => cases e
theorem bools_rps : ∀ {ds : List D} {vs : List V} {ns : List Bool}, Rps L A F H ds vs → bools ds = some ns → vs = ns.map V.bl
  | _, _, _, .nil, e => by cases e; rfl
  | d :: ds, _, _, .cons a b, e => by
    cases a with
    | bl i =>
      unfold bools at e
      cases q : bools ds with
      | none => rw [q] at e; cases e
      | some ms =>
        rw [q] at e
        cases e
        rw [bools_rps b q]
        rfl
    | _ => cases e
def BI.val : BI → Value
  | .len => .builtin "len" | .tuple => .type "tuple" | .list => .type "list" | .sum => .builtin "sum" | .int => .type "int" | .abs => .builtin "abs" | .all => .builtin "all" | .any => .builtin "any"
theorem BI.boot : ∀ b : BI, bootBuiltins b.name = some b.val := by
  intro b
  cases b <;> decide +kernel
theorem rps_one {d : D} {vs : List V} (r : Rps L A F H [d] vs) : ∃ v, vs = [v] ∧ Rp L A F H d v := by
  cases r with
  | cons a b => cases b; exact ⟨_, rfl, a⟩
theorem call_biD (hK : L.K = X.K) (hc : X.calm = true) (b : BI) : CallR X b.val (rBI L (biD b)) := by
  intro pins s σ H vs us Q I rv h
  obtain ⟨A, F, ds, so, rd, q⟩ := h
  match b, ds, rd, q with
  | .len, [.tup ys], rd, q =>
    obtain ⟨v, rfl, ry⟩ := rps_one rd
    cases ry with
    | tup h r => exact call_len_seq pins s σ H _ us Q I rv ⟨_, _, rfl, .inr (by rw [← hK]; exact h), by rw [← r.length]; exact q.ret so (.int _)⟩
  | .len, [.lst ys], rd, q =>
    obtain ⟨v, rfl, ry⟩ := rps_one rd
    cases ry with
    | lst f h r => exact call_len_seq pins s σ H _ us Q I rv ⟨_, _, rfl, .inl (.inl (.inl h)), by rw [← r.length]; exact q.ret so (.int _)⟩
  | .tuple, [.tup ys], rd, q =>
    obtain ⟨v, rfl, ry⟩ := rps_one rd
    cases ry with
    | tup h r => exact call_tuple_of pins s σ H _ us Q I rv ⟨_, _, rfl, .inr ⟨by rw [← hK]; exact h, q.ret so (.tup h r)⟩⟩
  | .tuple, [.lst ys], rd, q =>
    obtain ⟨v, rfl, ry⟩ := rps_one rd
    cases ry with
    | lst f h r => exact call_tuple_of pins s σ H _ us Q I rv ⟨_, _, rfl, .inl ⟨.inl (.inl h), fun l hl => q_tup q so r hl⟩⟩
  | .list, [.tup ys], rd, q =>
    obtain ⟨v, rfl, ry⟩ := rps_one rd
    cases ry with
    | tup h r => exact call_list_of pins s σ H _ us Q I rv ⟨_, _, rfl, .inr (by rw [← hK]; exact h), fun l hl => q_lst q so r hl⟩
  | .list, [.lst ys], rd, q =>
    obtain ⟨v, rfl, ry⟩ := rps_one rd
    cases ry with
    | lst f h r => exact call_list_of pins s σ H _ us Q I rv ⟨_, _, rfl, .inl (.inl (.inl h)), fun l hl => q_lst q so r hl⟩
  | .sum, [.lst ys], rd, q =>
    obtain ⟨v, rfl, ry⟩ := rps_one rd
    cases ry with
    | lst f h r =>
      unfold biD at q
      cases e : intsOf ys with
      | none => simp only [e] at q; exact (Snd.no q).elim
      | some ns =>
        simp only [e] at q
        have ev := ints_rps r e
        subst ev
        exact cr_sum hc pins s σ H _ us Q I rv ⟨_, ns, rfl, .inl (.inl h), q.ret so (.int _)⟩
  | .int, [.int i], rd, q =>
    obtain ⟨v, rfl, ry⟩ := rps_one rd
    cases ry with
    | int i => exact call_int1 pins s σ H _ us Q I rv (.inl ⟨i, rfl, q.ret so (.int _)⟩)
  | .int, [.bl i], rd, q =>
    obtain ⟨v, rfl, ry⟩ := rps_one rd
    cases ry with
    | bl i => exact call_int1 pins s σ H _ us Q I rv (.inr ⟨i, rfl, q.ret so (.int _)⟩)
  | .abs, [.int i], rd, q =>
    obtain ⟨v, rfl, ry⟩ := rps_one rd
    cases ry with
    | int i => exact call_abs pins s σ H _ us Q I rv ⟨i, rfl, q.ret so (.int _)⟩
  | .all, [.lst ys], rd, q =>
    obtain ⟨v, rfl, ry⟩ := rps_one rd
    cases ry with
    | lst f h r =>
      unfold biD at q
      cases e : bools ys with
      | none => simp only [e] at q; exact (Snd.no q).elim
      | some ns =>
        simp only [e] at q
        have ev := bools_rps r e
        subst ev
        exact cr_all hc pins s σ H _ us Q I rv ⟨_, ns, rfl, .inl (.inl h), q.ret so (.bl _)⟩
  | .any, [.lst ys], rd, q =>
    obtain ⟨v, rfl, ry⟩ := rps_one rd
    cases ry with
    | lst f h r =>
      unfold biD at q
      cases e : bools ys with
      | none => simp only [e] at q; exact (Snd.no q).elim
      | some ns =>
        simp only [e] at q
        have ev := bools_rps r e
        subst ev
        exact cr_any hc pins s σ H _ us Q I rv ⟨_, ns, rfl, .inl (.inl h), q.ret so (.bl _)⟩
end
end PV
/-! PV, part d: what is walked; targets; comprehensions. -/
namespace PV
open PySem PySem.Spec PyProof.Rows L2

/-- J walks the items, as long as the region stands -/
structure IterOk (L : Lay) (A : Ad) (J : It) (F : Reg) (H : Hp) (items : List D) : Prop where
  n : items.length ≤ sizeLine
  go : ∀ F' H' i, Evo A F H F' H' → SOk L A F' H' → i < items.length → J.go i H'
  st : ∀ F' H', Evo A F H F' H' → SOk L A F' H' → J.stop items.length H'
  yd : ∀ F' H' i x H'', Evo A F H F' H' → SOk L A F' H' → i < items.length → J.yld i H' x H'' → Grow A F' H' F' H'' ∧ SOk L A F' H'' ∧ ∃ d, items[i]? = some d ∧ Rp L A F' H'' d x
def SndI (L : Lay) (A : Ad) (F : Reg) (H : Hp) (w : W D) (R : It → Hp → Prop) : Prop := ∃ Qd : Except Exn D → Prop, w Qd ∧ (∀ e, ¬ Qd (.error e)) ∧ (∀ d, Qd (.ok d) → ∃ items, d = .tup items ∨ d = .lst items) ∧
  ∀ F' H' d items J, Grow A F H F' H' → SOk L A F' H' → (d = .lst items ∨ d = .tup items) → IterOk L A J F' H' items → Qd (.ok d) → R J H'
def rdI (L : Lay) (m : Env → W D) : TI := fun σ H R => ∃ A F env, EOk L A F σ H env ∧ SndI L A F H (m env) R

section
variable {L : Lay} {A : Ad} {F F' : Reg} {H H' : Hp} {σ : L2.St} {Q Q' : VK} {X : Cx}

theorem rps_at {items : List D} {vs : List V} {i : Nat} {x : V} (r : Rps L A F H items vs) (e : vs[i]? = some x) : ∃ d, items[i]? = some d ∧ Rp L A F H d x := by
  have hl := r.length
  have hi : i < vs.length := by
    rcases Nat.lt_or_ge i vs.length with h | h
    · exact h
    · rw [List.getElem?_eq_none h] at e; cases e
  have hd : items[i]? = some items[i] := List.getElem?_eq_getElem (by omega)
  obtain ⟨v, hv, rv⟩ := r.get hd
  rw [e] at hv
  cases hv
  exact ⟨_, hd, rv⟩
theorem iter_list {a : Addr} {vs : List V} {items : List D} (fa : F a) (ha : H a = some (.lst vs)) (r : Rps L A F H items vs) (s : SOk L A F H) (hn : vs.length ≤ sizeLine) : IterOk L A (Itl L.K a) F H items := by
  have st : ∀ {F' H'}, Evo A F H F' H' → H' a = some (.lst vs) := fun g => g.h _ _ ha (fun z => s.s (z ▸ fa)) (.inl fa)
  have hl := r.length
  refine ⟨by omega, fun F' H' i g s' hi => ?_, fun F' H' g s' => ?_, fun F' H' i x H'' g s' hi y => ?_⟩
  · have : i < vs.length := by omega
    exact ⟨vs, vs[i], .inl (.inl (st g)), by simp [this]⟩
  · exact ⟨vs, .inl (.inl (st g)), by omega⟩
  · obtain ⟨rfl, y⟩ := y
    have e := y vs (.inl (.inl (st g)))
    exact ⟨.refl, s', rps_at (r.evo s g) e⟩
theorem iter_tup {a : Addr} {vs : List V} {items : List D} (ha : SqT L.K H a vs) (r : Rps L A F H items vs) (s : SOk L A F H) (hn : vs.length ≤ sizeLine) : IterOk L A (Itt L.K a) F H items := by
  have st : ∀ {F' H'}, Evo A F H F' H' → SqT L.K H' a vs := fun g => sqT_evo s g ha
  have hl := r.length
  refine ⟨by omega, fun F' H' i g s' hi => ?_, fun F' H' g s' => ?_, fun F' H' i x H'' g s' hi y => ?_⟩
  · have : i < vs.length := by omega
    exact ⟨vs, vs[i], st g, by simp [this]⟩
  · exact ⟨vs, st g, by omega⟩
  · obtain ⟨rfl, y⟩ := y
    have e := y vs (st g)
    exact ⟨.refl, s', rps_at (r.evo s g) e⟩
theorem iter_rng {lo : Int} {n : Nat} (hn : n ≤ sizeLine) : IterOk L A (Itr lo n) F H (intsR lo n) := by
  have hl : (intsR lo n).length = n := by unfold intsR; simp
  refine ⟨by omega, fun F' H' i g s' hi => ?_, fun F' H' g s' => ?_, fun F' H' i x H'' g s' hi y => ?_⟩
  · show i < n
    omega
  · show n ≤ (intsR lo n).length
    omega
  · obtain ⟨rfl, rfl⟩ := y
    refine ⟨.refl, s', .int (lo + i), ?_, .int _⟩
    unfold intsR
    rw [hl] at hi
    simp [hi]
theorem zip_get {xs ys : List D} {i : Nat} {x y : D} (hx : xs[i]? = some x) (hy : ys[i]? = some y) : (zipD xs ys)[i]? = some (.tup [x, y]) := by
  unfold zipD
  rw [List.getElem?_zipWith, hx, hy]
theorem iter_zipL {a b : Addr} {vs us : List V} {xs ys : List D} (fa : F a) (ha : H a = some (.lst vs)) (ra : Rps L A F H xs vs) (fb : F b) (hb : H b = some (.lst us)) (rb : Rps L A F H ys us) (s : SOk L A F H) (hn : vs.length ≤ sizeLine) :
    IterOk L A (Itz L.K a b) F H (zipD xs ys) := by
  have sa : ∀ {F' H'}, Evo A F H F' H' → SqL L.K H' a vs := fun g => .inl (.inl (g.h _ _ ha (fun z => s.s (z ▸ fa)) (.inl fa)))
  have sb : ∀ {F' H'}, Evo A F H F' H' → SqL L.K H' b us := fun g => .inl (.inl (g.h _ _ hb (fun z => s.s (z ▸ fb)) (.inl fb)))
  have la := ra.length
  have lb := rb.length
  have hl : (zipD xs ys).length = min xs.length ys.length := by unfold zipD; simp
  refine ⟨by omega, fun F' H' i g s' hi => ?_, fun F' H' g s' => ?_, fun F' H' i x H'' g s' hi y => ?_⟩
  · have h1 : i < vs.length := by omega
    have h2 : i < us.length := by omega
    exact ⟨vs, us, vs[i], us[i], sa g, sb g, by simp [h1], by simp [h2]⟩
  · exact ⟨vs, us, sa g, sb g, by omega⟩
  · obtain ⟨T, u1, u2, rfl, hT, rfl, e1, e2⟩ := y
    obtain ⟨d1, q1, r1⟩ := rps_at (ra.evo s g) (e1 vs (sa g))
    obtain ⟨d2, q2, r2⟩ := rps_at (rb.evo s g) (e2 us (sb g))
    exact ⟨grow_tup s' hT, sok_new s' hT, _, zip_get q1 q2, rp_tup s' hT (.cons r1 (.cons r2 .nil))⟩
theorem iter_zipT {a b : Addr} {vs us : List V} {xs ys : List D} (ha : SqT L.K H a vs) (ra : Rps L A F H xs vs) (hb : SqT L.K H b us) (rb : Rps L A F H ys us) (s : SOk L A F H) (hn : vs.length ≤ sizeLine) :
    IterOk L A (RZ.ItzT L.K a b) F H (zipD xs ys) := by
  have sa : ∀ {F' H'}, Evo A F H F' H' → SqT L.K H' a vs := fun g => sqT_evo s g ha
  have sb : ∀ {F' H'}, Evo A F H F' H' → SqT L.K H' b us := fun g => sqT_evo s g hb
  have la := ra.length
  have lb := rb.length
  have hl : (zipD xs ys).length = min xs.length ys.length := by unfold zipD; simp
  refine ⟨by omega, fun F' H' i g s' hi => ?_, fun F' H' g s' => ?_, fun F' H' i x H'' g s' hi y => ?_⟩
  · have h1 : i < vs.length := by omega
    have h2 : i < us.length := by omega
    exact ⟨vs, us, vs[i], us[i], sa g, sb g, by simp [h1], by simp [h2]⟩
  · exact ⟨vs, us, sa g, sb g, by omega⟩
  · obtain ⟨T, u1, u2, rfl, hT, rfl, e1, e2⟩ := y
    obtain ⟨d1, q1, r1⟩ := rps_at (ra.evo s g) (e1 vs (sa g))
    obtain ⟨d2, q2, r2⟩ := rps_at (rb.evo s g) (e2 us (sb g))
    exact ⟨grow_tup s' hT, sok_new s' hT, _, zip_get q1 q2, rp_tup s' hT (.cons r1 (.cons r2 .nil))⟩
theorem iter_enm {a : Addr} {vs : List V} {xs : List D} (fa : F a) (ha : H a = some (.lst vs)) (ra : Rps L A F H xs vs) (s : SOk L A F H) (hn : vs.length ≤ sizeLine) :
    IterOk L A (Ite L.K a) F H (enmD xs) := by
  have sa : ∀ {F' H'}, Evo A F H F' H' → SqL L.K H' a vs := fun g => .inl (.inl (g.h _ _ ha (fun z => s.s (z ▸ fa)) (.inl fa)))
  have la := ra.length
  have hl : (enmD xs).length = xs.length := by unfold enmD zipD intsR; simp
  have W := walk_enum (K := L.K) (a := a) (xs := vs)
  refine ⟨by omega, fun F' H' i g s' hi => W.goes i H' (by omega) (sa g), fun F' H' g s' => ?_, fun F' H' i x H'' g s' hi y => ?_⟩
  · rw [hl, la]; exact W.stops H' (sa g)
  · obtain ⟨T, u1, u2, rfl, hT, rfl, e1, e2⟩ := W.yields i H' x H'' (by omega) (sa g) y
    cases e1
    obtain ⟨d2, q2, r2⟩ := rps_at (ra.evo s g) e2
    refine ⟨grow_tup s' hT, sok_new s' hT, _, zip_get (x := .int (i : Nat)) ?_ q2, rp_tup s' hT (.cons (.int _) (.cons r2 .nil))⟩
    unfold intsR
    have : i < xs.length := by omega
    simp [this]

/-! ### iterables -/
theorem PI.weak {tg e : Expr} {t t' : TI} (h : PI X tg e t) (m : ∀ σ H R, t' σ H R → t σ H R) : PI X tg e t' := ⟨fun pins s σ H R I q => h.run pins s σ H R I (m σ H R q)⟩
theorem PE.weak {e : Expr} {t t' : TE} (h : PE X e t) (m : ∀ σ H Q, t' σ H Q → t σ H Q) : PE X e t' := ⟨fun pins s σ H Q I q => h.run pins s σ H Q I (m σ H Q q)⟩
theorem PT.weak {e : Expr} {t t' : TT} (h : PT X e t) (m : ∀ σ H Q, t' σ H Q → t σ H Q) : PT X e t' := ⟨fun pins s σ H Q I q => h.run pins s σ H Q I (m σ H Q q)⟩
theorem PW.weak {e : Expr} {t t' : TT} (h : PW X e t) (m : ∀ σ H Q, t' σ H Q → t σ H Q) : PW X e t' := ⟨fun wh pins s σ H Q I q => h.run wh pins s σ H Q I (m σ H Q q)⟩
theorem PA.weak {e : List Expr} {t t' : TA} (h : PA X e t) (m : ∀ σ H Q, t' σ H Q → t σ H Q) : PA X e t' := ⟨fun p pins s σ H Q I q => h.run p pins s σ H Q I (m σ H Q q)⟩
theorem PTs.weak {e : List Expr} {t t' : TT} (h : PTs X e t) (m : ∀ σ H Q, t' σ H Q → t σ H Q) : PTs X e t' := ⟨fun pins s σ H Q I q => h.run pins s σ H Q I (m σ H Q q)⟩
theorem PG.weak {e : Expr} {t t' : L2.TG} (h : PG X e t) (m : ∀ v σ H Q, t' v σ H Q → t v σ H Q) : PG X e t' := ⟨fun pins s σ H v u Q I r q => h.run pins s σ H v u Q I r (m v σ H Q q)⟩
/-- a list or a tuple, walked -/
def iSeq (K : PySem.W.Frag) (tl : TE) : TI := fun σ H R => tl σ H fun x H1 => ∃ a, x = .ref a ∧ ((∃ xs, SqL K H1 a xs ∧ (xs.length ≤ sizeLine → R (Itl K a) H1)) ∨ (∃ xs, SqT K H1 a xs ∧ (xs.length ≤ sizeLine → R (Itt K a) H1)))
theorem pi_seq {tg l : Expr} {tl : TE} (hl : PE X l tl) : PI X tg l (iSeq X.K tl) := by
  refine ⟨fun pins s σ H R I h => ?_⟩
  refine thn (hl.run pins s σ H _ I h) fun v s1 ⟨x, H1, I1, r1, q1⟩ => ?_
  obtain ⟨a, e, q⟩ := q1
  subst e
  cases r1
  have fp : ∀ b, b ∈ [s1.heap.objs.size] → FpOk X pins H1 b := fun b hb => by
    have e : b = s1.heap.objs.size := by simpa using hb
    subst e
    exact I1.fpOk (Nat.le_refl _) (I1.hok.fresh (Nat.le_refl _))
  rcases q with ⟨xs, hq, q⟩ | ⟨xs, hq, q⟩
  · obtain ⟨its, rv, p, hz⟩ := I1.list hq
    exact wpAny_pyIter_list p.isList ⟨s1.heap.objs.size, [s1.heap.objs.size], _, _, H1, rfl, I1.kept (t' := s1.toks) fun b o e => Heap.get?_push_of_some _ e, turn_list a _, ⟨_, Heap.get?_push_size _ rfl, rfl, rfl⟩, fp, q hz⟩
  · obtain ⟨its, rv, p, hz⟩ := I1.tuple hq
    exact wpAny_pyIter_tuple (show s1.heap.IsTuple a its.toArray from p) ⟨s1.heap.objs.size, [s1.heap.objs.size], _, _, H1, rfl, I1.kept (t' := s1.toks) fun b o e => Heap.get?_push_of_some _ e, turn_tuple a _, ⟨_, Heap.get?_push_size _ rfl, rfl, rfl⟩, fp, q hz⟩
/-- a value that a loop walks: the wish tells its items -/
theorem pi_val (hK : L.K = X.K) {tg l : Expr} {m : Env → W D} (hl : PE X l (rd L m)) : PI X tg l (rdI L m) := by
  refine PI.weak (pi_seq hl) fun σ H R ⟨A, F, env, e, Qd, hm, he, hs, hq⟩ => ?_
  refine ⟨A, F, env, e, _, hm, fun x q => he x q, fun F' H' d v g s r q => ?_⟩
  obtain ⟨items, z | z⟩ := hs d q
  · subst z
    cases r with
    | tup ha ra =>
      rename_i a vs
      refine ⟨a, rfl, .inr ⟨vs, by rw [← hK]; exact ha, fun hz => ?_⟩⟩
      have := hq F' H' _ items _ g s (.inr rfl) (iter_tup ha ra s hz) q
      rw [hK] at this
      exact this
  · subst z
    cases r with
    | lst fa ha ra =>
      rename_i a vs
      refine ⟨a, rfl, .inl ⟨vs, .inl (.inl ha), fun hz => ?_⟩⟩
      have := hq F' H' _ items _ g s (.inl rfl) (iter_list fa ha ra s hz) q
      rw [hK] at this
      exact this

/-! ### lists of arguments -/
theorem SndL.one {n : Nat} {w : W D} {Q : List V → Hp → Prop} (h : SndL L A F H n w Q) : SndL L A F H n w Q := h
theorem pi_rng1D (hK : L.K = X.K) {tg e : Expr} {p pos : Pos} {m : Env → W D} (hg : Gl X "range") (hm : X.mg "range" = none) (he : PE X e (rd L m)) (hs : starEach [e] X.env = [(false, eval e X.env)]) :
    PI X tg (.Call (.Name "range" p) [e] [] pos) (rdI L fun env => W.bind (m env) fun x => asI x fun j => rngD 0 j) := by
  refine PI.weak (pi_range1 hg hm (pa_cons he pa_nil hs) hs) fun σ H R ⟨A, F, env, ek, Qd, hm, hr, hd, hq⟩ => ?_
  refine ⟨A, F, env, ek, _, hm, fun x q => hr x q, fun F' H' d v g s r q => ?_⟩
  have q' : asI d (fun j => rngD 0 j) Qd := q
  cases r <;> try exact False.elim q'
  case int j =>
    replace q' : rngD 0 j Qd := q'
    unfold rngD at q'
    split at q'
    · rename_i c
      refine ⟨j, rfl, c.2.2.1, c.2.2.2.1, ?_⟩
      have e0 : (j - 0).toNat = j.toNat := by simp
      rw [e0] at q' c
      exact hq F' H' _ _ _ g s (.inl rfl) (iter_rng c.2.2.2.2) q'
    · exact False.elim q'
theorem pi_rng2D (hK : L.K = X.K) {tg e e2 : Expr} {p pos : Pos} {m m2 : Env → W D} (hg : Gl X "range") (hm : X.mg "range" = none) (he : PE X e (rd L m)) (he2 : PE X e2 (rd L m2))
    (hs : starEach [e, e2] X.env = [(false, eval e X.env), (false, eval e2 X.env)]) (hs2 : starEach [e2] X.env = [(false, eval e2 X.env)]) :
    PI X tg (.Call (.Name "range" p) [e, e2] [] pos) (rdI L fun env => W.bind (m env) fun x => W.bind (m2 env) fun y => ii x y fun i j => rngD i j) := by
  refine PI.weak (pi_range2 hg hm (pa_cons he (pa_cons he2 pa_nil hs2) (by rw [hs, hs2])) hs hs2) fun σ H R ⟨A, F, env, ek, Qd, hm, hr, hd, hq⟩ => ?_
  refine ⟨A, F, env, ek, _, hm, fun x q => hr x q, fun F1 H1 d v g s r q => ?_⟩
  refine ⟨A, F1, env, ek.grow g s, _, q, fun x q => hr x q, fun F2 H2 d2 v2 g2 s2 r2 q2 => ?_⟩
  replace q2 : ii d d2 (fun i j => rngD i j) Qd := q2
  cases r <;> cases r2 <;> try exact False.elim q2
  case int.int i j =>
    replace q2 : rngD i j Qd := q2
    unfold rngD at q2
    split at q2
    · rename_i c
      exact ⟨i, j, rfl, ⟨c.1, c.2.1, c.2.2.1, c.2.2.2.1⟩, hq F2 H2 _ _ _ (g.trans s g2) s2 (.inl rfl) (iter_rng c.2.2.2.2) q2⟩
    · exact False.elim q2
/-- sizes that the state itself bounds -/
theorem PA.seq {es : List Expr} {ta : TA} (ha : PA X es ta) : PA X es fun σ H Q => ta σ H fun vs H1 => (∀ a xs, (SqL X.K H1 a xs ∨ SqT X.K H1 a xs) → xs.length ≤ sizeLine) → Q vs H1 := by
  refine ⟨fun pos pins s σ H Q I q => thn (ha.run pos pins s σ H _ I q) fun us s1 ⟨vs, H1, I1, r1, q1⟩ => ⟨vs, H1, I1, r1, q1 fun a xs h => ?_⟩⟩
  rcases h with h | h
  · obtain ⟨_, _, _, z⟩ := I1.list h
    exact z
  · obtain ⟨_, _, _, z⟩ := I1.tuple h
    exact z
theorem pi_zipD (hK : L.K = X.K) {e e2 : Expr} {p pos tpos : Pos} {elts : List Expr} {kk : Nat} {m m2 : Env → W D} (hg : Gl X "zip") (hm : X.mg "zip" = none) (he : PE X e (rd L m)) (he2 : PE X e2 (rd L m2))
    (hs : starEach [e, e2] X.env = (false, eval e X.env) :: starEach [e2] X.env) (hs2 : starEach [e2] X.env = [(false, eval e2 X.env)]) :
    PI X (.Tuple elts kk tpos) (.Call (.Name "zip" p) [e, e2] [] pos) (rdI L fun env => W.bind (m env) fun x => W.bind (m2 env) fun y => zipW x y) := by
  refine PI.weak (RZ.pi_zipA hg hm (PA.seq (pa_cons he (pa_cons he2 pa_nil hs2) hs)) hs (by rw [hs2]; rfl)) fun σ H R ⟨A, F, env, ek, Qd, hm, hr, hd, hq⟩ => ?_
  refine ⟨A, F, env, ek, _, hm, fun x q => hr x q, fun F1 H1 d v g s r q => ?_⟩
  refine ⟨A, F1, env, ek.grow g s, _, q, fun x q => hr x q, fun F2 H2 d2 v2 g2 s2 r2 q2 bd => ?_⟩
  replace q2 : zipW d d2 Qd := q2
  have r1 := r.grow s g2
  clear r
  cases r1 <;> cases r2 <;> try exact False.elim q2
  case tup.tup a vs xs ha ra b us ys hb rb =>
    rw [hK] at ha hb
    refine ⟨a, b, vs, us, rfl, .inr ⟨ha, hb, ?_⟩⟩
    have := hq F2 H2 _ _ _ (g.trans s g2) s2 (.inl rfl) (iter_zipT (by rw [hK]; exact ha) ra (by rw [hK]; exact hb) rb s2 (bd a vs (.inr ha))) q2
    rw [hK] at this
    exact this
  case lst.lst a vs xs fa ha ra b us ys fb hb rb =>
    refine ⟨a, b, vs, us, rfl, .inl ⟨.inl (.inl ha), .inl (.inl hb), ?_⟩⟩
    have := hq F2 H2 _ _ _ (g.trans s g2) s2 (.inl rfl) (iter_zipL fa ha ra fb hb rb s2 (bd a vs (.inl (.inl (.inl ha))))) q2
    rw [hK] at this
    exact this
theorem pi_enmD (hK : L.K = X.K) {e : Expr} {p pos tpos : Pos} {elts : List Expr} {kk : Nat} {m : Env → W D} (hg : Gl X "enumerate") (hm : X.mg "enumerate" = none) (he : PE X e (rd L m))
    (hs : starEach [e] X.env = [(false, eval e X.env)]) :
    PI X (.Tuple elts kk tpos) (.Call (.Name "enumerate" p) [e] [] pos) (rdI L fun env => W.bind (m env) fun x => enmW x) := by
  refine PI.weak (pi_enum hg hm (PA.seq (pa_cons he pa_nil hs)) hs) fun σ H R ⟨A, F, env, ek, Qd, hm, hr, hd, hq⟩ => ?_
  refine ⟨A, F, env, ek, _, hm, fun x q => hr x q, fun F1 H1 d v g s r q bd => ?_⟩
  replace q : enmW d Qd := q
  cases r <;> try exact False.elim q
  case lst a vs xs fa ha ra =>
    refine ⟨a, vs, rfl, .inl (.inl ha), ?_⟩
    have := hq F1 H1 _ _ _ g s (.inl rfl) (iter_enm fa ha ra s (bd a vs (.inl (.inl (.inl ha))))) q
    rw [hK] at this
    exact this

/-! ### targets -/
def gD (L : Lay) (tg : TG) : L2.TG := fun v σ H Q => ∃ A F d env env', EOk L A F σ H env ∧ Rp L A F H d v ∧ bindO tg d env = some env' ∧
  ∀ σ', EOk L A F σ' H env' → (∀ j, j ∉ tg.slots → σ'[j]? = σ[j]?) → Q σ' H
theorem EOk.set {env : Env} {d : D} {v : V} {i : Nat} (e : EOk L A F σ H env) (r : Rp L A F H d v) : EOk L A F (σ.set i (some v)) H (env.set i (some d)) := by
  refine ⟨e.s, by rw [List.length_set, List.length_set]; exact e.l, fun j x h => ?_⟩
  by_cases hj : i = j
  · subst hj
    by_cases hl : i < env.length
    · rw [List.getElem?_set_self hl] at h
      cases h
      exact ⟨v, by rw [List.getElem?_set_self (by rw [e.l]; exact hl)], r⟩
    · rw [List.getElem?_eq_none (by rw [List.length_set]; omega)] at h; cases h
  · rw [List.getElem?_set_ne hj] at h ⊢
    exact e.e j x h
theorem pg_nmD {i : Nat} {x : Str} {pos : Pos} (hN : X.N.Nodup) (hi : X.N[i]? = some x) (hx : Loc X.env.scope x) (hf : X.fn x = true ∨ X.env.scope.names.lookup x = some .local) : PG X (.Name x pos) (gD L (.nm i)) := by
  refine PG.weak (pg_name hN hi hx hf) fun v σ H Q ⟨A, F, d, env, env', e, r, b, q⟩ => ?_
  cases b
  refine q _ (e.set r) fun j hj => ?_
  rw [List.getElem?_set_ne fun z => hj (by rw [← z]; exact List.mem_singleton_self _)]
def gsD (L : Lay) (is : List Nat) : L2.TGs := fun vs σ H Q => ∃ A F ds env env', EOk L A F σ H env ∧ Rps L A F H ds vs ∧ bindN is ds env = some env' ∧
  ∀ σ', EOk L A F σ' H env' → (∀ j, j ∉ is → σ'[j]? = σ[j]?) → Q σ' H
theorem PGs.weak {e : List Expr} {t t' : L2.TGs} (h : PGs X e t) (m : ∀ v σ H Q, t' v σ H Q → t v σ H Q) : PGs X e t' := ⟨fun pins s σ H v u Q I r q => h.run pins s σ H v u Q I r (m v σ H Q q)⟩
/-- the names of a target -/
def tgNames (N : List Str) (sc : Scope) (okc : Str → Bool) : List Nat → List Expr → Bool
  | [], [] => true
  | i :: is, .Name x _ :: es => decide (N[i]? = some x) && (decide (sc.names.lookup x = some .local) || okc x) && tgNames N sc okc is es
  | _, _ => false
theorem pgs_D (hN : X.N.Nodup) {okc : Str → Bool} (hf : ∀ x, okc x = true → X.env.scope.names.lookup x = some .cell ∧ X.fn x = true) : ∀ {is : List Nat} {es : List Expr}, tgNames X.N X.env.scope okc is es = true → PGs X es (gsD L is) ∧ (assignEach es X.env).length = is.length ∧ (assignEach es X.env).findIdx? (·.1) = none
  | [], [], _ => by
    refine ⟨PGs.weak pgs_nil fun v σ H Q ⟨A, F, d, env, env', e, r, b, q⟩ => ?_, rfl, rfl⟩
    cases d with
    | nil =>
      cases r
      cases b
      exact ⟨rfl, q _ e fun _ _ => rfl⟩
    | cons _ _ => cases b
  | i :: is, .Name x p :: es, h => by
    unfold tgNames at h
    simp only [Bool.and_eq_true, Bool.or_eq_true, decide_eq_true_eq] at h
    obtain ⟨⟨h1, h2⟩, h3⟩ := h
    obtain ⟨ih, l, f⟩ := pgs_D hN hf h3
    have hx : Loc X.env.scope x := h2.imp id fun z => (hf x z).1
    have hfx : X.fn x = true ∨ X.env.scope.names.lookup x = some .local := by
      rcases h2 with z | z
      · exact .inr z
      · exact .inl (hf x z).2
    refine ⟨PGs.weak (pgs_cons (pg_name hN h1 hx hfx) ih (by rfl)) fun v σ H Q ⟨A, F, d, env, env', e, r, b, q⟩ => ?_, ?_, ?_⟩
    · cases r with
      | nil => cases b
      | cons r rr =>
        refine ⟨_, _, rfl, A, F, _, _, env', e.set r, rr, b, fun σ' e' k => q σ' e' fun j hj => ?_⟩
        rw [k j fun z => hj (List.mem_cons_of_mem _ z), List.getElem?_set_ne fun z => hj (by rw [← z]; exact List.mem_cons_self)]
    · show (assignEach es X.env).length + 1 = is.length + 1
      rw [l]
    · show ((false, _) :: assignEach es X.env).findIdx? (·.1) = none
      rw [List.findIdx?_cons]
      simp [f]
theorem bindN_len : ∀ {is : List Nat} {ds : List D} {env env' : Env}, bindN is ds env = some env' → ds.length = is.length
  | [], [], _, _, _ => rfl
  | _ :: is, _ :: ds, _, _, h => by
    rw [List.length_cons, List.length_cons, bindN_len (is := is) (ds := ds) h]
  | [], _ :: _, _, _, h => by cases h
  | _ :: _, [], _, _, h => by cases h
def chkTG (N : List Str) (sc : Scope) (okc : Str → Bool) : TG → Expr → Bool
  | .nm i, .Name x p => tgNames N sc okc [i] [.Name x p]
  | .tp is, .Tuple es _ _ => tgNames N sc okc is es
  | _, _ => false
theorem pg_D (hK : L.K = X.K) (hc : X.calm = true) (hN : X.N.Nodup) {okc : Str → Bool} (hf : ∀ x, okc x = true → X.env.scope.names.lookup x = some .cell ∧ X.fn x = true) {tg : TG} {e : Expr} (h : chkTG X.N X.env.scope okc tg e = true) : PG X e (gD L tg) := by
  cases tg with
  | nm i =>
    cases e <;> try exact absurd (show false = true from h) Bool.false_ne_true
    case Name x p =>
      unfold chkTG tgNames at h
      simp only [Bool.and_eq_true, Bool.or_eq_true, decide_eq_true_eq] at h
      obtain ⟨⟨h1, h2⟩, _⟩ := h
      refine pg_nmD hN h1 (h2.imp id fun z => (hf x z).1) ?_
      rcases h2 with z | z
      · exact .inr z
      · exact .inl (hf x z).2
  | tp is =>
    cases e <;> try exact absurd (show false = true from h) Bool.false_ne_true
    case Tuple es k p =>
      obtain ⟨g, l, f⟩ := pgs_D (L := L) hN hf (show tgNames X.N X.env.scope okc is es = true from h)
      refine PG.weak (pg_tup hc g l f) fun v σ H Q ⟨A, F, d, env, env', e, r, b, q⟩ => ?_
      cases d <;> try exact absurd (show none = some env' from b) (fun z => nomatch z)
      case tup ds =>
        cases r with
        | tup ha ra =>
          refine ⟨_, _, rfl, by rw [← hK]; exact ha, ?_, A, F, ds, env, env', e, ra, b, q⟩
          rw [← ra.length]
          exact bindN_len (show bindN is ds env = some env' from b)
end
end PV
/-! PV, part e: comprehensions. -/
namespace PV
open PySem PySem.Spec PyProof.Rows L2

theorem wipe_get (σ : L2.St) : ∀ (vs : List Nat) (j : Nat), (wipe σ vs)[j]? = if j ∈ vs then (σ[j]?).map (fun _ => none) else σ[j]?
  | [], j => by simp [wipe]
  | v :: vs, j => by
    unfold wipe
    by_cases e : v = j
    · subst e
      rw [if_pos List.mem_cons_self]
      by_cases h : v < (wipe σ vs).length
      · rw [List.getElem?_set_self h]
        rw [wipe_length] at h
        rw [List.getElem?_eq_getElem h]; rfl
      · rw [List.getElem?_eq_none (by rw [List.length_set]; omega)]
        rw [wipe_length] at h
        rw [List.getElem?_eq_none (by omega)]; rfl
    · rw [List.getElem?_set_ne e, wipe_get σ vs j]
      have : (j ∈ v :: vs) ↔ j ∈ vs := by
        constructor
        · intro h
          rcases List.mem_cons.mp h with z | z
          · exact absurd z.symm e
          · exact z
        · exact List.mem_cons_of_mem _
      by_cases h : j ∈ vs
      · rw [if_pos h, if_pos (this.mpr h)]
      · rw [if_neg h, if_neg fun z => h (this.mp z)]
theorem wipe_same {σ σ' : L2.St} {vs : List Nat} (h : ∀ j, j ∉ vs → σ'[j]? = (wipe σ vs)[j]?) (l : σ'.length = σ.length) : wipe σ' vs = wipe σ vs := by
  refine List.ext_getElem? fun j => ?_
  rw [wipe_get, wipe_get]
  by_cases hj : j ∈ vs
  · rw [if_pos hj, if_pos hj]
    by_cases hl : j < σ.length
    · rw [List.getElem?_eq_getElem hl, List.getElem?_eq_getElem (by omega)]; rfl
    · rw [List.getElem?_eq_none (by omega), List.getElem?_eq_none (by omega)]
  · rw [if_neg hj, if_neg hj, h j hj, wipe_get, if_neg hj]
theorem wipeE_length (env : Env) : ∀ vs : List Nat, (wipeE env vs).length = env.length
  | [] => rfl
  | v :: vs => by unfold wipeE; rw [List.length_set, wipeE_length env vs]
theorem wipeE_some {env : Env} {i : Nat} {x : D} : ∀ {vs : List Nat}, (wipeE env vs)[i]? = some (some x) → env[i]? = some (some x) ∧ i ∉ vs
  | [], h => ⟨h, by simp⟩
  | v :: vs, h => by
    unfold wipeE at h
    by_cases hi : v = i
    · subst hi
      by_cases hv : v < (wipeE env vs).length
      · rw [List.getElem?_set_self hv] at h; cases h
      · rw [List.getElem?_eq_none (by rw [List.length_set]; omega)] at h; cases h
    · rw [List.getElem?_set_ne hi] at h
      obtain ⟨h1, h2⟩ := wipeE_some h
      exact ⟨h1, by simp only [List.mem_cons, not_or]; exact ⟨fun e => hi e.symm, h2⟩⟩
theorem bindN_length : ∀ {is : List Nat} {ds : List D} {env env' : Env}, bindN is ds env = some env' → env'.length = env.length
  | [], [], _, _, h => by cases h; rfl
  | i :: is, d :: ds, env, env', h => by
    have := bindN_length (is := is) (ds := ds) h
    rw [this, List.length_set]
  | [], _ :: _, _, _, h => by cases h
  | _ :: _, [], _, _, h => by cases h
theorem bindO_length {tg : TG} {d : D} {env env' : Env} (h : bindO tg d env = some env') : env'.length = env.length := by
  cases tg with
  | nm i => cases h; rw [List.length_set]
  | tp is =>
    cases d <;> try exact absurd (show none = some env' from h) (fun z => nomatch z)
    case tup ds => exact bindN_length (show bindN is ds env = some env' from h)

section
variable {L : Lay} {A : Ad} {F F' F1 F2 F3 : Reg} {H H' H1 H2 H3 : Hp} {σ : L2.St} {Q Q' : VK} {X : Cx} {env : Env}
theorem EOk.wipe (e : EOk L A F σ H env) (vs : List Nat) : EOk L A F (L2.wipe σ vs) H (wipeE env vs) := by
  refine ⟨e.s, by rw [wipe_length, wipeE_length]; exact e.l, fun i d h => ?_⟩
  obtain ⟨h1, h2⟩ := wipeE_some h
  obtain ⟨v, q, r⟩ := e.e i d h1
  exact ⟨v, by rw [wipe_get, if_neg h2]; exact q, r⟩

theorem EOk.evo (e : EOk L A F σ H env) (g : Evo A F H F' H') (s : SOk L A F' H') : EOk L A F' σ H' env :=
  ⟨s, e.l, fun i d q => let ⟨v, h, r⟩ := e.e i d q; ⟨v, h, r.evo e.s g⟩⟩
/-- a list of our own at p: outside of the region -/
theorem evo_own {p : Addr} {vs : List V} {o : HO} (nf : ¬ F p) (hp : H p = some (.lst vs)) : Evo A F H F (upd H p o) := by
  refine ⟨fun _ h => h, fun a x h _ q => ?_⟩
  have : a ≠ p := fun z => by
    subst z
    rcases q with q | q
    · exact nf q
    · rw [hp] at h; cases h; exact q _ rfl
  rw [upd_ne this]; exact h
theorem sok_own {p : Addr} {vs : List V} {o : HO} (s : SOk L A F H) (nf : ¬ F p) (hp : H p = some (.lst vs)) (ne : p ≠ A.S) : SOk L A F (upd H p o) := by
  refine ⟨fun a f => ?_, s.s, s.t.at s.s (evo_own nf hp) (upd_ne ne.symm)⟩
  rw [upd_ne (show a ≠ p from fun z => by subst z; exact nf f)]
  exact s.d a f
/-- .. since H1, where it was not there; it holds ys -/
structure Acc (L : Lay) (A : Ad) (F1 : Reg) (H1 : Hp) (p : Addr) (F : Reg) (H : Hp) (ys : List D) (vs : List V) : Prop where
  n : H1 p = none
  g : Grow A F1 H1 F H
  s : SOk L A F H
  nf : ¬ F p
  at_ : H p = some (.lst vs)
  r : Rps L A F H ys vs
  ne : p ≠ A.S
theorem Acc.start {p : Addr} (s : SOk L A F1 H1) (hp : H1 p = none) : Acc L A F1 H1 p F1 (upd H1 p (.lst [])) [] [] :=
  ⟨hp, grow_tup s hp, sok_new s hp, fun f => s.d _ f hp, upd_same, .nil, (ne_S s hp).symm⟩
theorem Acc.grow {p : Addr} {ys : List D} {vs : List V} (a : Acc L A F1 H1 p F2 H2 ys vs) (g : Grow A F2 H2 F3 H3) (s : SOk L A F3 H3) : Acc L A F1 H1 p F3 H3 ys vs :=
  ⟨a.n, a.g.trans a.s g, s, fun f => (g.n _ f).elim a.nf fun z => (by rw [a.at_] at z; cases z), g.h _ _ a.at_ a.ne, a.r.grow a.s g, a.ne⟩
theorem Acc.app {p : Addr} {ys : List D} {vs : List V} {d : D} {v : V} (a : Acc L A F1 H1 p F2 H2 ys vs) (r : Rp L A F2 H2 d v) : Acc L A F1 H1 p F2 (upd H2 p (.lst (vs ++ [v]))) (ys ++ [d]) (vs ++ [v]) :=
  ⟨a.n, ⟨a.g.f, a.g.n, fun b o h z => by rw [upd_ne (ne_of_none h a.n)]; exact a.g.h b o h z⟩, sok_own a.s a.nf a.at_ a.ne, a.nf, upd_same,
    (a.r.evo a.s (evo_own a.nf a.at_)).append (.single (r.evo a.s (evo_own a.nf a.at_))), a.ne⟩

/-- a fresh list comes -/
def SndF (L : Lay) (A : Ad) (F : Reg) (H : Hp) (w : W D) (Q : VK) : Prop := ∃ Qd : Except Exn D → Prop, w Qd ∧ (∀ e, ¬ Qd (.error e)) ∧ (∀ d, Qd (.ok d) → ∃ ds, d = .lst ds) ∧
  ∀ F' H' p ds vs, Acc L A F H p F' H' ds vs → Qd (.ok (.lst ds)) → Q (.ref p) H'
def rdF (L : Lay) (m : Env → W D) : TE := fun σ H Q => ∃ A F env, EOk L A F σ H env ∧ SndF L A F H (m env) Q
/-- what is fresh may be frozen -/
theorem rd_of_rdF {e : Expr} {m : Env → W (List D)} (h : PE X e (rdF L fun env => W.bind (m env) fun ys => W.ret (.lst ys))) : PE X e (rd L fun env => W.bind (m env) fun ys => W.ret (.lst ys)) := by
  refine PE.weak h fun σ H Q ⟨A, F, env, ek, Qd, hm, hr, hq⟩ => ?_
  refine ⟨A, F, env, ek, (fun r => match r with | .error e => Qd (.error e) | .ok (.lst ds) => Qd (.ok (.lst ds)) | .ok _ => False), hm, fun x q => hr x q, fun d q => ?_, fun F' H' p ds vs a q => ?_⟩
  · cases d <;> first | exact ⟨_, rfl⟩ | exact False.elim q
  · refine hq (addR F' p) H' (.lst ds) (.ref p) ⟨fun b f => .inl (a.g.f b f), fun b f => f.elim (a.g.n b) fun z => .inr (z ▸ a.n), a.g.h⟩ (sok_add a.s a.at_ a.ne) (.lst (.inr rfl) a.at_ (a.r.evo a.s evo_add)) q

/-- the items so far, and those to come -/
def tailW (ys : List D) (m : W (List D)) : W (List D) := W.bind m fun zs => W.ret (ys ++ zs)
theorem tail_step {f : D → W (List D)} {items : List D} {i : Nat} {d : D} {ys : List D} (e : items[i]? = some d) :
    tailW ys (flatW f (items.drop i)) = W.bind (f d) fun ys1 => tailW (ys ++ ys1) (flatW f (items.drop (i + 1))) := by
  obtain ⟨hi, e⟩ := List.getElem?_eq_some_iff.mp e
  rw [List.drop_eq_getElem_cons hi, e]
  unfold tailW
  rw [flatW, W.bind_assoc]
  congr 1
  funext ys1
  rw [W.bind_assoc]
  simp only [W.ret_bind, List.append_assoc]
theorem tail_nil (m : W (List D)) : tailW [] m = m := by
  unfold tailW
  simp only [List.nil_append]
  exact W.bind_ret m

/-- what a turn of a comprehension (its innermost for) does with the list at p -/
theorem turn_ok {tg : TG} {own : List Nat} {mc me : Env → W D} {d : D} {x : V} {p : Addr} {ys : List D} {us : List V} {F0 : Reg} {H0 : Hp} {Qr : Except Exn (List D) → Prop} {Nx : Hp → Prop}
    (e : EOk L A F2 σ H2 env) (a : Acc L A F0 H0 p F2 H2 ys us) (r : Rp L A F2 H2 d x) (hz : us.length < sizeLine) (hs : ∀ j ∈ tg.slots, j ∈ own)
    (h : compF tg own mc me env d Qr) (he : ∀ e, ¬ Qr (.error e))
    (h0 : ∀ F3 H3, Acc L A F0 H0 p F3 H3 ys us → Evo A F2 H2 F3 H3 → Qr (.ok []) → Nx H3)
    (h1 : ∀ F3 H3 y v, Acc L A F0 H0 p F3 H3 (ys ++ [y]) (us ++ [v]) → Evo A F2 H2 F3 H3 → Qr (.ok [y]) → Nx H3) :
    gD L tg x (wipe σ own) H2 fun σ2 H3 => wipe σ2 own = wipe σ own ∧ rdB L mc σ2 H3 fun b H4 =>
      if b = true then rd L me σ2 H4 fun y H5 => ∃ acc, H5 p = some (.lst acc) ∧ acc.length < sizeLine ∧ Nx (upd H5 p (.lst (acc ++ [y]))) else Nx H4 := by
  unfold compF at h
  unfold bindT at h
  cases eb : bindO tg d (wipeE env own) with
  | none => rw [eb] at h; exact False.elim h
  | some env1 =>
    rw [eb] at h
    replace h : mc env1 _ := h
    refine ⟨A, F2, d, wipeE env own, env1, e.wipe own, r, eb, fun σ' e' k => ⟨?_, ?_⟩⟩
    · refine wipe_same (fun j hj => k j fun z => hj (hs j z)) ?_
      rw [e'.l, bindO_length eb, wipeE_length, e.l]
    · refine ⟨A, F2, env1, e', _, h, fun x q => he x q, fun F3 H3 dv v g3 s3 r3 q3 => ?_⟩
      have a3 := a.grow g3 s3
      cases dv <;> try exact False.elim q3
      case bl b =>
        cases r3
        cases b with
        | false =>
          exact ⟨false, rfl, iteF (h0 F3 H3 a3 g3.evo q3)⟩
        | true =>
          refine ⟨true, rfl, iteT ?_⟩
          replace q3 : me env1 _ := q3
          refine ⟨A, F3, env1, e'.grow g3 s3, _, q3, fun x q => he x q, fun F4 H4 y vy g4 s4 r4 q4 => ?_⟩
          have a4 := a3.grow g4 s4
          exact ⟨us, a4.at_, hz, h1 F4 _ y vy (a4.app r4) ((g3.trans s3 g4).evo.trans (evo_own a4.nf a4.at_)) q4⟩

theorem comp_le {own : List Nat} {t : TG} {mi mc me : Env → W D} (hsl : ∀ j ∈ t.slots, j ∈ own) {σ : L2.St} {H : Hp} {Q : VK}
    (h : rdF L (fun env => W.bind (mi env) fun v => W.bind (itemsD v) fun xs => W.bind (flatW (compF t own mc me env) xs) fun ys => W.ret (.lst ys)) σ H Q) :
    tLc (rdI L mi) (gD L t) (rdB L mc) (rd L me) own σ H Q := by
  obtain ⟨A, F, env, ek, Qd, hm, hr, hl, hq⟩ := h
  refine ⟨A, F, env, ek, _, hm, fun x q => hr x q, fun d q => ?_, fun F1 H1 d items J g1 s1 hd io q1 p hp => ?_⟩
  · cases d <;> first | exact ⟨_, .inl rfl⟩ | exact ⟨_, .inr rfl⟩ | exact False.elim q
  have q1 : W.bind (flatW (compF t own mc me env) items) (fun ys => W.ret (.lst ys)) Qd := by
    rcases hd with rfl | rfl <;> exact q1
  refine ⟨fun i m H2 => m = items.length - i ∧ i ≤ items.length ∧ ∃ F2 ys us, Acc L A F1 H1 p F2 H2 ys us ∧ us.length ≤ i ∧ W.bind (tailW ys (flatW (compF t own mc me env) (items.drop i))) (fun ys => W.ret (.lst ys)) Qd,
    ⟨items.length, by simp, Nat.zero_le _, F1, [], [], .start s1 hp, Nat.zero_le _, by rw [tail_nil]; exact q1⟩, ?_⟩
  rintro i m H2 ⟨rfl, hi2, F2, ys, us, a, hus, q2⟩
  by_cases hlt : i < items.length
  · refine .inr ⟨io.go F2 H2 i a.g.evo a.s hlt, fun H3 => ∃ F3 ys us, Acc L A F1 H1 p F3 H3 ys us ∧ us.length ≤ i + 1 ∧ W.bind (tailW ys (flatW (compF t own mc me env) (items.drop (i + 1)))) (fun ys => W.ret (.lst ys)) Qd,
      fun H3 ⟨F3, ys3, us3, a3, h3, q3⟩ => ⟨items.length - (i + 1), by omega, rfl, hlt, F3, ys3, us3, a3, h3, q3⟩, fun x H3 hy => ?_⟩
    obtain ⟨g3, s3, d3, e3, r3⟩ := io.yd F2 H2 i x H3 a.g.evo a.s hlt hy
    have a3 := a.grow g3 s3
    have hz := io.n
    rw [tail_step e3, W.bind_assoc] at q2
    refine turn_ok (Nx := fun H3 => ∃ F3 ys us, Acc L A F1 H1 p F3 H3 ys us ∧ us.length ≤ i + 1 ∧ W.bind (tailW ys (flatW (compF t own mc me env) (items.drop (i + 1)))) (fun ys => W.ret (.lst ys)) Qd)
      ((ek.grow g1 s1).grow (a.g.trans a.s g3) s3) a3 r3 (by omega) hsl q2 (fun e q => hr e q) (fun F4 H4 a4 _ q4 => ⟨F4, ys, us, a4, by omega, ?_⟩) fun F4 H4 y v a4 _ q4 => ⟨F4, _, _, a4, by rw [List.length_append]; show us.length + 1 ≤ i + 1; omega, q4⟩
    have q5 : W.bind (tailW (ys ++ []) (flatW (compF t own mc me env) (items.drop (i + 1)))) (fun ys => W.ret (.lst ys)) Qd := q4
    rw [List.append_nil] at q5
    exact q5
  · have ei : i = items.length := by omega
    subst ei
    refine .inl ⟨io.st F2 H2 a.g.evo a.s, ?_⟩
    rw [List.drop_length] at q2
    have q3 : Qd (.ok (.lst (ys ++ []))) := q2
    rw [List.append_nil] at q3
    have hH : H p = none := by
      cases eH : H p with
      | none => rfl
      | some o =>
        have := g1.h p o eH a.ne
        rw [hp] at this; cases this
    exact hq F2 H2 p ys us ⟨hH, g1.trans s1 a.g, a.s, a.nf, a.at_, a.r, a.ne⟩ q3

theorem acc_to {p : Addr} {ys : List D} {us : List V} {F0 : Reg} {H0 : Hp} (a : Acc L A F1 H1 p F2 H2 ys us) (g1 : Grow A F0 H0 F1 H1) (s1 : SOk L A F1 H1) : Acc L A F0 H0 p F2 H2 ys us := by
  have hH : H0 p = none := by
    cases eH : H0 p with
    | none => rfl
    | some o =>
      have := g1.h p o eH a.ne
      rw [a.n] at this; cases this
  exact ⟨hH, g1.trans s1 a.g, a.s, a.nf, a.at_, a.r, a.ne⟩
theorem mul_step {i n M j l : Nat} (hi : i < n) (hM : n * M ≤ sizeLine) (hj : j < l) (hl : l ≤ M) : i * M + j < sizeLine := by
  have h1 : (i + 1) * M ≤ n * M := Nat.mul_le_mul_right _ hi
  rw [Nat.succ_mul] at h1
  omega
theorem comp2_le {own own1 : List Nat} {t t1 : TG} {mi mi1 mc me : Env → W D} (hsl : ∀ j ∈ t.slots, j ∈ own) (hsl1 : ∀ j ∈ t1.slots, j ∈ own1) {σ : L2.St} {H : Hp} {Q : VK}
    (h : rdF L (fun env => W.bind (mi env) fun v => W.bind (itemsD v) fun xs => W.bind (flatW (compF2 xs.length t own mi1 t1 own1 mc me env) xs) fun ys => W.ret (.lst ys)) σ H Q) :
    tLc2 (rdI L mi) (gD L t) tYes (rdI L mi1) (gD L t1) (rdB L mc) (rd L me) own own1 σ H Q := by
  obtain ⟨A, F, env, ek, Qd, hm, hr, hl, hq⟩ := h
  refine ⟨A, F, env, ek, _, hm, fun x q => hr x q, fun d q => ?_, fun F1 H1 d items J g1 s1 hd io q1 p hp => ?_⟩
  · cases d <;> first | exact ⟨_, .inl rfl⟩ | exact ⟨_, .inr rfl⟩ | exact False.elim q
  generalize hf : compF2 items.length t own mi1 t1 own1 mc me env = f
  have q1 : W.bind (flatW f items) (fun ys => W.ret (.lst ys)) Qd := by
    rw [← hf]
    rcases hd with rfl | rfl <;> exact q1
  by_cases hn0 : items.length = 0
  · refine ⟨fun i m H2 => i = 0 ∧ H2 = upd H1 p (.lst []), ⟨0, rfl, rfl⟩, ?_⟩
    rintro i m H2 ⟨rfl, rfl⟩
    have e0 : items = [] := List.eq_nil_of_length_eq_zero hn0
    subst e0
    have a0 : Acc L A F1 H1 p F1 (upd H1 p (.lst [])) [] [] := .start s1 hp
    exact .inl ⟨io.st F1 _ a0.g.evo a0.s, hq _ _ p [] [] (acc_to a0 g1 s1) q1⟩
  have hM : items.length * (sizeLine / items.length) ≤ sizeLine := Nat.mul_div_le _ _
  generalize hMd : sizeLine / items.length = M at hM
  let St : Nat → Hp → Prop := fun i H3 => ∃ F3 ys us, Acc L A F1 H1 p F3 H3 ys us ∧ us.length ≤ i * M ∧ W.bind (tailW ys (flatW f (items.drop i))) (fun ys => W.ret (.lst ys)) Qd
  refine ⟨fun i m H2 => m = items.length - i ∧ i ≤ items.length ∧ St i H2,
    ⟨items.length, by simp, Nat.zero_le _, F1, [], [], .start s1 hp, Nat.zero_le _, by rw [tail_nil]; exact q1⟩, ?_⟩
  rintro i m H2 ⟨rfl, hi2, F2, ys, us, a, hus, q2⟩
  by_cases hlt : i < items.length
  · refine .inr ⟨io.go F2 H2 i a.g.evo a.s hlt, St (i + 1), fun H3 st => ⟨items.length - (i + 1), by omega, rfl, hlt, st⟩, fun x H3 hy => ?_⟩
    obtain ⟨g3, s3, d3, e3, r3⟩ := io.yd F2 H2 i x H3 a.g.evo a.s hlt hy
    have a3 := a.grow g3 s3
    have ek3 := (ek.grow g1 s1).grow (a.g.trans a.s g3) s3
    rw [tail_step e3, W.bind_assoc, ← hf] at q2
    unfold compF2 bindT at q2
    cases eb : bindO t d3 (wipeE env own) with
    | none => rw [eb] at q2; exact False.elim q2
    | some env1 =>
      rw [eb] at q2
      simp only [W.ret_bind, W.bind_assoc] at q2
      refine ⟨A, F2, d3, wipeE env own, env1, ek3.wipe _, r3, eb, fun σ' e' k => ⟨?_, ?_⟩⟩
      · refine wipe_same (fun j hj => k j fun z => hj (hsl j z)) ?_
        rw [e'.l, bindO_length eb, wipeE_length, ek3.l]
      · refine iteT (B := St (i + 1) H3) ?_
        refine ⟨A, F2, env1, e', _, q2, fun x q => hr x q, fun d q => ?_, fun F4 H4 d4 items4 J4 g4 s4 hd4 io4 q4 => ?_⟩
        · cases d <;> first | exact ⟨_, .inl rfl⟩ | exact ⟨_, .inr rfl⟩ | exact False.elim q
        have q4' : (if items.length * items4.length ≤ sizeLine then flatW (compF t1 own1 mc me env1) items4 else W.fail).bind (fun ys1 => W.bind (tailW (ys ++ ys1) (flatW (compF2 items.length t own mi1 t1 own1 mc me env) (items.drop (i + 1)))) (fun ys => W.ret (.lst ys))) Qd := by
          rcases hd4 with rfl | rfl <;> exact q4
        rw [hf] at q4'
        by_cases hsz : items.length * items4.length ≤ sizeLine
        · rw [if_pos hsz] at q4'
          have hl4 : items4.length ≤ M := by
            rw [← hMd]
            exact (Nat.le_div_iff_mul_le (by omega)).mpr (by rw [Nat.mul_comm]; exact hsz)
          have a4 := a3.grow g4 s4
          generalize hf1 : compF t1 own1 mc me env1 = f1 at q4'
          let St1 : Nat → Hp → Prop := fun j H5 => ∃ F5 zs us5, Evo A F4 H4 F5 H5 ∧ Acc L A F1 H1 p F5 H5 (ys ++ zs) us5 ∧ us5.length ≤ i * M + j ∧ W.bind (tailW zs (flatW f1 (items4.drop j))) (fun ys1 => W.bind (tailW (ys ++ ys1) (flatW f (items.drop (i + 1)))) (fun ys => W.ret (.lst ys))) Qd
          refine ⟨fun j m H5 => m = items4.length - j ∧ j ≤ items4.length ∧ St1 j H5, ⟨items4.length, by simp, Nat.zero_le _, F4, [], us, .refl, by rw [List.append_nil]; exact a4, hus, by rw [tail_nil]; exact q4'⟩, ?_⟩
          rintro j m H5 ⟨rfl, hj, F5, zs, us5, ev5, a5, hus5, q5⟩
          by_cases hlt5 : j < items4.length
          · refine .inr ⟨io4.go F5 H5 j ev5 a5.s hlt5, St1 (j + 1), fun H6 st => ⟨items4.length - (j + 1), by omega, rfl, hlt5, st⟩, fun x6 H6 hy6 => ?_⟩
            obtain ⟨g6, s6, d6, e6, r6⟩ := io4.yd F5 H5 j x6 H6 ev5 a5.s hlt5 hy6
            have a6 := a5.grow g6 s6
            have ev6 := ev5.trans g6.evo
            rw [tail_step e6, W.bind_assoc, ← hf1] at q5
            refine turn_ok (Nx := St1 (j + 1)) ((e'.grow g4 s4).evo ev6 s6) a6 r6 (Nat.lt_of_le_of_lt hus5 (mul_step hlt hM hlt5 hl4)) hsl1 q5 (fun e q => hr e q)
              (fun F7 H7 a7 ev7 q7 => ⟨F7, zs, us5, ev6.trans ev7, a7, by omega, ?_⟩) fun F7 H7 y v a7 ev7 q7 => ⟨F7, zs ++ [y], us5 ++ [v], ev6.trans ev7, by rw [← List.append_assoc]; exact a7, by rw [List.length_append]; show us5.length + 1 ≤ _; omega, ?_⟩
            · have q8 : W.bind (tailW (zs ++ []) (flatW (compF t1 own1 mc me env1) (items4.drop (j + 1)))) (fun ys1 => W.bind (tailW (ys ++ ys1) (flatW f (items.drop (i + 1)))) (fun ys => W.ret (.lst ys))) Qd := q7
              rw [List.append_nil, hf1] at q8
              exact q8
            · rw [← hf1]
              exact q7
          · have ej : j = items4.length := by omega
            subst ej
            refine .inl ⟨io4.st F5 H5 ev5 a5.s, ?_⟩
            rw [List.drop_length] at q5
            have q6 : W.bind (tailW (ys ++ (zs ++ [])) (flatW f (items.drop (i + 1)))) (fun ys => W.ret (.lst ys)) Qd := q5
            rw [List.append_nil] at q6
            exact ⟨F5, ys ++ zs, us5, a5, by rw [Nat.succ_mul]; omega, q6⟩
        · rw [if_neg hsz] at q4'
          exact False.elim q4'
  · have ei : i = items.length := by omega
    subst ei
    refine .inl ⟨io.st F2 H2 a.g.evo a.s, ?_⟩
    rw [List.drop_length] at q2
    have q3 : Qd (.ok (.lst (ys ++ []))) := q2
    rw [List.append_nil] at q3
    exact hq F2 H2 p ys us (acc_to a g1 s1) q3
end
end PV
/-! PV, part f: the checker of expressions, and that what it passes is what the evaluator says. -/
namespace PV
open PySem PySem.Spec PyProof.Rows L2

/-- a def's promise by its wish -/
def spD (L : Lay) (n : Nat) (m : List D → W D) : Sp := fun vs H Q _ => vs.length = n ∧ ∃ A F ds, SOk L A F H ∧ Rps L A F H ds vs ∧ Snd L A F H (m ds) Q
structure Impl (L : Lay) (P : Program) (w : World) (mg : Str → Option Value) (base : Heap) (k : Nat) (x : Str) (m : List D → W D) : Prop where
  ex : ∃ (f : Addr) (fd : FuncData) (ps : List Str), mg x = some (.ref f) ∧ PySem.W.keepIn L.K (.ref f) = true ∧ Binds L.K fd ps [] ∧ FnOk P w L.K mg base (L2.CX P w) k f fd ps (spD L ps.length m) ∧
    ∀ (ds : List D) (Q : Except Exn D → Prop), m ds Q → ds.length = ps.length
def bnames : List Str := ["len", "tuple", "list", "sum", "int", "abs", "all", "any", "isinstance", "range", "zip", "enumerate", "bool", "str"]
structure Ctx (L : Lay) (k : Nat) (T : Tab) (X : Cx) : Prop where
  K : L.K = X.K
  calm : X.calm = true
  nd : X.N.Nodup
  room : Room k X.A
  free : ∀ x ∈ bnames, X.mg x = none
  impl : ∀ (j : Nat) (x : Str) (m : List D → W D), T[j]? = some (x, m) → Impl L X.prog X.w X.mg X.base k x m
theorem Ctx.blk {L : Lay} {k : Nat} {T : Tab} {X : Cx} (c : Ctx L k T X) (s : Shared) (H : Hp) (scope : Scope) (ce : PySem.Env) (fp : List Addr) : Ctx L k T (X.blk s H scope ce fp) := ⟨c.K, c.calm, c.nd, c.room, c.free, c.impl⟩

def visB (sc : Scope) (x : Str) : Bool := match sc.names.lookup x with
  | some .local => true
  | some .cell => true
  | some .free => true
  | _ => false
theorem visB_ok {sc : Scope} {x : Str} (h : visB sc x = true) : Vis sc x := by
  unfold visB at h
  split at h
  · exact .inl (by assumption)
  · exact .inr (.inl (by assumption))
  · exact .inr (.inr (by assumption))
  · cases h
def plainN (x : Str) : Bool := !(x == ("__debug__" : Str)) && !(x == ("__classdict__" : Str)) && !decide (x = ("__name__" : Str))
def glB (sc : Scope) (x : Str) : Bool := decide (sc.names.lookup x = some .globalImplicit) && plainN x
def nameAt (T : Tab) (j : Nat) (x : Str) : Bool := match T[j]? with
  | some (y, _) => decide (y = x)
  | none => false
def isTy (T : String) : Bool := decide (T ∈ ["bool", "int", "str", "tuple", "list"])
def ownL' (N : List Str) (own : List Nat) : List (Str × Nat) := own.map fun i => (N.getD i "", i)
def noSet : Expr → Bool
  | .Set .. => false
  | _ => true
def noSl : Expr → Bool
  | .Slice .. => false
  | _ => true
def noStar : Expr → Bool
  | .Starred .. => false
  | _ => true
def blkOkc (scope sc : Scope) (x : Str) : Bool := decide ((relS scope sc).names.lookup x = some .cell) && decide (scope.names.lookup x = some .cell)
def isTru : CE → Bool
  | .bl true => true
  | _ => false
theorem isTru_ok {c : CE} (h : isTru c = true) : c = .bl true := by
  unfold isTru at h
  split at h
  · rfl
  · cases h
def isTupT : Option Expr → Bool
  | some (.Tuple _ _ _) => true
  | _ => false
theorem isTupT_ok {e : Expr} (h : isTupT (some e) = true) : ∃ es k p, e = .Tuple es k p := by
  unfold isTupT at h
  split at h
  · rename_i heq
    cases heq
    exact ⟨_, _, _, rfl⟩
  · cases h
mutual
/-- md: none: a value; some target: what a for walks -/
def chkE (N : List Str) (T : Tab) : CE → Scope → Option Expr → Expr → Bool
  | .var i, sc, _, e => match e with
    | .Name x _ => decide (N[i]? = some x) && visB sc x && plainN x
    | _ => false
  | .int i, _, _, e => match e with
    | .Constant (.int j) _ _ => decide (i = j)
    | _ => false
  | .bl b, _, _, e => match e with
    | .Constant (.bool c) _ _ => decide (b = c)
    | _ => false
  | .non, _, _, e => match e with
    | .Constant .none _ _ => true
    | _ => false
  | .str x, _, _, e => match e with
    | .Constant (.str y) _ _ => decide (x = y)
    | _ => false
  | .bin o a b, sc, _, e => match e with
    | .BinOp e1 o' e2 _ => decide (o = o') && chkE N T a sc none e1 && chkE N T b sc none e2
    | _ => false
  | .neg a, sc, _, e => match e with
    | .UnaryOp .USub e1 _ => chkE N T a sc none e1
    | _ => false
  | .not a, sc, _, e => match e with
    | .UnaryOp .Not e1 _ => chkE N T a sc none e1
    | _ => false
  | .cmp o a b, sc, _, e => match e with
    | .Compare e1 [o'] [e2] _ => decide (o = o') && chkE N T a sc none e1 && chkE N T b sc none e2 && noSet e2
    | _ => false
  | .chn o p a b c, sc, _, e => match e with
    | .Compare e1 [o', p'] [e2, e3] _ => decide (o = o') && decide (p = p') && chkE N T a sc none e1 && chkE N T b sc none e2 && chkE N T c sc none e3 && noSet e3
    | _ => false
  | .isN a, sc, _, e => match e with
    | .Compare e1 [.Is] [.Constant .none _ _] _ => chkE N T a sc none e1
    | _ => false
  | .notN a, sc, _, e => match e with
    | .Compare e1 [.IsNot] [.Constant .none _ _] _ => chkE N T a sc none e1
    | _ => false
  | .isB a b, sc, _, e => match e with
    | .Compare e1 [.Is] [.Constant (.bool c) _ _] _ => decide (b = c) && chkE N T a sc none e1
    | _ => false
  | .and a b, sc, _, e => match e with
    | .BoolOp .And [e1, e2] _ => chkE N T a sc none e1 && chkE N T b sc none e2
    | .BoolOp .And (e1 :: e2 :: e3 :: r) p => chkE N T a sc none e1 && chkE N T b sc none (.BoolOp .And (e2 :: e3 :: r) p)
    | _ => false
  | .or a b, sc, _, e => match e with
    | .BoolOp .Or [e1, e2] _ => chkE N T a sc none e1 && chkE N T b sc none e2
    | .BoolOp .Or (e1 :: e2 :: e3 :: r) p => chkE N T a sc none e1 && chkE N T b sc none (.BoolOp .Or (e2 :: e3 :: r) p)
    | _ => false
  | .ite c a b, sc, _, e => match e with
    | .IfExp e1 e2 e3 _ => chkE N T c sc none e1 && chkE N T a sc none e2 && chkE N T b sc none e3
    | _ => false
  | .tup es, sc, _, e => match e with
    | .Tuple l _ _ => chkL N T es sc l && decide (l.length ≤ 1000)
    | _ => false
  | .lst es, sc, _, e => match e with
    | .List l _ => chkL N T es sc l && decide (l.length ≤ 1000)
    | _ => false
  | .ix a b, sc, _, e => match e with
    | .Subscript e1 e2 _ => chkE N T a sc none e1 && chkE N T b sc none e2 && noSl e2
    | _ => false
  | .sl a lo hi, sc, _, e => match e with
    | .Subscript e1 (.Slice l h none _) _ => chkE N T a sc none e1 && (match l with
        | none => isNil lo
        | some e2 => !isNil lo && chkE N T lo sc none e2) && (match h with
        | none => isNil hi
        | some e3 => !isNil hi && chkE N T hi sc none e3)
    | _ => false
  | .call j es, sc, _, e => match e with
    | .Call (.Name x _) l [] _ => nameAt T j x && glB sc x && chkL N T es sc l
    | _ => false
  | .bi b es, sc, _, e => match e with
    | .Call (.Name x _) (e1 :: l) [] _ => decide (x = b.name) && glB sc x && chkL N T es sc (e1 :: l)
    | _ => false
  | .isa a t, sc, _, e => match e with
    | .Call (.Name x _) [e1, .Name y _] [] _ => decide (x = ("isinstance" : Str)) && glB sc x && chkE N T a sc none e1 && isTy t && decide (y = Str.ofString t) && glB sc y
    | _ => false
  | .comp own tg it c el, sc, _, e => match e with
    | .ListComp elt [⟨tge, iter, ifs, 0⟩] scope _ => blkC N sc scope (ownL' N own) && chkTG N (relS scope sc) (blkOkc scope sc) tg tge && decide (∀ j ∈ tg.slots, j ∈ own) && chkE N T it sc (some tge) iter && noSet iter &&
        (match ifs with
          | [] => isTru c
          | [e1] => chkE N T c (relS scope sc) none e1
          | _ => false) && chkE N T el (relS scope sc) none elt
    | _ => false
  | .comp2 own tg it own1 tg1 it1 c1 el, sc, _, e => match e with
    | .ListComp elt [⟨tge, iter, [], 0⟩, ⟨tgb, iterb, ifs, 0⟩] scope _ => blkC N sc scope (ownL' N own) && chkTG N (relS scope sc) (blkOkc scope sc) tg tge && decide (∀ j ∈ tg.slots, j ∈ own) && chkE N T it sc (some tge) iter && noSet iter &&
        decide (∀ j ∈ own1, j ∈ own) && decide (∀ j ∈ tg1.slots, j ∈ own1) && chkTG N (relS scope sc) (blkOkc scope sc) tg1 tgb && chkE N T it1 (relS scope sc) (some tgb) iterb && noSet iterb &&
        (match ifs with
          | [] => isTru c1
          | [e1] => chkE N T c1 (relS scope sc) none e1
          | _ => false) && chkE N T el (relS scope sc) none elt
    | _ => false
  | .rng1 a, sc, md, e => match e with
    | .Call (.Name x _) [e1] [] _ => md.isSome && decide (x = ("range" : Str)) && glB sc x && chkE N T a sc none e1
    | _ => false
  | .rng2 a b, sc, md, e => match e with
    | .Call (.Name x _) [e1, e2] [] _ => md.isSome && decide (x = ("range" : Str)) && glB sc x && chkE N T a sc none e1 && chkE N T b sc none e2
    | _ => false
  | .zip a b, sc, md, e => match e with
    | .Call (.Name x _) [e1, e2] [] _ => isTupT md && decide (x = ("zip" : Str)) && glB sc x && chkE N T a sc none e1 && chkE N T b sc none e2
    | _ => false
  | .enm a, sc, md, e => match e with
    | .Call (.Name x _) [e1] [] _ => isTupT md && decide (x = ("enumerate" : Str)) && glB sc x && chkE N T a sc none e1
    | _ => false
  | .nil, _, _, _ => false
  | .cons _ _, _, _, _ => false
def chkL (N : List Str) (T : Tab) : CE → Scope → List Expr → Bool
  | .nil, _, [] => true
  | .cons a b, sc, e :: es => chkE N T a sc none e && chkL N T b sc es
  | _, _, _ => false
end
end PV
/-! PV, part g: what the checker of expressions passes is what the evaluator says. -/
namespace PV
open PySem PySem.Spec PyProof.Rows L2

theorem star_of {e : Expr} {es : List Expr} {env : PySem.Env} (h : noStar e = true) : starEach (e :: es) env = (false, eval e env) :: starEach es env := by
  cases e <;> first | rfl | cases h
theorem assign_of {e : Expr} {es : List Expr} {env : PySem.Env} (h : noStar e = true) : (assignEach (e :: es) env).map (·.2) = assign e env :: (assignEach es env).map (·.2) := by
  cases e <;> first | rfl | cases h
theorem folded_of {e : Expr} {env : PySem.Env} {x : Value} (h : noSet e = true) : foldedSetIterable e env x = pure x := by
  cases e <;> first | rfl | cases h
theorem plainIx_of {e : Expr} (h : noSl e = true) : PlainIx e := by
  cases e <;> first | exact fun _ _ => rfl | cases h
theorem mark_of {e : Expr} {op : CmpOp} (h : noSet e = true) : behindInMarks op e = false := by
  cases e <;> first | rfl | cases h
theorem chk_noStar {N : List Str} {T : Tab} {c : CE} {sc : Scope} {md : Option Expr} {e : Expr} (h : chkE N T c sc md e = true) : noStar e = true := by
  cases e <;> try rfl
  case Starred v p =>
    cases c <;> (unfold chkE at h; first | exact absurd h Bool.false_ne_true | (split at h <;> first | exact absurd h Bool.false_ne_true | (rename_i hx; cases hx)))
theorem plainN_1 {x : Str} (h : plainN x = true) : (x == ("__debug__" : Str)) = false := by
  unfold plainN at h
  simp only [Bool.and_eq_true, Bool.not_eq_true'] at h
  exact h.1.1
theorem plainN_2 {x : Str} (h : plainN x = true) : (x == ("__classdict__" : Str)) = false := by
  unfold plainN at h
  simp only [Bool.and_eq_true, Bool.not_eq_true'] at h
  exact h.1.2
theorem plainN_3 {x : Str} (h : plainN x = true) : x ≠ "__name__" := by
  unfold plainN at h
  simp only [Bool.and_eq_true, Bool.not_eq_true', decide_eq_false_iff_not] at h
  exact h.2

section
variable {L : Lay} {A : Ad} {F F' : Reg} {H H' : Hp} {σ : L2.St} {X : Cx}
theorem glB_ok {x : Str} (h : glB X.env.scope x = true) : Gl X x ∧ plainN x = true := by
  unfold glB at h
  simp only [Bool.and_eq_true, decide_eq_true_eq] at h
  exact h
theorem pt_of {e : Expr} {m : Env → W D} (he : PE X e (rd L m)) (hw : ∀ whole, isTrue e X.env whole = (do let v ← whole; standAt e.pos; holding [v] (truthy v))) : PT X e (rdB L m) := pt_val he hw

theorem pe_varD {i : Nat} {x : Str} {pos : Pos} (hN : X.N[i]? = some x) (hv : Vis X.env.scope x) (hp : plainN x = true) : PE X (.Name x pos) (rd L fun env => getV env i) := by
  refine PE.weak (pe_var hN hv (plainN_1 hp) (plainN_2 hp)) fun σ H Q ⟨A, F, env, ek, Qd, hm, hr, hq⟩ => ?_
  replace hm : getV env i Qd := hm
  unfold getV at hm
  cases e : env[i]? with
  | none => rw [e] at hm; exact False.elim hm
  | some o =>
    cases o with
    | none => rw [e] at hm; exact False.elim hm
    | some d =>
      rw [e] at hm
      obtain ⟨v, h1, h2⟩ := ek.e i d e
      exact ⟨v, h1, hq F H d v .refl ek.s h2 hm⟩
theorem pe_cD {e : Expr} {d : D} {v : V} (h : PE X e (tC v)) (r : ∀ A F H, Rp L A F H d v) : PE X e (rd L fun _ => W.ret d) :=
  PE.weak h fun σ H Q ⟨A, F, env, ek, s⟩ => s.ret ek.s (r A F H)
theorem pe_binD {a b : Expr} {o : Operator} {pos : Pos} {ma mb : Env → W D} (hK : L.K = X.K) (ha : PE X a (rd L ma)) (hb : PE X b (rd L mb)) :
    PE X (.BinOp a o b pos) (rd L fun env => W.bind (ma env) fun x => W.bind (mb env) fun y => binD o x y) := by
  refine PE.weak (pe_op (op_binD hK o) ha hb) fun σ H Q ⟨A, F, env, ek, s⟩ => ?_
  refine ⟨A, F, env, ek, s.bind.mono fun v H1 ⟨F1, d, g, s1, r, q⟩ => ⟨A, F1, env, ek.grow g s1, q.bind.mono fun v2 H2 ⟨F2, d2, g2, s2, r2, q2⟩ => ⟨A, F2, d, d2, s2, r.grow s1 g2, r2, q2⟩⟩⟩
theorem pe_negD {a : Expr} {pos : Pos} {ma : Env → W D} (ha : PE X a (rd L ma)) : PE X (.UnaryOp .USub a pos) (rd L fun env => W.bind (ma env) fun x => asI x fun i => W.ret (.int (-i))) := by
  refine PE.weak (pe_un un_neg ha) fun σ H Q ⟨A, F, env, ek, s⟩ => ?_
  refine ⟨A, F, env, ek, s.bind.mono fun v H1 ⟨F1, d, g, s1, r, q⟩ => ?_⟩
  obtain ⟨i, rfl, q⟩ := snd_asI q
  cases r
  exact ⟨i, rfl, q.ret s1 (.int _)⟩
theorem pe_notD {a : Expr} {pos : Pos} {ma : Env → W D} (ha : PE X a (rd L ma)) : PE X (.UnaryOp .Not a pos) (rd L fun env => W.bind (ma env) fun x => blOf x fun b => W.ret (.bl (!b))) := by
  refine PE.weak (pe_not ha) fun σ H Q ⟨A, F, env, ek, s⟩ => ?_
  refine ⟨A, F, env, ek, s.bind.mono fun v H1 ⟨F1, d, g, s1, r, q⟩ => ?_⟩
  obtain ⟨i, rfl, q⟩ := snd_blOf q
  cases r
  exact ⟨i, rfl, q.ret s1 (.bl _)⟩
theorem pt_notD {a : Expr} {pos : Pos} {ma : Env → W D} (ha : PT X a (rdB L ma)) : PT X (.UnaryOp .Not a pos) (rdB L fun env => W.bind (ma env) fun x => blOf x fun b => W.ret (.bl (!b))) := by
  refine PT.weak (pt_not ha) fun σ H Q ⟨A, F, env, ek, s⟩ => ?_
  refine ⟨A, F, env, ek, s.bind.mono fun v H1 ⟨F1, d, g, s1, r, q⟩ => ?_⟩
  obtain ⟨i, rfl, q⟩ := snd_blOf q
  cases r
  obtain ⟨b, e, q⟩ := q.ret s1 (.bl _)
  cases e
  exact ⟨i, rfl, q⟩
theorem cmp_le {o : CmpOp} {ma mb : Env → W D} {σ : L2.St} {H : Hp} {Q : VK} (h : rd L (fun env => W.bind (ma env) fun x => W.bind (mb env) fun y => cmpD o x y) σ H Q) : tOp (rBin L (cmpD o)) (rd L ma) (rd L mb) σ H Q := by
  obtain ⟨A, F, env, ek, s⟩ := h
  exact ⟨A, F, env, ek, s.bind.mono fun v H1 ⟨F1, d, g, s1, r, q⟩ => ⟨A, F1, env, ek.grow g s1, q.bind.mono fun v2 H2 ⟨F2, d2, g2, s2, r2, q2⟩ => ⟨A, F2, d, d2, s2, r.grow s1 g2, r2, q2⟩⟩⟩
theorem pe_cmpD {a b : Expr} {o : CmpOp} {pos : Pos} {ma mb : Env → W D} (hK : L.K = X.K) (hu : X.A.units + 65 < cLine) (ha : PE X a (rd L ma)) (hb : PE X b (rd L mb)) (hm : behindInMarks o b = false) :
    PE X (.Compare a [o] [b] pos) (rd L fun env => W.bind (ma env) fun x => W.bind (mb env) fun y => cmpD o x y) ∧ PT X (.Compare a [o] [b] pos) (rdB L fun env => W.bind (ma env) fun x => W.bind (mb env) fun y => cmpD o x y) :=
  ⟨PE.weak (pe_cmpR (op_cmpD hK hu o) ha hb hm) fun σ H Q h => cmp_le h, PT.weak (pt_cmpR (op_cmpD hK hu o) ha hb hm) fun σ H Q h => cmp_le h⟩
theorem chain_le {o p : CmpOp} {ma mb mc : Env → W D} {σ : L2.St} {H : Hp} {Q : VK} (h : rd L (fun env => W.bind (ma env) fun x => W.bind (mb env) fun y => W.bind (cmpD o x y) fun r => onB r (W.bind (mc env) fun z => cmpD p y z) (W.ret (.bl false))) σ H Q) :
    tChain (rBin L (cmpD o)) (rBin L (cmpD p)) (rd L ma) (rd L mb) (rd L mc) σ H Q := by
  obtain ⟨A, F, env, ek, s⟩ := h
  refine ⟨A, F, env, ek, s.bind.mono fun v H1 ⟨F1, d, g, s1, r, q⟩ => ⟨A, F1, env, ek.grow g s1, q.bind.mono fun v2 H2 ⟨F2, d2, g2, s2, r2, q2⟩ => ⟨A, F2, d, d2, s2, r.grow s1 g2, r2, q2.bind.mono fun v3 H3 ⟨F3, d3, g3, s3, r3, q3⟩ => ?_⟩⟩⟩
  obtain ⟨b, rfl, q3⟩ := snd_onB q3
  cases r3
  refine ⟨b, rfl, ?_⟩
  cases b with
  | true =>
    refine iteT (B := Q (.bl false) H3) ?_
    have q3 : Snd L A F3 H3 (W.bind (mc env) fun z => cmpD p d2 z) Q := q3
    exact ⟨A, F3, env, (ek.grow g s1).grow (g2.trans s2 g3) s3, q3.bind.mono fun v4 H4 ⟨F4, d4, g4, s4, r4, q4⟩ => ⟨A, F4, d2, d4, s4, (r2.grow s2 g3).grow s3 g4, r4, q4⟩⟩
  | false =>
    have q3 : Snd L A F3 H3 (W.ret (.bl false)) Q := q3
    exact iteF (q3.ret s3 (.bl _))
theorem pe_chainD {a b c : Expr} {o p : CmpOp} {pos : Pos} {ma mb mc : Env → W D} (hK : L.K = X.K) (hu : X.A.units + 65 < cLine) (ha : PE X a (rd L ma)) (hb : PE X b (rd L mb)) (hc : PE X c (rd L mc)) (hm : lastMarks [o, p] [b, c] = false) :
    PE X (.Compare a [o, p] [b, c] pos) (rd L fun env => W.bind (ma env) fun x => W.bind (mb env) fun y => W.bind (cmpD o x y) fun r => onB r (W.bind (mc env) fun z => cmpD p y z) (W.ret (.bl false))) ∧
    PT X (.Compare a [o, p] [b, c] pos) (rdB L fun env => W.bind (ma env) fun x => W.bind (mb env) fun y => W.bind (cmpD o x y) fun r => onB r (W.bind (mc env) fun z => cmpD p y z) (W.ret (.bl false))) :=
  ⟨PE.weak (pe_chain (op_cmpD hK hu o) (op_cmpD hK hu p) ha hb hc hm) fun σ H Q h => chain_le h, PT.weak (pt_chain (op_cmpD hK hu o) (op_cmpD hK hu p) ha hb hc hm) fun σ H Q h => chain_le h⟩
theorem nonB_eq {d : D} {v : V} (r : Rp L A F H d v) : isNonB d = decide (v = .non) := by
  cases r <;> rfl
theorem isN_le {ma : Env → W D} {σ : L2.St} {H : Hp} {Q : VK} (h : rd L (fun env => W.bind (ma env) fun x => W.ret (.bl (isNonB x))) σ H Q) : tIsN (rd L ma) σ H Q := by
  obtain ⟨A, F, env, ek, s⟩ := h
  refine ⟨A, F, env, ek, s.bind.mono fun v H1 ⟨F1, d, g, s1, r, q⟩ => ?_⟩
  rw [← nonB_eq r]
  exact q.ret s1 (.bl _)
theorem notN_le {ma : Env → W D} {σ : L2.St} {H : Hp} {Q : VK} (h : rd L (fun env => W.bind (ma env) fun x => W.ret (.bl (!isNonB x))) σ H Q) : tNotN (rd L ma) σ H Q := by
  obtain ⟨A, F, env, ek, s⟩ := h
  refine ⟨A, F, env, ek, s.bind.mono fun v H1 ⟨F1, d, g, s1, r, q⟩ => ?_⟩
  rw [← nonB_eq r]
  exact q.ret s1 (.bl _)
theorem isB_le {b : Bool} {ma : Env → W D} {σ : L2.St} {H : Hp} {Q : VK} (h : rd L (fun env => W.bind (ma env) fun x => blOf x fun c => W.ret (.bl (decide (c = b)))) σ H Q) : tOp (fun x y H Q => ∃ a b, x = .bl a ∧ y = .bl b ∧ Q (.bl (decide (a = b))) H) (rd L ma) (tC (.bl b)) σ H Q := by
  obtain ⟨A, F, env, ek, s⟩ := h
  refine ⟨A, F, env, ek, s.bind.mono fun v H1 ⟨F1, d, g, s1, r, q⟩ => ?_⟩
  obtain ⟨c, rfl, q⟩ := snd_blOf q
  cases r
  exact ⟨c, b, rfl, rfl, q.ret s1 (.bl _)⟩
theorem and_le {ma mb : Env → W D} {σ : L2.St} {H : Hp} {Q : VK} (h : rd L (fun env => W.bind (ma env) fun x => onB x (mb env) (W.ret (.bl false))) σ H Q) : tAndV (rd L ma) (rd L mb) σ H Q := by
  obtain ⟨A, F, env, ek, s⟩ := h
  refine ⟨A, F, env, ek, s.bind.mono fun v H1 ⟨F1, d, g, s1, r, q⟩ => ?_⟩
  obtain ⟨b, rfl, q⟩ := snd_onB q
  cases r
  refine ⟨b, rfl, ?_⟩
  cases b with
  | true => exact iteT (B := Q (.bl false) H1) ⟨A, F1, env, ek.grow g s1, q⟩
  | false =>
    have q : Snd L A F1 H1 (W.ret (.bl false)) Q := q
    exact iteF (q.ret s1 (.bl _))
theorem or_le {ma mb : Env → W D} {σ : L2.St} {H : Hp} {Q : VK} (h : rd L (fun env => W.bind (ma env) fun x => onB x (W.ret (.bl true)) (mb env)) σ H Q) : tOrV (rd L ma) (rd L mb) σ H Q := by
  obtain ⟨A, F, env, ek, s⟩ := h
  refine ⟨A, F, env, ek, s.bind.mono fun v H1 ⟨F1, d, g, s1, r, q⟩ => ?_⟩
  obtain ⟨b, rfl, q⟩ := snd_onB q
  cases r
  refine ⟨b, rfl, ?_⟩
  cases b with
  | true =>
    have q : Snd L A F1 H1 (W.ret (.bl true)) Q := q
    exact iteT (B := rd L mb σ H1 Q) (q.ret s1 (.bl _))
  | false => exact iteF ⟨A, F1, env, ek.grow g s1, q⟩
theorem andT_le {ma mb : Env → W D} {σ : L2.St} {H : Hp} {Q : Bool → Hp → Prop} (h : rdB L (fun env => W.bind (ma env) fun x => onB x (mb env) (W.ret (.bl false))) σ H Q) : tAnd (rdB L ma) (rdB L mb) σ H Q := by
  obtain ⟨A, F, env, ek, s⟩ := h
  refine ⟨A, F, env, ek, s.bind.mono fun v H1 ⟨F1, d, g, s1, r, q⟩ => ?_⟩
  obtain ⟨b, rfl, q⟩ := snd_onB q
  cases r
  refine ⟨b, rfl, ?_⟩
  cases b with
  | true => exact iteT (B := Q false H1) ⟨A, F1, env, ek.grow g s1, q⟩
  | false =>
    have q : Snd L A F1 H1 (W.ret (.bl false)) _ := q
    obtain ⟨b, e, q⟩ := q.ret s1 (.bl _)
    cases e
    exact iteF q
theorem orT_le {ma mb : Env → W D} {σ : L2.St} {H : Hp} {Q : Bool → Hp → Prop} (h : rdB L (fun env => W.bind (ma env) fun x => onB x (W.ret (.bl true)) (mb env)) σ H Q) : tOr (rdB L ma) (rdB L mb) σ H Q := by
  obtain ⟨A, F, env, ek, s⟩ := h
  refine ⟨A, F, env, ek, s.bind.mono fun v H1 ⟨F1, d, g, s1, r, q⟩ => ?_⟩
  obtain ⟨b, rfl, q⟩ := snd_onB q
  cases r
  refine ⟨b, rfl, ?_⟩
  cases b with
  | true =>
    have q : Snd L A F1 H1 (W.ret (.bl true)) _ := q
    obtain ⟨b, e, q⟩ := q.ret s1 (.bl _)
    cases e
    exact iteT (B := rdB L mb σ H1 Q) q
  | false => exact iteF ⟨A, F1, env, ek.grow g s1, q⟩
theorem ite_le {mc ma mb : Env → W D} {σ : L2.St} {H : Hp} {Q : VK} (h : rd L (fun env => W.bind (mc env) fun x => onB x (ma env) (mb env)) σ H Q) : tIf (rdB L mc) (rd L ma) (rd L mb) σ H Q := by
  obtain ⟨A, F, env, ek, s⟩ := h
  refine ⟨A, F, env, ek, s.bind.mono fun v H1 ⟨F1, d, g, s1, r, q⟩ => ?_⟩
  obtain ⟨b, rfl, q⟩ := snd_onB q
  cases r
  refine ⟨b, rfl, ?_⟩
  cases b with
  | true => exact iteT (B := rd L mb σ H1 Q) ⟨A, F1, env, ek.grow g s1, q⟩
  | false => exact iteF ⟨A, F1, env, ek.grow g s1, q⟩
def tIfT (c t u : TT) : TT := fun σ H Q => c σ H fun b H1 => if b = true then t σ H1 Q else u σ H1 Q
theorem pt_ifExp {c a b : Expr} {tc ta tb : TT} {pos : Pos} (hc : PT X c tc) (ha : PT X a ta) (hb : PT X b tb) : PT X (.IfExp c a b pos) (tIfT tc ta tb) := by
  refine ⟨fun pins s σ H Q I h => ?_⟩
  have e : isTrue (.IfExp c a b pos) X.env (eval (.IfExp c a b pos) X.env) = (do if ← isTrue c X.env (eval c X.env) then isTrue a X.env (eval a X.env) else isTrue b X.env (eval b X.env)) := by rfl
  rw [e]
  refine wpAny_bind (thn (hc.run pins s σ H _ I h) fun d s1 ⟨H1, I1, q1⟩ => ?_)
  cases d with
  | true => exact ha.run pins s1 σ H1 Q I1 q1
  | false => exact hb.run pins s1 σ H1 Q I1 q1
theorem iteT_le {mc ma mb : Env → W D} {σ : L2.St} {H : Hp} {Q : Bool → Hp → Prop} (h : rdB L (fun env => W.bind (mc env) fun x => onB x (ma env) (mb env)) σ H Q) : tIfT (rdB L mc) (rdB L ma) (rdB L mb) σ H Q := by
  obtain ⟨A, F, env, ek, s⟩ := h
  refine ⟨A, F, env, ek, s.bind.mono fun v H1 ⟨F1, d, g, s1, r, q⟩ => ?_⟩
  obtain ⟨b, rfl, q⟩ := snd_onB q
  cases r
  refine ⟨b, rfl, ?_⟩
  cases b with
  | true => exact iteT (B := rdB L mb σ H1 Q) ⟨A, F1, env, ek.grow g s1, q⟩
  | false => exact iteF ⟨A, F1, env, ek.grow g s1, q⟩

/-! ### lists of arguments, displays -/
theorem pa_nilD : PA X [] (rdL L 0 fun _ => W.ret (.tup [])) := PA.weak pa_nil fun σ H Q ⟨A, F, env, ek, Qd, hm, hr, hq⟩ => hq F H [] [] rfl .refl ek.s .nil hm
theorem pa_consD {e : Expr} {es : List Expr} {n : Nat} {ma mb : Env → W D} (ha : PE X e (rd L ma)) (hb : PA X es (rdL L n mb)) (hs : noStar e = true) :
    PA X (e :: es) (rdL L (n + 1) fun env => W.bind (ma env) fun x => W.bind (mb env) fun r => W.bind (itemsD r) fun ds => W.ret (.tup (x :: ds))) := by
  refine PA.weak (pa_cons ha hb (star_of hs)) fun σ H Q ⟨A, F, env, ek, Qd, hm, hr, hq⟩ => ?_
  exact ⟨A, F, env, ek, _, hm, fun x q => hr x q, fun F1 H1 d v g s r q => ⟨A, F1, env, ek.grow g s, _, q, fun x q => hr x q, fun F2 H2 ds vs hl g2 s2 r2 q2 =>
    hq F2 H2 (d :: ds) (v :: vs) (by rw [List.length_cons, hl]) (g.trans s g2) s2 (.cons (r.grow s g2) r2) q2⟩⟩
theorem pe_tupD {l : List Expr} {k : Nat} {pos : Pos} {m : Env → W D} (h : PA X l (rdL L l.length m)) (hl : l.length ≤ 1000) : PE X (.Tuple l k pos) (rd L m) := by
  refine PE.weak (pe_tup h) fun σ H Q ⟨A, F, env, ek, Qd, hm, hr, hq⟩ => ?_
  refine ⟨A, F, env, ek, Qd, hm, hr, fun F1 H1 ds vs hl' g s r q => ⟨?_, fun p hp => ?_⟩⟩
  · rw [hl']
    exact Nat.le_of_lt (small1000 hl)
  · exact hq F1 _ _ _ (g.trans s (grow_tup s hp)) (sok_new s hp) (rp_tup s hp r) q
theorem acc_new {p : Addr} {ds : List D} {vs : List V} (s : SOk L A F H) (hp : H p = none) (r : Rps L A F H ds vs) : Acc L A F H p F (upd H p (.lst vs)) ds vs :=
  ⟨hp, grow_tup s hp, sok_new s hp, fun f => s.d _ f hp, upd_same, r.grow s (grow_tup s hp), (ne_S s hp).symm⟩
theorem pe_lstF {l : List Expr} {pos : Pos} {m : Env → W D} (h : PA X l (rdL L l.length m)) (hl : l.length ≤ 1000) : PE X (.List l pos) (rdF L fun env => W.bind (m env) fun v => W.bind (itemsD v) fun ds => W.ret (.lst ds)) := by
  refine PE.weak (pe_lst h) fun σ H Q ⟨A, F, env, ek, Qd, hm, hr, hd, hq⟩ => ?_
  refine ⟨A, F, env, ek, _, hm, fun x q => hr x q, fun F1 H1 ds vs hl' g s r q => ⟨?_, fun p hp => ?_⟩⟩
  · rw [hl']
    exact Nat.le_of_lt (small1000 hl)
  · exact hq F1 _ p ds vs (acc_to (acc_new s hp r) g s) q
theorem pe_ixD {a b : Expr} {pos : Pos} {ma mb : Env → W D} (hK : L.K = X.K) (ha : PE X a (rd L ma)) (hb : PE X b (rd L mb)) (hs : noSl b = true) :
    PE X (.Subscript a b pos) (rd L fun env => W.bind (ma env) fun x => W.bind (mb env) fun y => ixD x y) := by
  refine PE.weak (pe_ix (ix_D hK) ha hb (plainIx_of hs)) fun σ H Q ⟨A, F, env, ek, s⟩ => ?_
  exact ⟨A, F, env, ek, s.bind.mono fun v H1 ⟨F1, d, g, s1, r, q⟩ => ⟨A, F1, env, ek.grow g s1, q.bind.mono fun v2 H2 ⟨F2, d2, g2, s2, r2, q2⟩ => ⟨A, F2, d, d2, s2, r.grow s1 g2, r2, q2⟩⟩⟩
/-- a part of a slice -/
def rdP (L : Lay) (m : Env → W (Option Int)) : L2.St → Hp → (Option Int → Hp → Prop) → Prop := fun σ H Q => ∃ A F env, EOk L A F σ H env ∧ ∃ Qd : Except Exn (Option Int) → Prop, m env Qd ∧ (∀ e, ¬ Qd (.error e)) ∧
  ∀ F' H' i, Grow A F H F' H' → SOk L A F' H' → Qd (.ok i) → Q i H'
theorem po_D {o : Option Expr} {c : CE} {T : Tab} (h : match o with
    | none => isNil c = true
    | some e => isNil c = false ∧ PE X e (rd L (evE T c))) : ∃ t, PO X o t ∧ ∀ σ H Q, rdP L (fun env => partW (isNil c) (evE T c env)) σ H Q → t σ H Q := by
  cases o with
  | none =>
    refine ⟨_, po_none, fun σ H Q ⟨A, F, env, ek, Qd, hm, hr, hq⟩ => ?_⟩
    have h : isNil c = true := h
    rw [h] at hm
    exact hq F H none .refl ek.s hm
  | some e =>
    obtain ⟨h1, h2⟩ := h
    refine ⟨_, po_some h2, fun σ H Q ⟨A, F, env, ek, Qd, hm, hr, hq⟩ => ?_⟩
    rw [h1] at hm
    refine ⟨A, F, env, ek, _, hm, fun x q => hr x q, fun F1 H1 d v g s r q => ?_⟩
    cases d <;> try exact False.elim q
    case int i =>
      cases r
      exact ⟨i, rfl, hq F1 H1 (some i) g s q⟩
theorem pe_slD {a : Expr} {l h : Option Expr} {p2 pos : Pos} {ma : Env → W D} {lo hi : CE} {T : Tab} (hK : L.K = X.K) (ha : PE X a (rd L ma))
    (hl : match l with | none => isNil lo = true | some e => isNil lo = false ∧ PE X e (rd L (evE T lo))) (hh : match h with | none => isNil hi = true | some e => isNil hi = false ∧ PE X e (rd L (evE T hi))) :
    PE X (.Subscript a (.Slice l h none p2) pos) (rd L fun env => W.bind (ma env) fun x => W.bind (partW (isNil lo) (evE T lo env)) fun l => W.bind (partW (isNil hi) (evE T hi env)) fun h => slD x l h) := by
  obtain ⟨tl, pl, ml⟩ := po_D hl
  obtain ⟨th, ph, mh⟩ := po_D hh
  refine PE.weak (pe_slice (sl_D hK) ha pl ph) fun σ H Q ⟨A, F, env, ek, Qd, hm, hr, hq⟩ => ?_
  refine ⟨A, F, env, ek, _, hm, fun x q => hr x q, fun F1 H1 d v g s r q => ml _ _ _ ⟨A, F1, env, ek.grow g s, _, q, fun x q => hr x q, fun F2 H2 i g2 s2 q2 => mh _ _ _ ⟨A, F2, env, (ek.grow g s).grow g2 s2, _, q2, fun x q => hr x q, fun F3 H3 j g3 s3 q3 => ?_⟩⟩⟩
  exact ⟨A, F3, d, s3, (r.grow s g2).grow s2 g3, Qd, q3, hr, fun F4 H4 d4 v4 g4 s4 r4 q4 => hq F4 H4 d4 v4 ((g.trans s (g2.trans s2 g3)).trans s3 g4) s4 r4 q4⟩
end
end PV
/-! PV, part h: the theorem about expressions. -/
namespace PV
open PySem PySem.Spec PyProof.Rows L2

theorem star_any : ∀ {es : List Expr} {env : PySem.Env} {pos : Pos}, (∀ e ∈ es, noStar e = true) → (backTo pos (starEach es env)).any (·.1) = false
  | [], _, _, _ => rfl
  | e :: es, env, pos, h => by
    rw [star_of (h e List.mem_cons_self)]
    have ih := star_any (es := es) (env := env) (pos := pos) fun e he => h e (List.mem_cons_of_mem _ he)
    show ((false, _) :: backTo pos (starEach es env)).any (·.1) = false
    rw [List.any_cons, ih]
    rfl
theorem chkL_noStar {N : List Str} {T : Tab} {sc : Scope} : ∀ {es : List Expr} {c : CE}, chkL N T c sc es = true → ∀ e ∈ es, noStar e = true
  | [], _, _, e, he => by cases he
  | e1 :: es, c, h, e, he => by
    cases c <;> try (unfold chkL at h; exact absurd h Bool.false_ne_true)
    case cons a b =>
      unfold chkL at h
      simp only [Bool.and_eq_true] at h
      rcases List.mem_cons.mp he with rfl | he
      · exact chk_noStar h.1
      · exact chkL_noStar h.2 e he
section
variable {L : Lay} {A : Ad} {F F' : Reg} {H H' : Hp} {σ : L2.St} {X : Cx}
theorem call_le {T : Tab} {j n k : Nat} {x : Str} {m : List D → W D} {ma : Env → W D} (hj : T[j]? = some (x, m)) (har : ∀ (ds : List D) (Q : Except Exn D → Prop), m ds Q → ds.length = n) {σ : L2.St} {H : Hp} {Q : VK}
    (h : rd L (fun env => W.bind (ma env) fun v => W.bind (itemsD v) fun ds => callT T j ds) σ H Q) : tCall (spD L n m) [] E0 (rdL L k ma) σ H Q := by
  obtain ⟨A, F, env, ek, Qd, hm, hr, hq⟩ := h
  refine ⟨A, F, env, ek, _, hm, fun x q => hr x q, fun F1 H1 ds vs hl g s r q => ?_⟩
  have q' : callT T j ds Qd := q
  unfold callT at q'
  rw [hj] at q'
  show spD L n m (vs ++ []) H1 Q E0
  rw [List.append_nil]
  exact ⟨by rw [← r.length]; exact har _ _ q', A, F1, ds, s, r, Qd, q', hr, fun F2 H2 d v g2 s2 r2 q2 => hq F2 H2 d v (g.trans s g2) s2 r2 q2⟩
theorem pe_callD {k : Nat} {x : Str} {p pos : Pos} {e : Expr} {l : List Expr} {T : Tab} {m : List D → W D} {ma : Env → W D} {j : Nat} (hK : L.K = X.K) (hr : Room k X.A) (hI : Impl L X.prog X.w X.mg X.base k x m) (hj : T[j]? = some (x, m)) (hg : Gl X x) (hp : plainN x = true)
    (ha : PA X (e :: l) (rdL L (e :: l).length ma)) (hs : ∀ e' ∈ e :: l, noStar e' = true) : PE X (.Call (.Name x p) (e :: l) [] pos) (rd L fun env => W.bind (ma env) fun v => W.bind (itemsD v) fun ds => callT T j ds) := by
  obtain ⟨f, fd, ps, hm, hk, hb, hF, har⟩ := hI.ex
  rw [hK] at hk hb hF
  exact PE.weak (pe_call hF hr hg hm hk hb .nil passL ha (plainN_1 hp) (star_of (hs e List.mem_cons_self)) (star_any fun e he => hs e (List.mem_cons_of_mem _ he))) fun σ H Q h => call_le hj har h
theorem pe_call0D {k : Nat} {x : Str} {p pos : Pos} {T : Tab} {m : List D → W D} {j : Nat} (hK : L.K = X.K) (hr : Room k X.A) (hI : Impl L X.prog X.w X.mg X.base k x m) (hj : T[j]? = some (x, m)) (hg : Gl X x) (hp : plainN x = true) :
    PE X (.Call (.Name x p) [] [] pos) (rd L fun env => W.bind (W.ret (.tup [])) fun v => W.bind (itemsD v) fun ds => callT T j ds) := by
  obtain ⟨f, fd, ps, hm, hk, hb, hF, har⟩ := hI.ex
  rw [hK] at hk hb hF
  refine PE.weak (pe_call0 hF hr hg hm hk hb .nil passL (plainN_1 hp)) fun σ H Q ⟨A, F, env, ek, Qd, hm, hr, hq⟩ => ?_
  have q' : callT T j [] Qd := hm
  unfold callT at q'
  rw [hj] at q'
  exact ⟨har _ _ q', A, F, [], ek.s, .nil, Qd, q', hr, hq⟩
theorem bi_le {b : BI} {n : Nat} {ma : Env → W D} {σ : L2.St} {H : Hp} {Q : VK} (h : rd L (fun env => W.bind (ma env) fun v => W.bind (itemsD v) fun ds => biD b ds) σ H Q) : tCB (rBI L (biD b)) (rdL L n ma) σ H Q := by
  obtain ⟨A, F, env, ek, Qd, hm, hr, hq⟩ := h
  refine ⟨A, F, env, ek, _, hm, fun x q => hr x q, fun F1 H1 ds vs hl g s r q => ?_⟩
  exact ⟨A, F1, ds, s, r, Qd, q, hr, fun F2 H2 d v g2 s2 r2 q2 => hq F2 H2 d v (g.trans s g2) s2 r2 q2⟩
theorem bi_mem (b : BI) : b.name ∈ bnames := by cases b <;> decide +kernel
theorem pe_biD {b : BI} {p pos : Pos} {e : Expr} {l : List Expr} {ma : Env → W D} (hK : L.K = X.K) (hc : X.calm = true) (hm : X.mg b.name = none) (hg : Gl X b.name) (hp : plainN b.name = true)
    (ha : PA X (e :: l) (rdL L (e :: l).length ma)) (hs : ∀ e' ∈ e :: l, noStar e' = true) : PE X (.Call (.Name b.name p) (e :: l) [] pos) (rd L fun env => W.bind (ma env) fun v => W.bind (itemsD v) fun ds => biD b ds) := by
  have h1 := star_of (es := l) (env := X.env) (hs e List.mem_cons_self)
  have h2 := star_any (env := X.env) (pos := pos) fun e he => hs e (List.mem_cons_of_mem _ he)
  have hB := call_biD (L := L) hK hc b
  have hv := b.boot
  generalize hbv : b.val = bv at hB hv
  cases b <;> cases hbv <;> first
    | exact PE.weak (pe_callB hB hg hm hv ha (plainN_3 hp) (plainN_1 hp) h1 h2) fun σ H Q h => bi_le h
    | exact PE.weak (pe_callTy hB hg hm hv ha (plainN_3 hp) (plainN_1 hp) h1 h2) fun σ H Q h => bi_le h

/-! ### isinstance -/
theorem ty_of {d : D} {v : V} {t : String} (hK : L.K = X.K) (r : Rp L A F H d v) (h : tyD d = some t) (hl : d ≠ .tape) : TyX X.K H v (.type t) := by
  cases r with
  | non => cases h; exact .base .non
  | bl b => cases h; exact .base (.bl b)
  | int i => cases h; exact .base (.int i)
  | str x => cases h; exact .base (.str x)
  | tup ha ra =>
    cases h
    rw [hK] at ha
    rcases ha with (ha | ⟨o, ha⟩) | ⟨o, its, n, hk, hc, _⟩
    · exact .base (.tup ha)
    · exact .fTuple ha
    · exact .kTuple hk hc
  | lst fa ha ra => cases h; exact .base (.lst ha)
  | tape => cases h
  | scr => cases h
theorem kit_all {t T : String} (h1 : t ∈ ["NoneType", "bool", "int", "str", "tuple", "list"]) (h2 : T ∈ ["bool", "int", "str", "tuple", "list"]) : kitB t T = some (t == T || (t == "bool" && T == "int")) := by
  simp only [List.mem_cons, List.not_mem_nil, or_false] at h1 h2
  rcases h1 with rfl | rfl | rfl | rfl | rfl | rfl <;> rcases h2 with rfl | rfl | rfl | rfl | rfl <;> decide +kernel
theorem boot_ty {T : String} (h : T ∈ ["bool", "int", "str", "tuple", "list"]) : bootBuiltins (Str.ofString T) = some (.type T) ∧ Str.ofString T ∈ bnames := by
  simp only [List.mem_cons, List.not_mem_nil, or_false] at h
  rcases h with rfl | rfl | rfl | rfl | rfl <;> exact ⟨by decide +kernel, by decide +kernel⟩
theorem tyD_mem {d : D} {t : String} (h : tyD d = some t) : t ∈ ["NoneType", "bool", "int", "str", "tuple", "list"] := by
  cases d <;> first | (cases h; decide) | cases h
theorem pe_isaD {a : Expr} {t : String} {p p2 pos : Pos} {ma : Env → W D} (hK : L.K = X.K) (hf : ∀ x ∈ bnames, X.mg x = none) (ht : t ∈ ["bool", "int", "str", "tuple", "list"]) (hg : Gl X "isinstance") (hg2 : Gl X (Str.ofString t)) (hp2 : plainN (Str.ofString t) = true)
    (ha : PE X a (rd L ma)) (hs : noStar a = true) : PE X (.Call (.Name "isinstance" p) [a, .Name (Str.ofString t) p2] [] pos) (rd L fun env => W.bind (ma env) fun x => isaD x t) := by
  obtain ⟨hv, hmem⟩ := boot_ty ht
  have hy : PE X (.Name (Str.ofString t) p2) (tC (.ty t)) := pe_bltn hg2 (hf _ hmem) hv rfl (plainN_3 hp2) (plainN_1 hp2)
  have hs1 := star_of (es := [.Name (Str.ofString t) p2]) (env := X.env) hs
  refine PE.weak (pe_callB call_isi hg (hf _ (by decide +kernel)) (by decide +kernel) (pa_cons ha (pa_cons hy pa_nil rfl) hs1) (by decide) (by decide) hs1 rfl) fun σ H Q ⟨A, F, env, ek, Qd, hm, hr, hq⟩ => ?_
  refine ⟨A, F, env, ek, _, hm, fun x q => hr x q, fun F1 H1 d v g s r q => ?_⟩
  have q' : isaD d t Qd := q
  unfold isaD at q'
  cases e : tyD d with
  | none => rw [e] at q'; exact False.elim q'
  | some t' =>
    rw [e] at q'
    have q'' : (if t ∈ ["bool", "int", "str", "tuple", "list"] then W.ret (.bl (t' == t || (t' == "bool" && t == "int"))) else W.fail) Qd := q'
    rw [if_pos ht] at q''
    exact ⟨v, .ty t, .type t', .type t, _, rfl, .ty t, ty_of hK r e (fun z => by subst z; cases e), kit_ty (kit_all (tyD_mem e) ht), hq F1 H1 _ _ g s (.bl _) q''⟩

/-! ### THE THEOREM about expressions -/
structure MV (L : Lay) (k : Nat) (T : Tab) (c : CE) : Prop where
  e : ∀ X, Ctx L k T X → ∀ e, chkE X.N T c X.env.scope none e = true → PE X e (rd L (evE T c)) ∧ PT X e (rdB L (evE T c)) ∧ ∀ op es p, e = .BoolOp op es p → PW X e (rdB L (evE T c))
  i : ∀ X, Ctx L k T X → ∀ tg e, chkE X.N T c X.env.scope (some tg) e = true → PI X tg e (rdI L (evE T c))
  l : ∀ X, Ctx L k T X → ∀ es, chkL X.N T c X.env.scope es = true → PA X es (rdL L es.length (evE T c))
variable {k : Nat} {T : Tab}
theorem mv_val {c : CE} (hmd : ∀ N sc md e, chkE N T c sc md e = chkE N T c sc none e) (hl : ∀ N sc es, chkL N T c sc es = false)
    (h : ∀ X, Ctx L k T X → ∀ e, chkE X.N T c X.env.scope none e = true → PE X e (rd L (evE T c)) ∧ PT X e (rdB L (evE T c)) ∧ ∀ op es p, e = .BoolOp op es p → PW X e (rdB L (evE T c))) : MV L k T c :=
  ⟨h, fun X cx tg e hc => by rw [hmd] at hc; exact pi_val cx.K (h X cx e hc).1, fun X cx es hc => by rw [hl] at hc; cases hc⟩
/-- a value that is no test of its own kind -/
theorem mv_pl {e : Expr} {m : Env → W D} (he : PE X e (rd L m)) (hw : ∀ whole, isTrue e X.env whole = (do let v ← whole; standAt e.pos; holding [v] (truthy v))) (hb : ∀ op es p, e ≠ .BoolOp op es p) :
    PE X e (rd L m) ∧ PT X e (rdB L m) ∧ ∀ op es p, e = .BoolOp op es p → PW X e (rdB L m) := ⟨he, pt_of he hw, fun op es p z => absurd z (hb op es p)⟩
theorem hu65 {A : Around} (hr : Room k A) : A.units + 65 < cLine := by have := hr.un; omega
end
end PV
/-! PV, part i: THE THEOREM about expressions. -/
namespace PV
open PySem PySem.Spec PyProof.Rows L2

section
variable {L : Lay} {X : Cx} {k : Nat} {T : Tab}
theorem rd_of_rdF' {e : Expr} {m : Env → W D} (h : PE X e (rdF L m)) (m' : Env → W (List D)) (hm : m = fun env => W.bind (m' env) fun ys => W.ret (.lst ys)) : PE X e (rd L m) := by
  subst hm
  exact rd_of_rdF h
theorem ownL_snd (N : List Str) (own : List Nat) : (ownL' N own).map (·.2) = own := by
  unfold ownL'
  rw [List.map_map]
  exact List.map_id _
theorem ifs_D {X' : Cx} (cx : Ctx L k T X') {ifs : List Expr} {c : CE} (ih : MV L k T c)
    (h : (match ifs with
          | [] => isTru c
          | [e1] => chkE X'.N T c X'.env.scope none e1
          | _ => false) = true) : PTs X' ifs (rdB L (evE T c)) := by
  match ifs, h with
  | [], h =>
    have e := isTru_ok h
    subst e
    refine PTs.weak pts_nil fun σ H Q ⟨A, F, env, ek, Qd, hm, hr, hq⟩ => ?_
    obtain ⟨b, e, q⟩ := hq F H _ _ .refl ek.s (.bl true) hm
    cases e
    exact q
  | [e1], h => exact pts_one (ih.e X' cx e1 h).2.1
  | _ :: _ :: _, h => exact absurd h Bool.false_ne_true
theorem okc_blk {s : Shared} {H : Hp} {scope : Scope} {C : Addr} {cl : List (Str × Addr)} {fp : List Addr} (x : Str) (h : blkOkc scope X.env.scope x = true) :
    (X.blk s H scope (compEnvC scope cl C X.env) fp).env.scope.names.lookup x = some .cell ∧ (X.blk s H scope (compEnvC scope cl C X.env) fp).fn x = true := by
  unfold blkOkc at h
  simp only [Bool.and_eq_true, decide_eq_true_eq] at h
  refine ⟨h.1, ?_⟩
  show (scope.names.lookup x == some .cell) = true
  rw [h.2]
  rfl
/-- as a value that is stored under a name on one line, too -/
def PZ (X : Cx) (e : Expr) (t : TE) : Prop := ∀ (i : Nat) (y : Str) (py spos : Pos), X.N[i]? = some y → Loc X.env.scope y → (X.fn y = true ∨ X.env.scope.names.lookup y = some .local) → PS X (.Assign [.Name y py] e spos) (tAsg t (gName i))
theorem PS.weak {st : Stmt} {t t' : TS} (h : PS X st t) (m : ∀ D σ H, t' D σ H → t D σ H) : PS X st t' := ⟨fun pins s σ H D I q => h.run pins s σ H D I (m D σ H q)⟩
theorem PSs.weak {st : List Stmt} {t t' : TS} (h : PSs X st t) (m : ∀ D σ H, t' D σ H → t D σ H) : PSs X st t' := ⟨fun pins s σ H D I q => h.run pins s σ H D I (m D σ H q)⟩
theorem PZ.weak {e : Expr} {t t' : TE} (h : PZ X e t) (m : ∀ σ H Q, t' σ H Q → t σ H Q) : PZ X e t' := fun i y py spos h1 h2 h3 => PS.weak (h i y py spos h1 h2 h3) fun D σ H q => m σ H _ q
theorem swaps_lc {elt : Expr} {gs : List Comprehension} {scope : Scope} {pos py : Pos} {y : Str} {ln : Nat} {env : PySem.Env} : ∃ b, swapsWith (.ListComp elt gs scope pos) (some (.Name y py)) ln env = pure b ∧ (b = true → env.kindOf y = some .local) := by
  refine ⟨_, rfl, fun h => ?_⟩
  simp only [Bool.and_eq_true, beq_iff_eq] at h
  exact h.1.1.2
/-- kind: 0 a comprehension -/
theorem pe_compF (cx : Ctx L k T X) {own : List Nat} {tg : TG} {it c el : CE} (i1 : MV L k T it) (i2 : MV L k T c) (i3 : MV L k T el) {e : Expr} (h : chkE X.N T (.comp own tg it c el) X.env.scope none e = true) :
    PE X e (rdF L (evE T (.comp own tg it c el))) ∧ PZ X e (rdF L (evE T (.comp own tg it c el))) ∧ (∀ whole, isTrue e X.env whole = (do let v ← whole; standAt e.pos; holding [v] (truthy v))) ∧ ∀ op es p, e ≠ .BoolOp op es p := by
  unfold chkE at h
  split at h
  · rename_i elt tge iter ifs scope pos
    simp only [Bool.and_eq_true] at h
    obtain ⟨⟨⟨⟨⟨⟨h1, h2⟩, h3⟩, h4⟩, h5⟩, h6⟩, h7⟩ := h
    have h3 := of_decide_eq_true h3
    have q1 := i1.i X cx tge iter h4
    have q2 := blkOk_by h1
    have q3 : ∀ (s : Shared) (H : Hp) (C : Addr) (cl : List (Str × Addr)) (fp : List Addr), PG (X.blk s H scope (compEnvC scope cl C X.env) fp) tge (gD L tg) := fun s H C cl fp => pg_D (X := X.blk s H scope (compEnvC scope cl C X.env) fp) cx.K cx.calm cx.nd (okc := blkOkc scope X.env.scope) (fun x hx => okc_blk x hx) h2
    have q4 : ∀ (s : Shared) (H : Hp) (C : Addr) (cl : List (Str × Addr)) (fp : List Addr), PTs (X.blk s H scope (compEnvC scope cl C X.env) fp) ifs (rdB L (evE T c)) := fun s H C cl fp => ifs_D (X' := X.blk s H scope (compEnvC scope cl C X.env) fp) (cx.blk s H scope _ fp) i2 h6
    have q5 : ∀ (s : Shared) (H : Hp) (C : Addr) (cl : List (Str × Addr)) (fp : List Addr), PE (X.blk s H scope (compEnvC scope cl C X.env) fp) elt (rd L (evE T el)) := fun s H C cl fp => (i3.e (X.blk s H scope (compEnvC scope cl C X.env) fp) (cx.blk s H scope _ fp) elt h7).1
    have q6 : ∀ x, foldedSetIterable iter X.env x = pure x := fun x => folded_of h5
    have q7 : ∀ j ∈ tg.slots, j ∈ (ownL' X.N own).map (·.2) := by rw [ownL_snd]; exact h3
    refine ⟨PE.weak (pe_lc cx.calm cx.nd q1 q2 q3 q4 q5 q6) fun σ H Q h => ?_, fun i y py spos hy hl hf => ?_, fun _ => rfl, fun _ _ _ z => nomatch z⟩
    · rw [ownL_snd]; exact comp_le h3 h
    · obtain ⟨b, hb, hbl⟩ := swaps_lc (elt := elt) (gs := [⟨tge, iter, ifs, 0⟩]) (scope := scope) (pos := pos) (py := py) (y := y) (ln := spos.line) (env := X.env)
      cases b with
      | true => exact PS.weak (ps_setLc cx.calm cx.nd hy (hbl rfl) hb q1 q2 q3 q4 q5 q6) fun D σ H h => by rw [ownL_snd]; exact comp_le h3 h
      | false => exact PS.weak (ps_set cx.nd hy hl (pe_lc cx.calm cx.nd q1 q2 q3 q4 q5 q6) hb hf) fun D σ H h => by rw [ownL_snd]; exact comp_le h3 h
  · exact absurd h Bool.false_ne_true
theorem pe_comp2F (cx : Ctx L k T X) {own own1 : List Nat} {tg tg1 : TG} {it it1 c el : CE} (i1 : MV L k T it) (i4 : MV L k T it1) (i2 : MV L k T c) (i3 : MV L k T el) {e : Expr} (h : chkE X.N T (.comp2 own tg it own1 tg1 it1 c el) X.env.scope none e = true) :
    PE X e (rdF L (evE T (.comp2 own tg it own1 tg1 it1 c el))) ∧ PZ X e (rdF L (evE T (.comp2 own tg it own1 tg1 it1 c el))) ∧ (∀ whole, isTrue e X.env whole = (do let v ← whole; standAt e.pos; holding [v] (truthy v))) ∧ ∀ op es p, e ≠ .BoolOp op es p := by
  unfold chkE at h
  split at h
  · rename_i elt tge iter tgb iterb ifs scope pos
    simp only [Bool.and_eq_true] at h
    obtain ⟨⟨⟨⟨⟨⟨⟨⟨⟨⟨⟨h1, h2⟩, h3⟩, h4⟩, h5⟩, h8⟩, h9⟩, h10⟩, h11⟩, h12⟩, h6⟩, h7⟩ := h
    have h3 := of_decide_eq_true h3
    have h8 := of_decide_eq_true h8
    have h9 := of_decide_eq_true h9
    have q1 := i1.i X cx tge iter h4
    have q2 := blkOk_by h1
    have q3 : ∀ (s : Shared) (H : Hp) (C : Addr) (cl : List (Str × Addr)) (fp : List Addr), PG (X.blk s H scope (compEnvC scope cl C X.env) fp) tge (gD L tg) := fun s H C cl fp => pg_D (X := X.blk s H scope (compEnvC scope cl C X.env) fp) cx.K cx.calm cx.nd (okc := blkOkc scope X.env.scope) (fun x hx => okc_blk x hx) h2
    have q8 : ∀ (s : Shared) (H : Hp) (C : Addr) (cl : List (Str × Addr)) (fp : List Addr), PI (X.blk s H scope (compEnvC scope cl C X.env) fp) tgb iterb (rdI L (evE T it1)) := fun s H C cl fp => i4.i (X.blk s H scope (compEnvC scope cl C X.env) fp) (cx.blk s H scope _ fp) tgb iterb h11
    have q9 : ∀ (s : Shared) (H : Hp) (C : Addr) (cl : List (Str × Addr)) (fp : List Addr), PG (X.blk s H scope (compEnvC scope cl C X.env) fp) tgb (gD L tg1) := fun s H C cl fp => pg_D (X := X.blk s H scope (compEnvC scope cl C X.env) fp) cx.K cx.calm cx.nd (okc := blkOkc scope X.env.scope) (fun x hx => okc_blk x hx) h10
    have q4 : ∀ (s : Shared) (H : Hp) (C : Addr) (cl : List (Str × Addr)) (fp : List Addr), PTs (X.blk s H scope (compEnvC scope cl C X.env) fp) ifs (rdB L (evE T c)) := fun s H C cl fp => ifs_D (X' := X.blk s H scope (compEnvC scope cl C X.env) fp) (cx.blk s H scope _ fp) i2 h6
    have q5 : ∀ (s : Shared) (H : Hp) (C : Addr) (cl : List (Str × Addr)) (fp : List Addr), PE (X.blk s H scope (compEnvC scope cl C X.env) fp) elt (rd L (evE T el)) := fun s H C cl fp => (i3.e (X.blk s H scope (compEnvC scope cl C X.env) fp) (cx.blk s H scope _ fp) elt h7).1
    have q6 : ∀ x, foldedSetIterable iter X.env x = pure x := fun x => folded_of h5
    have q10 : ∀ env x, foldedSetIterable iterb env x = pure x := fun env x => folded_of h12
    have q11 : ∀ i ∈ own1, i ∈ (ownL' X.N own).map (·.2) := by rw [ownL_snd]; exact h8
    have q12 : ∀ (s : Shared) (H : Hp) (C : Addr) (cl : List (Str × Addr)) (fp : List Addr), PTs (X.blk s H scope (compEnvC scope cl C X.env) fp) [] tYes := fun _ _ _ _ _ => pts_nil
    refine ⟨PE.weak (pe_lc2 (vs1 := own1) cx.calm cx.nd q1 q2 q11 q3 q12 q8 q9 q4 q5 q6 q10) fun σ H Q h => ?_, fun i y py spos hy hl hf => ?_, fun _ => rfl, fun _ _ _ z => nomatch z⟩
    · rw [ownL_snd]; exact comp2_le h3 h9 h
    · obtain ⟨b, hb, hbl⟩ := swaps_lc (elt := elt) (gs := [⟨tge, iter, [], 0⟩, ⟨tgb, iterb, ifs, 0⟩]) (scope := scope) (pos := pos) (py := py) (y := y) (ln := spos.line) (env := X.env)
      cases b with
      | true => exact PS.weak (ps_setLc2 (vs1 := own1) cx.calm cx.nd hy (hbl rfl) hb q1 q2 q11 q3 q12 q8 q9 q4 q5 q6 q10) fun D σ H h => by rw [ownL_snd]; exact comp2_le h3 h9 h
      | false => exact PS.weak (ps_set cx.nd hy hl (pe_lc2 (vs1 := own1) cx.calm cx.nd q1 q2 q11 q3 q12 q8 q9 q4 q5 q6 q10) hb hf) fun D σ H h => by rw [ownL_snd]; exact comp2_le h3 h9 h
  · exact absurd h Bool.false_ne_true
theorem noB {e : Expr} {m : Env → W D} (h1 : PE X e (rd L m)) (h2 : PT X e (rdB L m)) (hb : ∀ op es p, e ≠ .BoolOp op es p) :
    PE X e (rd L m) ∧ PT X e (rdB L m) ∧ ∀ op es p, e = .BoolOp op es p → PW X e (rdB L m) := ⟨h1, h2, fun op es p z => absurd z (hb op es p)⟩
theorem getT {j : Nat} {x : Str} (h : nameAt T j x = true) : ∃ m, T[j]? = some (x, m) := by
  unfold nameAt at h
  cases e : T[j]? with
  | none => rw [e] at h; exact absurd h Bool.false_ne_true
  | some p =>
    rw [e] at h
    have h' : decide (p.1 = x) = true := h
    have := of_decide_eq_true h'
    exact ⟨p.2, by rw [← this]⟩

theorem mv_all : ∀ c : CE, MV L k T c := by
  intro c
  induction c with
  | var i =>
    refine mv_val (fun _ _ _ _ => rfl) (fun _ _ es => by cases es <;> rfl) fun X cx e h => ?_
    unfold chkE at h
    split at h
    · simp only [Bool.and_eq_true, decide_eq_true_eq] at h
      exact mv_pl (pe_varD h.1.1 (visB_ok h.1.2) h.2) (fun _ => rfl) fun _ _ _ z => nomatch z
    · exact absurd h Bool.false_ne_true
  | int i =>
    refine mv_val (fun _ _ _ _ => rfl) (fun _ _ es => by cases es <;> rfl) fun X cx e h => ?_
    unfold chkE at h
    split at h
    · have h := of_decide_eq_true h
      subst h
      exact mv_pl (pe_cD pe_int fun _ _ _ => .int _) (fun _ => rfl) fun _ _ _ z => nomatch z
    · exact absurd h Bool.false_ne_true
  | bl i =>
    refine mv_val (fun _ _ _ _ => rfl) (fun _ _ es => by cases es <;> rfl) fun X cx e h => ?_
    unfold chkE at h
    split at h
    · have h := of_decide_eq_true h
      subst h
      exact mv_pl (pe_cD pe_bl fun _ _ _ => .bl _) (fun _ => rfl) fun _ _ _ z => nomatch z
    · exact absurd h Bool.false_ne_true
  | non =>
    refine mv_val (fun _ _ _ _ => rfl) (fun _ _ es => by cases es <;> rfl) fun X cx e h => ?_
    unfold chkE at h
    split at h
    · exact mv_pl (pe_cD pe_non fun _ _ _ => .non) (fun _ => rfl) fun _ _ _ z => nomatch z
    · exact absurd h Bool.false_ne_true
  | str i =>
    refine mv_val (fun _ _ _ _ => rfl) (fun _ _ es => by cases es <;> rfl) fun X cx e h => ?_
    unfold chkE at h
    split at h
    · have h := of_decide_eq_true h
      subst h
      exact mv_pl (pe_cD pe_str fun _ _ _ => .str _) (fun _ => rfl) fun _ _ _ z => nomatch z
    · exact absurd h Bool.false_ne_true
  | bin o a b ia ib =>
    refine mv_val (fun _ _ _ _ => rfl) (fun _ _ es => by cases es <;> rfl) fun X cx e h => ?_
    unfold chkE at h
    split at h
    · simp only [Bool.and_eq_true, decide_eq_true_eq] at h
      obtain ⟨⟨rfl, h1⟩, h2⟩ := h
      exact mv_pl (pe_binD cx.K (ia.e X cx _ h1).1 (ib.e X cx _ h2).1) (fun _ => rfl) fun _ _ _ z => nomatch z
    · exact absurd h Bool.false_ne_true
  | neg a ia =>
    refine mv_val (fun _ _ _ _ => rfl) (fun _ _ es => by cases es <;> rfl) fun X cx e h => ?_
    unfold chkE at h
    split at h
    · exact mv_pl (pe_negD (ia.e X cx _ h).1) (fun _ => rfl) fun _ _ _ z => nomatch z
    · exact absurd h Bool.false_ne_true
  | not a ia =>
    refine mv_val (fun _ _ _ _ => rfl) (fun _ _ es => by cases es <;> rfl) fun X cx e h => ?_
    unfold chkE at h
    split at h
    · exact noB (pe_notD (ia.e X cx _ h).1) (pt_notD (ia.e X cx _ h).2.1) fun _ _ _ z => nomatch z
    · exact absurd h Bool.false_ne_true
  | cmp o a b ia ib =>
    refine mv_val (fun _ _ _ _ => rfl) (fun _ _ es => by cases es <;> rfl) fun X cx e h => ?_
    unfold chkE at h
    split at h
    · simp only [Bool.and_eq_true, decide_eq_true_eq] at h
      obtain ⟨⟨⟨rfl, h1⟩, h2⟩, h3⟩ := h
      have hu := hu65 cx.room
      exact noB (pe_cmpD cx.K hu (ia.e X cx _ h1).1 (ib.e X cx _ h2).1 (mark_of h3)).1 (pe_cmpD cx.K hu (ia.e X cx _ h1).1 (ib.e X cx _ h2).1 (mark_of h3)).2 fun _ _ _ z => nomatch z
    · exact absurd h Bool.false_ne_true
  | chn o p a b c ia ib ic =>
    refine mv_val (fun _ _ _ _ => rfl) (fun _ _ es => by cases es <;> rfl) fun X cx e h => ?_
    unfold chkE at h
    split at h
    · simp only [Bool.and_eq_true, decide_eq_true_eq] at h
      obtain ⟨⟨⟨⟨⟨rfl, rfl⟩, h1⟩, h2⟩, h3⟩, h4⟩ := h
      have hu := hu65 cx.room
      exact noB (pe_chainD cx.K hu (ia.e X cx _ h1).1 (ib.e X cx _ h2).1 (ic.e X cx _ h3).1 (mark_of h4)).1 (pe_chainD cx.K hu (ia.e X cx _ h1).1 (ib.e X cx _ h2).1 (ic.e X cx _ h3).1 (mark_of h4)).2 fun _ _ _ z => nomatch z
    · exact absurd h Bool.false_ne_true
  | isN a ia =>
    refine mv_val (fun _ _ _ _ => rfl) (fun _ _ es => by cases es <;> rfl) fun X cx e h => ?_
    unfold chkE at h
    split at h
    · have he := (ia.e X cx _ h).1
      exact noB (PE.weak (pe_cmp (pc_isN he)) fun σ H Q h => isN_le h) (PT.weak (pt_cmp (pc_isN he)) fun σ H Q h => isN_le h) fun _ _ _ z => nomatch z
    · exact absurd h Bool.false_ne_true
  | notN a ia =>
    refine mv_val (fun _ _ _ _ => rfl) (fun _ _ es => by cases es <;> rfl) fun X cx e h => ?_
    unfold chkE at h
    split at h
    · have he := (ia.e X cx _ h).1
      exact noB (PE.weak (pe_cmp (pc_notN he)) fun σ H Q h => notN_le h) (PT.weak (pt_cmp (pc_notN he)) fun σ H Q h => notN_le h) fun _ _ _ z => nomatch z
    · exact absurd h Bool.false_ne_true
  | isB a b ia =>
    refine mv_val (fun _ _ _ _ => rfl) (fun _ _ es => by cases es <;> rfl) fun X cx e h => ?_
    unfold chkE at h
    split at h
    · simp only [Bool.and_eq_true, decide_eq_true_eq] at h
      obtain ⟨rfl, h1⟩ := h
      have he := (ia.e X cx _ h1).1
      exact noB (PE.weak (pe_cmpR op_is_bl he pe_bl rfl) fun σ H Q h => isB_le h) (PT.weak (pt_cmpR op_is_bl he pe_bl rfl) fun σ H Q h => isB_le h) fun _ _ _ z => nomatch z
    · exact absurd h Bool.false_ne_true
  | and a b ia ib =>
    refine mv_val (fun _ _ _ _ => rfl) (fun _ _ es => by cases es <;> rfl) fun X cx e h => ?_
    unfold chkE at h
    split at h
    · simp only [Bool.and_eq_true] at h
      obtain ⟨h1, h2⟩ := h
      obtain ⟨p1, t1, _⟩ := ia.e X cx _ h1
      obtain ⟨p2, t2, _⟩ := ib.e X cx _ h2
      have w := fun pos => PW.weak (pw_and (pos := pos) t1 (pw_and1 t2)) fun σ H Q h => andT_le (L := L) (ma := evE T a) (mb := evE T b) h
      exact ⟨PE.weak (pe_and p1 (pe_one p2)) fun σ H Q h => and_le h, (w _).pt, fun _ _ _ _ => w _⟩
    · simp only [Bool.and_eq_true] at h
      obtain ⟨h1, h2⟩ := h
      obtain ⟨p1, t1, _⟩ := ia.e X cx _ h1
      obtain ⟨p2, t2, w2⟩ := ib.e X cx _ h2
      have w := PW.weak (pw_and (pos := _) t1 (w2 _ _ _ rfl)) fun σ H Q h => andT_le h
      exact ⟨PE.weak (pe_and p1 p2) fun σ H Q h => and_le h, w.pt, fun _ _ _ _ => w⟩
    · exact absurd h Bool.false_ne_true
  | or a b ia ib =>
    refine mv_val (fun _ _ _ _ => rfl) (fun _ _ es => by cases es <;> rfl) fun X cx e h => ?_
    unfold chkE at h
    split at h
    · simp only [Bool.and_eq_true] at h
      obtain ⟨h1, h2⟩ := h
      obtain ⟨p1, t1, _⟩ := ia.e X cx _ h1
      obtain ⟨p2, t2, _⟩ := ib.e X cx _ h2
      have w := fun pos => PW.weak (pw_or (pos := pos) t1 (pw_or1 t2)) fun σ H Q h => orT_le (L := L) (ma := evE T a) (mb := evE T b) h
      exact ⟨PE.weak (pe_or p1 (pe_one p2)) fun σ H Q h => or_le h, (w _).pt, fun _ _ _ _ => w _⟩
    · simp only [Bool.and_eq_true] at h
      obtain ⟨h1, h2⟩ := h
      obtain ⟨p1, t1, _⟩ := ia.e X cx _ h1
      obtain ⟨p2, t2, w2⟩ := ib.e X cx _ h2
      have w := PW.weak (pw_or (pos := _) t1 (w2 _ _ _ rfl)) fun σ H Q h => orT_le h
      exact ⟨PE.weak (pe_or p1 p2) fun σ H Q h => or_le h, w.pt, fun _ _ _ _ => w⟩
    · exact absurd h Bool.false_ne_true
  | ite c a b ic ia ib =>
    refine mv_val (fun _ _ _ _ => rfl) (fun _ _ es => by cases es <;> rfl) fun X cx e h => ?_
    unfold chkE at h
    split at h
    · simp only [Bool.and_eq_true] at h
      obtain ⟨⟨h1, h2⟩, h3⟩ := h
      have c1 := ic.e X cx _ h1
      have c2 := ia.e X cx _ h2
      have c3 := ib.e X cx _ h3
      exact noB (PE.weak (pe_ifExp c1.2.1 c2.1 c3.1) fun σ H Q h => ite_le h) (PT.weak (pt_ifExp c1.2.1 c2.2.1 c3.2.1) fun σ H Q h => iteT_le h) fun _ _ _ z => nomatch z
    · exact absurd h Bool.false_ne_true
  | tup es ie =>
    refine mv_val (fun _ _ _ _ => rfl) (fun _ _ es => by cases es <;> rfl) fun X cx e h => ?_
    unfold chkE at h
    split at h
    · simp only [Bool.and_eq_true, decide_eq_true_eq] at h
      exact mv_pl (pe_tupD (ie.l X cx _ h.1) h.2) (fun _ => rfl) fun _ _ _ z => nomatch z
    · exact absurd h Bool.false_ne_true
  | lst es ie =>
    refine mv_val (fun _ _ _ _ => rfl) (fun _ _ es => by cases es <;> rfl) fun X cx e h => ?_
    unfold chkE at h
    split at h
    · simp only [Bool.and_eq_true, decide_eq_true_eq] at h
      exact mv_pl (rd_of_rdF' (pe_lstF (ie.l X cx _ h.1) h.2) (fun env => W.bind (evE T es env) itemsD) (by funext env; simp only [evE, W.bind_assoc])) (fun _ => rfl) fun _ _ _ z => nomatch z
    · exact absurd h Bool.false_ne_true
  | nil =>
    refine ⟨fun X cx e h => ?_, fun X cx tg e h => ?_, fun X cx es h => ?_⟩
    · unfold chkE at h; exact absurd h Bool.false_ne_true
    · unfold chkE at h; exact absurd h Bool.false_ne_true
    · cases es with
      | nil => exact pa_nilD
      | cons e es => unfold chkL at h; exact absurd h Bool.false_ne_true
  | cons a b ia ib =>
    refine ⟨fun X cx e h => ?_, fun X cx tg e h => ?_, fun X cx es h => ?_⟩
    · unfold chkE at h; exact absurd h Bool.false_ne_true
    · unfold chkE at h; exact absurd h Bool.false_ne_true
    · cases es with
      | nil => unfold chkL at h; exact absurd h Bool.false_ne_true
      | cons e es =>
        unfold chkL at h
        simp only [Bool.and_eq_true] at h
        exact pa_consD (ia.e X cx _ h.1).1 (ib.l X cx _ h.2) (chk_noStar h.1)
  | ix a b ia ib =>
    refine mv_val (fun _ _ _ _ => rfl) (fun _ _ es => by cases es <;> rfl) fun X cx e h => ?_
    unfold chkE at h
    split at h
    · simp only [Bool.and_eq_true] at h
      obtain ⟨⟨h1, h2⟩, h3⟩ := h
      exact mv_pl (pe_ixD cx.K (ia.e X cx _ h1).1 (ib.e X cx _ h2).1 h3) (fun _ => rfl) fun _ _ _ z => nomatch z
    · exact absurd h Bool.false_ne_true
  | sl a lo hi ia il ih =>
    refine mv_val (fun _ _ _ _ => rfl) (fun _ _ es => by cases es <;> rfl) fun X cx e h => ?_
    unfold chkE at h
    split at h
    · simp only [Bool.and_eq_true] at h
      obtain ⟨⟨h1, h2⟩, h3⟩ := h
      refine mv_pl (pe_slD cx.K (ia.e X cx _ h1).1 ?_ ?_) (fun _ => rfl) fun _ _ _ z => nomatch z
      · rename_i e1 l hh p1 p2
        cases l with
        | none => exact h2
        | some e2 =>
          simp only [Bool.and_eq_true, Bool.not_eq_true'] at h2
          exact ⟨h2.1, (il.e X cx _ h2.2).1⟩
      · rename_i e1 l hh p1 p2
        cases hh with
        | none => exact h3
        | some e2 =>
          simp only [Bool.and_eq_true, Bool.not_eq_true'] at h3
          exact ⟨h3.1, (ih.e X cx _ h3.2).1⟩
    · exact absurd h Bool.false_ne_true
  | call j es ie =>
    refine mv_val (fun _ _ _ _ => rfl) (fun _ _ es => by cases es <;> rfl) fun X cx e h => ?_
    unfold chkE at h
    split at h
    · rename_i x p l pos
      simp only [Bool.and_eq_true] at h
      obtain ⟨⟨h1, h2⟩, h3⟩ := h
      obtain ⟨m, hm⟩ := getT h1
      obtain ⟨g1, g2⟩ := glB_ok h2
      refine mv_pl ?_ (fun _ => rfl) fun _ _ _ z => nomatch z
      cases l with
      | nil =>
        cases es <;> try (unfold chkL at h3; exact absurd h3 Bool.false_ne_true)
        case nil => exact pe_call0D cx.K cx.room (cx.impl j x m hm) hm g1 g2
      | cons e l => exact pe_callD cx.K cx.room (cx.impl j x m hm) hm g1 g2 (ie.l X cx _ h3) (chkL_noStar h3)
    · exact absurd h Bool.false_ne_true
  | bi b es ie =>
    refine mv_val (fun _ _ _ _ => rfl) (fun _ _ es => by cases es <;> rfl) fun X cx e h => ?_
    unfold chkE at h
    split at h
    · simp only [Bool.and_eq_true, decide_eq_true_eq] at h
      obtain ⟨⟨rfl, h2⟩, h3⟩ := h
      obtain ⟨g1, g2⟩ := glB_ok h2
      exact mv_pl (pe_biD cx.K cx.calm (cx.free _ (bi_mem b)) g1 g2 (ie.l X cx _ h3) (chkL_noStar h3)) (fun _ => rfl) fun _ _ _ z => nomatch z
    · exact absurd h Bool.false_ne_true
  | isa a t ia =>
    refine mv_val (fun _ _ _ _ => rfl) (fun _ _ es => by cases es <;> rfl) fun X cx e h => ?_
    unfold chkE at h
    split at h
    · simp only [Bool.and_eq_true, decide_eq_true_eq] at h
      obtain ⟨⟨⟨⟨⟨rfl, h2⟩, h3⟩, h4⟩, rfl⟩, h6⟩ := h
      obtain ⟨g1, g2⟩ := glB_ok h2
      obtain ⟨g3, g4⟩ := glB_ok h6
      exact mv_pl (pe_isaD cx.K cx.free (of_decide_eq_true h4) g1 g3 g4 (ia.e X cx _ h3).1 (chk_noStar h3)) (fun _ => rfl) fun _ _ _ z => nomatch z
    · exact absurd h Bool.false_ne_true
  | comp own tg it c el i1 i2 i3 =>
    refine mv_val (fun _ _ _ _ => rfl) (fun _ _ es => by cases es <;> rfl) fun X cx e h => ?_
    obtain ⟨p, _, w, b⟩ := pe_compF cx i1 i2 i3 h
    exact mv_pl (rd_of_rdF' p (fun env => W.bind (evE T it env) fun v => W.bind (itemsD v) fun xs => flatW (compF tg own (evE T c) (evE T el) env) xs) (by funext env; simp only [evE, W.bind_assoc])) w b
  | comp2 own tg it own1 tg1 it1 c el i1 i4 i2 i3 =>
    refine mv_val (fun _ _ _ _ => rfl) (fun _ _ es => by cases es <;> rfl) fun X cx e h => ?_
    obtain ⟨p, _, w, b⟩ := pe_comp2F cx i1 i4 i2 i3 h
    exact mv_pl (rd_of_rdF' p (fun env => W.bind (evE T it env) fun v => W.bind (itemsD v) fun xs => flatW (compF2 xs.length tg own (evE T it1) tg1 own1 (evE T c) (evE T el) env) xs) (by funext env; simp only [evE, W.bind_assoc])) w b
  | rng1 a ia =>
    refine ⟨fun X cx e h => ?_, fun X cx tg e h => ?_, fun X cx es h => ?_⟩
    · unfold chkE at h
      split at h
      · simp [isTupT] at h
      · exact absurd h Bool.false_ne_true
    · unfold chkE at h
      split at h
      · simp only [Bool.and_eq_true, decide_eq_true_eq] at h
        obtain ⟨⟨⟨_, rfl⟩, h2⟩, h3⟩ := h
        obtain ⟨g1, g2⟩ := glB_ok h2
        exact pi_rng1D cx.K g1 (cx.free _ (by decide +kernel)) (ia.e X cx _ h3).1 (star_of (chk_noStar h3))
      · exact absurd h Bool.false_ne_true
    · cases es <;> (unfold chkL at h; exact absurd h Bool.false_ne_true)
  | rng2 a b ia ib =>
    refine ⟨fun X cx e h => ?_, fun X cx tg e h => ?_, fun X cx es h => ?_⟩
    · unfold chkE at h
      split at h
      · simp [isTupT] at h
      · exact absurd h Bool.false_ne_true
    · unfold chkE at h
      split at h
      · simp only [Bool.and_eq_true, decide_eq_true_eq] at h
        obtain ⟨⟨⟨⟨_, rfl⟩, h2⟩, h3⟩, h4⟩ := h
        obtain ⟨g1, g2⟩ := glB_ok h2
        exact pi_rng2D cx.K g1 (cx.free _ (by decide +kernel)) (ia.e X cx _ h3).1 (ib.e X cx _ h4).1 (by rw [star_of (chk_noStar h3), star_of (chk_noStar h4)]; rfl) (star_of (chk_noStar h4))
      · exact absurd h Bool.false_ne_true
    · cases es <;> (unfold chkL at h; exact absurd h Bool.false_ne_true)
  | zip a b ia ib =>
    refine ⟨fun X cx e h => ?_, fun X cx tg e h => ?_, fun X cx es h => ?_⟩
    · unfold chkE at h
      split at h
      · simp [isTupT] at h
      · exact absurd h Bool.false_ne_true
    · unfold chkE at h
      split at h
      · simp only [Bool.and_eq_true, decide_eq_true_eq] at h
        obtain ⟨⟨⟨⟨h0, rfl⟩, h2⟩, h3⟩, h4⟩ := h
        obtain ⟨g1, g2⟩ := glB_ok h2
        obtain ⟨_, _, _, rfl⟩ := isTupT_ok h0
        exact pi_zipD cx.K g1 (cx.free _ (by decide +kernel)) (ia.e X cx _ h3).1 (ib.e X cx _ h4).1 (star_of (chk_noStar h3)) (star_of (chk_noStar h4))
      · exact absurd h Bool.false_ne_true
    · cases es <;> (unfold chkL at h; exact absurd h Bool.false_ne_true)
  | enm a ia =>
    refine ⟨fun X cx e h => ?_, fun X cx tg e h => ?_, fun X cx es h => ?_⟩
    · unfold chkE at h
      split at h
      · simp [isTupT] at h
      · exact absurd h Bool.false_ne_true
    · unfold chkE at h
      split at h
      · simp only [Bool.and_eq_true, decide_eq_true_eq] at h
        obtain ⟨⟨⟨h0, rfl⟩, h2⟩, h3⟩ := h
        obtain ⟨g1, g2⟩ := glB_ok h2
        obtain ⟨_, _, _, rfl⟩ := isTupT_ok h0
        exact pi_enmD cx.K g1 (cx.free _ (by decide +kernel)) (ia.e X cx _ h3).1 (star_of (chk_noStar h3))
      · exact absurd h Bool.false_ne_true
    · cases es <;> (unfold chkL at h; exact absurd h Bool.false_ne_true)
end
end PV
/-! PV, part j: fresh lists; values that are stored; the state of a def's body. -/
namespace PV
open PySem PySem.Spec PyProof.Rows L2

def noComp : Expr → Bool
  | .ListComp .. => false
  | .SetComp .. => false
  | .DictComp .. => false
  | _ => true
theorem swaps_plain {e : Expr} {t : Option Expr} {ln : Nat} {env : PySem.Env} (h : noComp e = true) : swapsWith e t ln env = pure false := by
  cases e <;> first | rfl | cases h
def isComp : CE → Bool
  | .comp .. => true
  | .comp2 .. => true
  | _ => false
theorem chk_noComp {N : List Str} {T : Tab} {c : CE} {sc : Scope} {md : Option Expr} {e : Expr} (hc : isComp c = false) (h : chkE N T c sc md e = true) : noComp e = true := by
  cases e <;> try rfl
  all_goals
    cases c <;> first
      | exact absurd (show true = false from hc).symm Bool.false_ne_true
      | (unfold chkE at h; first | exact absurd h Bool.false_ne_true | (split at h <;> first | exact absurd h Bool.false_ne_true | (rename_i hx; cases hx)))
/-- what makes a new list -/
def isFr : CE → Bool
  | .lst _ => true
  | .comp .. => true
  | .comp2 .. => true
  | .bin .Add _ _ => true
  | .bin .Mult _ _ => true
  | .bi .list _ => true
  | .sl .. => true
  | _ => false
section
variable {L : Lay} {A : Ad} {F F' F0 F1 : Reg} {H H' H0 H1 : Hp} {σ : L2.St} {X : Cx} {k : Nat} {T : Tab} {Q : VK}
theorem rd_le_rdF {m : Env → W (List D)} {σ : L2.St} {H : Hp} {Q : VK} (h : rd L (fun env => W.bind (m env) fun ys => W.ret (.lst ys)) σ H Q) : rdF L (fun env => W.bind (m env) fun ys => W.ret (.lst ys)) σ H Q := by
  obtain ⟨A, F, env, ek, Qd, hm, hr, hq⟩ := h
  refine ⟨A, F, env, ek, (fun r => match r with | .error e => Qd (.error e) | .ok (.lst ds) => Qd (.ok (.lst ds)) | .ok _ => False), hm, fun x q => hr x q, fun d q => ?_, fun F' H' p ds vs a q => ?_⟩
  · cases d <;> first | exact ⟨_, rfl⟩ | exact False.elim q
  · refine hq (addR F' p) H' (.lst ds) (.ref p) ⟨fun b f => .inl (a.g.f b f), fun b f => f.elim (a.g.n b) fun z => .inr (z ▸ a.n), a.g.h⟩ (sok_add a.s a.at_ a.ne) (.lst (.inr rfl) a.at_ (a.r.evo a.s evo_add)) q
theorem pz_plain {e : Expr} {t : TE} (cx : Ctx L k T X) (h : PE X e t) (hn : noComp e = true) : PZ X e t := fun i y py spos h1 h2 h3 => ps_set cx.nd h1 h2 h (swaps_plain hn) h3
theorem pz_all (cx : Ctx L k T X) {c : CE} {e : Expr} (h : chkE X.N T c X.env.scope none e = true) : PZ X e (rd L (evE T c)) := by
  by_cases hc : isComp c = true
  · cases c <;> try exact absurd (show false = true from hc) Bool.false_ne_true
    case comp own tg it c el =>
      refine PZ.weak (pe_compF cx (mv_all it) (mv_all c) (mv_all el) h).2.1 fun σ H Q q => ?_
      have e1 : evE T (.comp own tg it c el) = fun env => W.bind (W.bind (evE T it env) fun v => W.bind (itemsD v) fun xs => flatW (compF tg own (evE T c) (evE T el) env) xs) fun ys => W.ret (.lst ys) := by funext env; simp only [evE, W.bind_assoc]
      rw [e1] at q ⊢
      exact rd_le_rdF q
    case comp2 own tg it own1 tg1 it1 c el =>
      refine PZ.weak (pe_comp2F cx (mv_all it) (mv_all it1) (mv_all c) (mv_all el) h).2.1 fun σ H Q q => ?_
      have e1 : evE T (.comp2 own tg it own1 tg1 it1 c el) = fun env => W.bind (W.bind (evE T it env) fun v => W.bind (itemsD v) fun xs => flatW (compF2 xs.length tg own (evE T it1) tg1 own1 (evE T c) (evE T el) env) xs) fun ys => W.ret (.lst ys) := by funext env; simp only [evE, W.bind_assoc]
      rw [e1] at q ⊢
      exact rd_le_rdF q
  · exact pz_plain cx ((mv_all c).e X cx e h).1 (chk_noComp (by simpa using hc) h)

/-! ### operators that make new lists -/
def rBinF (L : Lay) (m : D → D → W D) : R2 := fun x y H Q => ∃ A F dx dy, SOk L A F H ∧ Rp L A F H dx x ∧ Rp L A F H dy y ∧ SndF L A F H (m dx dy) Q
theorem sndF_if {c : Prop} [Decidable c] {a : W D} (q : SndF L A F H (if c then a else W.fail) Q) : c ∧ SndF L A F H a Q := by
  by_cases h : c
  · rw [if_pos h] at q; exact ⟨h, q⟩
  · rw [if_neg h] at q; exact (q.choose_spec.1 : False).elim
theorem sndF_no (q : SndF L A F H (W.fail : W D) Q) : False := q.choose_spec.1
theorem sndF_ret {d : D} (q : SndF L A F H (W.ret d) Q) : ∃ ds, d = .lst ds := by
  obtain ⟨Qd, a, _, b, _⟩ := q
  exact b d a
theorem qF {p : Addr} {ds : List D} {vs : List V} (q : SndF L A F H (W.ret (.lst ds)) Q) (so : SOk L A F H) (r : Rps L A F H ds vs) (hp : H p = none) : Q (.ref p) (upd H p (.lst vs)) := by
  obtain ⟨Qd, a, _, _, c⟩ := q
  exact c _ _ p ds vs (acc_new so hp r) a
theorem op_addF (hK : L.K = X.K) : OpR X (binaryOp .Add) (rBinF L addD) := by
  intro pins s σ H x y v u Q I rx ry h
  obtain ⟨A, F, dx, dy, so, qx, qy, q⟩ := h
  cases dx <;> cases dy <;> try exact (sndF_no q).elim
  case int.int i j =>
    obtain ⟨_, e⟩ := sndF_ret (show SndF L A F H (W.ret _) Q from q)
    cases e
  case str.str i j =>
    obtain ⟨_, q⟩ := sndF_if q
    obtain ⟨_, e⟩ := sndF_ret q
    cases e
  case tup.tup i j =>
    obtain ⟨_, q⟩ := sndF_if q
    obtain ⟨_, e⟩ := sndF_ret q
    cases e
  case lst.lst ds es =>
    obtain ⟨c, q⟩ := sndF_if q
    cases qx with
    | lst fa ha ra =>
      cases qy with
      | lst fb hb rb => exact op_cat pins s σ H _ _ v u Q I rx ry ⟨_, _, _, _, rfl, rfl, ha, hb, by rw [← ra.length, ← rb.length]; exact c, fun p hp => qF q so (ra.append rb) hp⟩
theorem op_mulF (hK : L.K = X.K) : OpR X (binaryOp .Mult) (rBinF L mulD) := by
  intro pins s σ H x y v u Q I rx ry h
  obtain ⟨A, F, dx, dy, so, qx, qy, q⟩ := h
  cases dx <;> cases dy <;> try exact (sndF_no q).elim
  case int.int i j =>
    obtain ⟨_, q⟩ := sndF_if q
    obtain ⟨_, e⟩ := sndF_ret q
    cases e
  case tup.int i j =>
    obtain ⟨_, q⟩ := sndF_if q
    obtain ⟨_, e⟩ := sndF_ret q
    cases e
  case lst.int ds i =>
    obtain ⟨c, q⟩ := sndF_if q
    cases qx with
    | lst fa ha ra =>
      cases qy with
      | int => exact op_rep pins s σ H _ _ v u Q I rx ry ⟨_, i, _, rfl, rfl, ha, c.1, c.2.1, by rw [← ra.length]; exact c.2.2, fun p hp => qF q so (ra.rep _) hp⟩
theorem SndF.bind {w : W D} {kk : D → W D} (h : SndF L A F H (W.bind w kk) Q) (s : SOk L A F H) : Snd L A F H w fun v H1 => ∃ F1 d, Grow A F H F1 H1 ∧ SOk L A F1 H1 ∧ Rp L A F1 H1 d v ∧ SndF L A F1 H1 (kk d) Q := by
  obtain ⟨Qd, a, b, hl, c⟩ := h
  exact ⟨_, a, fun e q => b e q, fun F1 H1 d v g s r q => ⟨F1, d, g, s, r, Qd, q, b, hl, fun F2 H2 p ds vs a q2 => c F2 H2 p ds vs (acc_to a g s) q2⟩⟩
theorem binF_le {m : D → D → W D} {ma mb : Env → W D} {σ : L2.St} {H : Hp} {Q : VK} (h : rdF L (fun env => W.bind (ma env) fun x => W.bind (mb env) fun y => m x y) σ H Q) : tOp (rBinF L m) (rd L ma) (rd L mb) σ H Q := by
  obtain ⟨A, F, env, ek, s⟩ := h
  exact ⟨A, F, env, ek, (s.bind ek.s).mono fun v H1 ⟨F1, d, g, s1, r, q⟩ => ⟨A, F1, env, ek.grow g s1, (q.bind s1).mono fun v2 H2 ⟨F2, d2, g2, s2, r2, q2⟩ => ⟨A, F2, d, d2, s2, r.grow s1 g2, r2, q2⟩⟩⟩
theorem call_listF (hK : L.K = X.K) : CallR X (.type "list") (fun vs H Q => ∃ A F ds, SOk L A F H ∧ Rps L A F H ds vs ∧ SndF L A F H (biD .list ds) Q) := by
  intro pins s σ H vs us Q I rv h
  obtain ⟨A, F, ds, so, rd, q⟩ := h
  match ds, rd, q with
  | [.tup ys], rd, q =>
    obtain ⟨v, rfl, ry⟩ := rps_one rd
    cases ry with
    | tup h r => exact call_list_of pins s σ H _ us Q I rv ⟨_, _, rfl, .inr (by rw [← hK]; exact h), fun l hl => qF q so r hl⟩
  | [.lst ys], rd, q =>
    obtain ⟨v, rfl, ry⟩ := rps_one rd
    cases ry with
    | lst f h r => exact call_list_of pins s σ H _ us Q I rv ⟨_, _, rfl, .inl (.inl (.inl h)), fun l hl => qF q so r hl⟩
theorem sl_F (hK : L.K = X.K) : SlR X (fun x lo hi H Q => ∃ A F dx, SOk L A F H ∧ Rp L A F H dx x ∧ SndF L A F H (slD dx lo hi) Q) := by
  intro pins s σ H x v vl vu lo hi sl Q I rx hs pl pu h
  obtain ⟨A, F, dx, so, qx, q⟩ := h
  cases dx <;> try exact (sndF_no q).elim
  case tup ds =>
    obtain ⟨_, e⟩ := sndF_ret (show SndF L A F H (W.ret _) Q from q)
    cases e
  case lst ds =>
    cases qx with
    | lst fa ha ra =>
      replace q : SndF L A F H (W.ret (.lst (cutD ds lo hi))) Q := q
      exact sl_list pins s σ H _ v vl vu lo hi sl Q I rx hs pl pu ⟨_, _, rfl, .inl (.inl ha), fun p hp => qF q so (cut_rps ra) hp⟩
theorem part_of (cx : Ctx L k T X) : ∀ (l : Option Expr) (c : CE), (match l with
        | none => isNil c
        | some e2 => !isNil c && chkE X.N T c X.env.scope none e2) = true → (match l with | none => isNil c = true | some e => isNil c = false ∧ PE X e (rd L (evE T c)))
  | none, c, h => h
  | some e2, c, h => by
    simp only [Bool.and_eq_true, Bool.not_eq_true'] at h
    exact ⟨h.1, ((mv_all c).e X cx _ h.2).1⟩
theorem fr_all (cx : Ctx L k T X) {c : CE} (hf : isFr c = true) {e : Expr} (h : chkE X.N T c X.env.scope none e = true) : PE X e (rdF L (evE T c)) ∧ PZ X e (rdF L (evE T c)) := by
  by_cases hc : isComp c = true
  · cases c <;> try exact absurd (show false = true from hc) Bool.false_ne_true
    case comp own tg it c el => exact ⟨(pe_compF cx (mv_all it) (mv_all c) (mv_all el) h).1, (pe_compF cx (mv_all it) (mv_all c) (mv_all el) h).2.1⟩
    case comp2 own tg it own1 tg1 it1 c el => exact ⟨(pe_comp2F cx (mv_all it) (mv_all it1) (mv_all c) (mv_all el) h).1, (pe_comp2F cx (mv_all it) (mv_all it1) (mv_all c) (mv_all el) h).2.1⟩
  · have hn := chk_noComp (by simpa using hc) h
    refine (fun z => ⟨z, pz_plain cx z hn⟩) ?_
    cases c <;> try exact absurd (show false = true from hf) Bool.false_ne_true
    case lst es =>
      unfold chkE at h
      split at h
      · simp only [Bool.and_eq_true, decide_eq_true_eq] at h
        exact pe_lstF ((mv_all es).l X cx _ h.1) h.2
      · exact absurd h Bool.false_ne_true
    case comp => exact absurd rfl hc
    case comp2 => exact absurd rfl hc
    case bin o a b =>
      unfold chkE at h
      split at h
      · simp only [Bool.and_eq_true, decide_eq_true_eq] at h
        obtain ⟨⟨rfl, h1⟩, h2⟩ := h
        cases o <;> try exact absurd (show false = true from hf) Bool.false_ne_true
        case Add => exact PE.weak (pe_op (op_addF cx.K) ((mv_all a).e X cx _ h1).1 ((mv_all b).e X cx _ h2).1) fun σ H Q q => binF_le q
        case Mult => exact PE.weak (pe_op (op_mulF cx.K) ((mv_all a).e X cx _ h1).1 ((mv_all b).e X cx _ h2).1) fun σ H Q q => binF_le q
      · exact absurd h Bool.false_ne_true
    case bi b es =>
      cases b <;> try exact absurd (show false = true from hf) Bool.false_ne_true
      case list =>
        unfold chkE at h
        split at h
        · simp only [Bool.and_eq_true, decide_eq_true_eq] at h
          obtain ⟨⟨rfl, h2⟩, h3⟩ := h
          obtain ⟨g1, g2⟩ := glB_ok h2
          have hs := chkL_noStar h3
          refine PE.weak (pe_callTy (call_listF cx.K) g1 (cx.free _ (by decide +kernel)) (by decide +kernel) ((mv_all es).l X cx _ h3) (plainN_3 g2) (plainN_1 g2) (star_of (hs _ List.mem_cons_self)) (star_any fun e he => hs e (List.mem_cons_of_mem _ he))) fun σ H Q ⟨A, F, env, ek, Qd, hm, hr, hl, hq⟩ => ?_
          exact ⟨A, F, env, ek, _, hm, fun x q => hr x q, fun F1 H1 ds vs hl' g s r q => ⟨A, F1, ds, s, r, Qd, q, hr, hl, fun F2 H2 p ds vs a q2 => hq F2 H2 p ds vs (acc_to a g s) q2⟩⟩
        · exact absurd h Bool.false_ne_true
    case sl a lo hi =>
      unfold chkE at h
      split at h
      · rename_i e1 l hh p1 p2
        simp only [Bool.and_eq_true] at h
        obtain ⟨⟨h1, h2⟩, h3⟩ := h
        have hl := part_of cx l lo h2
        have hh' := part_of cx hh hi h3
        obtain ⟨tl, pl, ml⟩ := po_D hl
        obtain ⟨th, ph, mh⟩ := po_D hh'
        refine PE.weak (pe_slice (sl_F cx.K) ((mv_all a).e X cx _ h1).1 pl ph) fun σ H Q ⟨A, F, env, ek, Qd, hm, hr, hlst, hq⟩ => ?_
        refine ⟨A, F, env, ek, _, hm, fun x q => hr x q, fun F1 H1 d v g s r q => ml _ _ _ ⟨A, F1, env, ek.grow g s, _, q, fun x q => hr x q, fun F2 H2 i g2 s2 q2 => mh _ _ _ ⟨A, F2, env, (ek.grow g s).grow g2 s2, _, q2, fun x q => hr x q, fun F3 H3 j g3 s3 q3 => ?_⟩⟩⟩
        exact ⟨A, F3, d, s3, (r.grow s g2).grow s2 g3, Qd, q3, hr, hlst, fun F4 H4 p ds vs a q4 => hq F4 H4 p ds vs (acc_to a ((g.trans s g2).trans s2 g3) s3) q4⟩
      · exact absurd h Bool.false_ne_true
end
end PV
/-! PV, part k: the state of a def's body. -/
namespace PV
open PySem PySem.Spec PyProof.Rows L2

/-- the slots of a body: shared data, lists of its own; since the entry (F0, H0) -/
structure SK (L : Lay) (A : Ad) (F0 : Reg) (H0 : Hp) (F : Reg) (σ : L2.St) (H : Hp) (env : SEnv) : Prop where
  s : SOk L A F H
  g : Grow A F0 H0 F H
  l : σ.length = env.length
  sh : ∀ (i : Nat) (d : D), env[i]? = some (some (false, d)) → ∃ v : V, σ[i]? = some (some v) ∧ Rp L A F H d v
  ow : ∀ (i : Nat) (d : D), env[i]? = some (some (true, d)) → ∃ (p : Addr) (ds : List D) (vs : List V), d = .lst ds ∧ σ[i]? = some (some (.ref p)) ∧ Acc L A F0 H0 p F H ds vs
  di : ∀ (i j : Nat) (di dj : D) (p : Addr), env[i]? = some (some (true, di)) → env[j]? = some (some (true, dj)) → σ[i]? = some (some (V.ref p)) → σ[j]? = some (some (V.ref p)) → i = j
section
variable {L : Lay} {A : Ad} {F F' F0 F1 F2 : Reg} {H H' H0 H1 H2 : Hp} {σ : L2.St} {X : Cx} {env : SEnv}

theorem opn_get {fz : List Nat} {i : Nat} {d : D} (h : (opn fz env)[i]? = some (some d)) : env[i]? = some (some (false, d)) ∨ (env[i]? = some (some (true, d)) ∧ i ∈ fz) := by
  unfold opn at h
  rw [List.getElem?_mapIdx] at h
  cases e : env[i]? with
  | none => rw [e] at h; cases h
  | some c =>
    rw [e] at h
    cases c with
    | none => cases h
    | some c =>
      obtain ⟨o, d'⟩ := c
      cases o with
      | false =>
        have h' : some (some d') = some (some d) := h
        cases h'
        exact .inl rfl
      | true =>
        have h' : some (if i ∈ fz then some d' else none) = some (some d) := h
        by_cases z : i ∈ fz
        · rw [if_pos z] at h'; cases h'
          exact .inr ⟨rfl, z⟩
        · rw [if_neg z] at h'; cases h'
theorem opn_length (fz : List Nat) : (opn fz env).length = env.length := by unfold opn; simp
theorem opnAll_eq : opnAll env = opn (List.range env.length) env := by
  refine List.ext_getElem? fun i => ?_
  unfold opnAll opn
  rw [List.getElem?_map, List.getElem?_mapIdx]
  cases e : env[i]? with
  | none => rfl
  | some c =>
    have hi : i < env.length := by
      rcases Nat.lt_or_ge i env.length with h | h
      · exact h
      · rw [List.getElem?_eq_none h] at e; cases e
    cases c with
    | none => rfl
    | some c =>
      obtain ⟨o, d⟩ := c
      cases o with
      | false => rfl
      | true =>
        show some (some d) = some (if i ∈ List.range env.length then some d else none)
        rw [if_pos (List.mem_range.mpr hi)]
theorem frz_get (fz : List Nat) (i : Nat) : (frz fz env)[i]? = (env[i]?).map fun c => c.map fun p => (if i ∈ fz then false else p.1, p.2) := by
  unfold frz
  rw [List.getElem?_mapIdx]
  cases env[i]? with
  | none => rfl
  | some c => cases c <;> rfl
theorem frz_length (fz : List Nat) : (frz fz env).length = env.length := by unfold frz; simp
theorem frz_false {fz : List Nat} {i : Nat} {d : D} (h : (frz fz env)[i]? = some (some (false, d))) : env[i]? = some (some (false, d)) ∨ (env[i]? = some (some (true, d)) ∧ i ∈ fz) := by
  rw [frz_get] at h
  cases e : env[i]? with
  | none => rw [e] at h; cases h
  | some c =>
    rw [e] at h
    cases c with
    | none => cases h
    | some c =>
      obtain ⟨o, d'⟩ := c
      have h' : some (some (if i ∈ fz then false else o, d')) = some (some (false, d)) := h
      simp only [Option.some.injEq, Prod.mk.injEq] at h'
      obtain ⟨h1, rfl⟩ := h'
      cases o with
      | false => exact .inl rfl
      | true =>
        by_cases z : i ∈ fz
        · exact .inr ⟨rfl, z⟩
        · rw [if_neg z] at h1; cases h1
theorem frz_true {fz : List Nat} {i : Nat} {d : D} (h : (frz fz env)[i]? = some (some (true, d))) : env[i]? = some (some (true, d)) ∧ i ∉ fz := by
  rw [frz_get] at h
  cases e : env[i]? with
  | none => rw [e] at h; cases h
  | some c =>
    rw [e] at h
    cases c with
    | none => cases h
    | some c =>
      obtain ⟨o, d'⟩ := c
      have h' : some (some (if i ∈ fz then false else o, d')) = some (some (true, d)) := h
      simp only [Option.some.injEq, Prod.mk.injEq] at h'
      obtain ⟨h1, rfl⟩ := h'
      by_cases z : i ∈ fz
      · rw [if_pos z] at h1; cases h1
      · rw [if_neg z] at h1
        subst h1
        exact ⟨rfl, z⟩

/-- the region with the lists of the opened slots -/
def opR (F : Reg) (σ : L2.St) (env : SEnv) (fz : List Nat) : Reg := fun a => F a ∨ ∃ (i : Nat) (d : D), i ∈ fz ∧ env[i]? = some (some (true, d)) ∧ σ[i]? = some (some (V.ref a))
theorem SK.own_at (k : SK L A F0 H0 F σ H env) {i : Nat} {d : D} {a : Addr} (h1 : env[i]? = some (some (true, d))) (h2 : σ[i]? = some (some (V.ref a))) : ∃ ds vs, d = .lst ds ∧ Acc L A F0 H0 a F H ds vs := by
  obtain ⟨p, ds, vs, e, q, ac⟩ := k.ow i d h1
  rw [h2] at q
  cases q
  exact ⟨ds, vs, e, ac⟩
theorem opR_evo (k : SK L A F0 H0 F σ H env) {fz : List Nat} : Evo A F H (opR F σ env fz) H := ⟨fun _ h => .inl h, fun _ _ h _ _ => h⟩
theorem opR_ok (k : SK L A F0 H0 F σ H env) (fz : List Nat) : SOk L A (opR F σ env fz) H := by
  refine ⟨fun a f => ?_, fun f => ?_, k.s.t.at k.s.s (opR_evo k) rfl⟩
  · rcases f with f | ⟨i, d, _, h1, h2⟩
    · exact k.s.d a f
    · obtain ⟨_, _, _, ac⟩ := k.own_at h1 h2
      rw [ac.at_]; simp
  · rcases f with f | ⟨i, d, _, h1, h2⟩
    · exact k.s.s f
    · obtain ⟨_, _, _, ac⟩ := k.own_at h1 h2
      exact ac.ne rfl
theorem opR_grow (k : SK L A F0 H0 F σ H env) (fz : List Nat) : Grow A F0 H0 (opR F σ env fz) H := by
  refine ⟨fun a h => .inl (k.g.f a h), fun a f => ?_, k.g.h⟩
  rcases f with f | ⟨i, d, _, h1, h2⟩
  · exact k.g.n a f
  · obtain ⟨_, _, _, ac⟩ := k.own_at h1 h2
    exact .inr ac.n
theorem SK.opn (k : SK L A F0 H0 F σ H env) (fz : List Nat) : EOk L A (opR F σ env fz) σ H (PV.opn fz env) := by
  refine ⟨opR_ok k fz, by rw [opn_length]; exact k.l, fun i d h => ?_⟩
  rcases opn_get h with h | ⟨h, hz⟩
  · obtain ⟨v, q, r⟩ := k.sh i d h
    exact ⟨v, q, r.evo k.s (opR_evo k)⟩
  · obtain ⟨p, ds, vs, rfl, q, ac⟩ := k.ow i d h
    exact ⟨.ref p, q, .lst (.inr ⟨i, _, hz, h, q⟩) ac.at_ (ac.r.evo k.s (opR_evo k))⟩

/-- C's part of the tape from here, S's from there -/
theorem TapeOk.mix (t : TapeOk L A F H) (ns : ¬ F A.S) (hS : ∃ xs, H A.S = some (.lst xs)) (g : Evo A F H F2 H') (t' : TapeOk L A F' H') : TapeOk L A F2 H' := by
  obtain ⟨n1, _, _, _, q, l, _, _⟩ := t
  obtain ⟨_, p, r, h, _, _, b, e⟩ := t'
  obtain ⟨xs, eS⟩ := hS
  refine ⟨n1, p, r, h, ?_, l, b, e⟩
  rcases q with ⟨f, q⟩ | ⟨o, q⟩ | q
  · exact .inl ⟨g.f _ f, g.h _ _ q (fun z => ns (z ▸ f)) (.inl f)⟩
  · refine .inr (.inl ⟨o, g.h _ _ q (fun z => ?_) (.inr fun _ z => nomatch z)⟩)
    rw [z, eS] at q; cases q
  · exact .inr (.inr q)
mutual
theorem Rp.noL : ∀ {d : D} {v : V}, Rp L A F H d v → PV.noL d = true → Rp L A F' H d v
  | _, _, .non, _ => .non
  | _, _, .bl b, _ => .bl b
  | _, _, .int i, _ => .int i
  | _, _, .str x, _ => .str x
  | .tup ds, _, .tup h r, e => .tup h (Rps.noL r (by unfold PV.noL at e; exact e))
  | _, _, .lst f h r, e => by unfold PV.noL at e; exact absurd e Bool.false_ne_true
  | _, _, .tape, _ => .tape
  | _, _, .scr, _ => .scr
theorem Rps.noL : ∀ {ds : List D} {vs : List V}, Rps L A F H ds vs → noLs ds = true → Rps L A F' H ds vs
  | _, _, .nil, _ => .nil
  | d :: ds, _, .cons a b, e => by
    unfold noLs at e
    rw [Bool.and_eq_true] at e
    exact .cons (Rp.noL a e.1) (Rps.noL b e.2)
end
theorem noLs_all : ∀ {ds : List D}, noLs ds = true → PV.noL (.tup ds) = true := fun h => by unfold PV.noL; exact h

/-- behind an expression, what was opened is frozen -/
theorem SK.frz (k : SK L A F0 H0 F σ H env) {fz : List Nat} (g : Grow A (opR F σ env fz) H F' H') (s : SOk L A F' H') : SK L A F0 H0 F' σ H' (PV.frz fz env) := by
  have e1 : Evo A F H F' H' := (opR_evo k (fz := fz)).trans g.evo
  refine ⟨s, (opR_grow k fz).trans (opR_ok k fz) g, by rw [frz_length]; exact k.l, fun i d h => ?_, fun i d h => ?_, fun i j di dj p h1 h2 h3 h4 => ?_⟩
  · rcases frz_false h with h | ⟨h, hz⟩
    · obtain ⟨v, q, r⟩ := k.sh i d h
      exact ⟨v, q, r.evo k.s e1⟩
    · obtain ⟨p, ds, vs, rfl, q, ac⟩ := k.ow i d h
      exact ⟨.ref p, q, .lst (g.f _ (.inr ⟨i, _, hz, h, q⟩)) (g.h _ _ ac.at_ ac.ne) (ac.r.evo k.s e1)⟩
  · obtain ⟨h, hz⟩ := frz_true h
    obtain ⟨p, ds, vs, rfl, q, ac⟩ := k.ow i d h
    refine ⟨p, ds, vs, rfl, q, ac.n, (opR_grow k fz).trans (opR_ok k fz) g, s, fun f => ?_, g.h _ _ ac.at_ ac.ne, ac.r.evo k.s e1, ac.ne⟩
    rcases g.n _ f with f | f
    · rcases f with f | ⟨j, dj, hj, h1, h2⟩
      · exact ac.nf f
      · exact hz (k.di i j _ dj p h h1 q h2 ▸ hj)
    · rw [ac.at_] at f; cases f
  · exact k.di i j di dj p (frz_true h1).1 (frz_true h2).1 h3 h4
/-- .. or it is as it was, where the value holds no list -/
def nwR (F F' : Reg) (H : Hp) : Reg := fun a => F a ∨ (F' a ∧ H a = none)
theorem SK.unf (k : SK L A F0 H0 F σ H env) {fz : List Nat} (g : Grow A (opR F σ env fz) H F' H') (s : SOk L A F' H') : SK L A F0 H0 (nwR F F' H) σ H' env ∧ Evo A F H (nwR F F' H) H' := by
  have e1 : Evo A F H (nwR F F' H) H' := ⟨fun _ h => .inl h, fun a o h z _ => g.h a o h z⟩
  have s1 : SOk L A (nwR F F' H) H' := by
    refine ⟨fun a f => ?_, fun f => f.elim k.s.s fun z => s.s z.1, k.s.t.mix k.s.s k.s.tape e1 s.t⟩
    rcases f with f | f
    · exact s.d a (g.f a (.inl f))
    · exact s.d a f.1
  have g1 : Grow A F0 H0 (nwR F F' H) H' := by
    refine ⟨fun a h => .inl (k.g.f a h), fun a f => ?_, fun a o h z => g.h a o (k.g.h a o h z) z⟩
    rcases f with f | ⟨f, hn⟩
    · exact k.g.n a f
    · cases e : H0 a with
      | none => exact .inr rfl
      | some o =>
        by_cases z : a = A.S
        · subst z
          exact absurd f s.s
        · rw [k.g.h a o e z] at hn; cases hn
  refine ⟨⟨s1, g1, k.l, fun i d h => ?_, fun i d h => ?_, k.di⟩, e1⟩
  · obtain ⟨v, q, r⟩ := k.sh i d h
    exact ⟨v, q, r.evo k.s e1⟩
  · obtain ⟨p, ds, vs, rfl, q, ac⟩ := k.ow i d h
    refine ⟨p, ds, vs, rfl, q, ac.n, g1, s1, fun f => ?_, g.h _ _ ac.at_ ac.ne, ac.r.evo k.s e1, ac.ne⟩
    rcases f with f | ⟨_, f⟩
    · exact ac.nf f
    · rw [ac.at_] at f; cases f
theorem frz_nil : PV.frz [] env = env := by
  refine List.ext_getElem? fun i => ?_
  rw [frz_get]
  cases env[i]? with
  | none => rfl
  | some c =>
    cases c with
    | none => rfl
    | some c => rfl
/-- behind an expression that has a value -/
theorem SK.after (k : SK L A F0 H0 F σ H env) {fz : List Nat} (g : Grow A (opR F σ env fz) H F' H') (s : SOk L A F' H') {d : D} {v : V} (r : Rp L A F' H' d v) :
    ∃ F2, SK L A F0 H0 F2 σ H' (keepF fz (PV.noL d) env) ∧ Rp L A F2 H' d v ∧ Evo A F H F2 H' := by
  unfold keepF
  by_cases h1 : fz = []
  · rw [if_pos (.inl h1)]
    have := k.frz g s
    rw [h1, frz_nil] at this
    exact ⟨F', this, r, (opR_evo k (fz := fz)).trans g.evo⟩
  · by_cases h2 : PV.noL d = true
    · rw [if_pos (.inr h2)]
      obtain ⟨a, b⟩ := k.unf g s
      exact ⟨_, a, r.noL h2, b⟩
    · rw [if_neg (fun z => z.elim h1 h2)]
      exact ⟨F', k.frz g s, r, (opR_evo k (fz := fz)).trans g.evo⟩
theorem SK.afterL (k : SK L A F0 H0 F σ H env) {fz : List Nat} {p : Addr} {ds : List D} {vs : List V} (a : Acc L A (opR F σ env fz) H p F' H' ds vs) :
    ∃ F2, SK L A F0 H0 F2 σ H' (keepF fz (noLs ds) env) ∧ Acc L A F0 H0 p F2 H' ds vs ∧ Evo A F H F2 H' := by
  have hn0 : H0 p = none := by
    cases e : H0 p with
    | none => rfl
    | some o =>
      have := k.g.h p o e a.ne
      rw [a.n] at this; cases this
  have fin : ∀ {F2 : Reg} {env' : SEnv}, SK L A F0 H0 F2 σ H' env' → (∀ b, F2 b → F' b) → Rps L A F2 H' ds vs → Acc L A F0 H0 p F2 H' ds vs := fun k2 hs r => ⟨hn0, k2.g, k2.s, fun f => a.nf (hs p f), a.at_, r, a.ne⟩
  unfold keepF
  by_cases h1 : fz = []
  · rw [if_pos (.inl h1)]
    have := k.frz a.g a.s
    rw [h1, frz_nil] at this
    exact ⟨F', this, fin this (fun _ h => h) a.r, (opR_evo k (fz := fz)).trans a.g.evo⟩
  · by_cases h2 : noLs ds = true
    · rw [if_pos (.inr h2)]
      obtain ⟨q, b⟩ := k.unf a.g a.s
      exact ⟨_, q, fin q (fun b h => h.elim (fun z => a.g.f b (.inl z)) (·.1)) (a.r.noL h2), b⟩
    · rw [if_neg (fun z => z.elim h1 h2)]
      exact ⟨F', k.frz a.g a.s, fin (k.frz a.g a.s) (fun _ h => h) a.r, (opR_evo k (fz := fz)).trans a.g.evo⟩

/-- a slot gets data -/
theorem SK.set (k : SK L A F0 H0 F σ H env) {i : Nat} {d : D} {v : V} (r : Rp L A F H d v) : SK L A F0 H0 F (σ.set i (some v)) H (env.set i (some (false, d))) := by
  have tr : ∀ (j : Nat) (x : D), (env.set i (some (false, d)))[j]? = some (some (true, x)) → j ≠ i ∧ env[j]? = some (some (true, x)) := fun j x h => by
    by_cases hj : i = j
    · subst hj
      by_cases hl : i < env.length
      · rw [List.getElem?_set_self hl] at h; cases h
      · rw [List.getElem?_eq_none (by rw [List.length_set]; omega)] at h; cases h
    · rw [List.getElem?_set_ne hj] at h
      exact ⟨fun z => hj z.symm, h⟩
  refine ⟨k.s, k.g, by rw [List.length_set, List.length_set]; exact k.l, fun j x h => ?_, fun j x h => ?_, fun j m dj dm p h1 h2 h3 h4 => ?_⟩
  · by_cases hj : i = j
    · subst hj
      by_cases hl : i < env.length
      · rw [List.getElem?_set_self hl] at h
        cases h
        exact ⟨v, by rw [List.getElem?_set_self (by rw [k.l]; exact hl)], r⟩
      · rw [List.getElem?_eq_none (by rw [List.length_set]; omega)] at h; cases h
    · rw [List.getElem?_set_ne hj] at h ⊢
      exact k.sh j x h
  · obtain ⟨hj, h⟩ := tr j x h
    rw [List.getElem?_set_ne hj.symm]
    exact k.ow j x h
  · obtain ⟨hj, h1⟩ := tr j dj h1
    obtain ⟨hm, h2⟩ := tr m dm h2
    rw [List.getElem?_set_ne hj.symm] at h3
    rw [List.getElem?_set_ne hm.symm] at h4
    exact k.di j m dj dm p h1 h2 h3 h4
/-- a slot gets a list of its own; no other slot has it -/
theorem SK.setO (k : SK L A F0 H0 F σ H env) {i : Nat} {p : Addr} {ds : List D} {vs : List V} (a : Acc L A F0 H0 p F H ds vs) (hno : ∀ (j : Nat) (d : D), j ≠ i → env[j]? = some (some (true, d)) → σ[j]? ≠ some (some (V.ref p))) :
    SK L A F0 H0 F (σ.set i (some (.ref p))) H (env.set i (some (true, .lst ds))) := by
  have ne : ∀ (j : Nat) (x : Option (Bool × D)), j ≠ i → (env.set i (some (true, .lst ds)))[j]? = some x → env[j]? = some x := fun j x hj h => by
    rw [List.getElem?_set_ne (fun z => hj z.symm)] at h; exact h
  refine ⟨k.s, k.g, by rw [List.length_set, List.length_set]; exact k.l, fun j x h => ?_, fun j x h => ?_, fun j m dj dm q h1 h2 h3 h4 => ?_⟩
  · by_cases hj : j = i
    · subst hj
      by_cases hl : j < env.length
      · rw [List.getElem?_set_self hl] at h; cases h
      · rw [List.getElem?_eq_none (by rw [List.length_set]; omega)] at h; cases h
    · rw [List.getElem?_set_ne (fun z => hj z.symm)]
      exact k.sh j x (ne j _ hj h)
  · by_cases hj : j = i
    · subst hj
      by_cases hl : j < env.length
      · rw [List.getElem?_set_self hl] at h
        cases h
        exact ⟨p, ds, vs, rfl, by rw [List.getElem?_set_self (by rw [k.l]; exact hl)], a⟩
      · rw [List.getElem?_eq_none (by rw [List.length_set]; omega)] at h; cases h
    · rw [List.getElem?_set_ne (fun z => hj z.symm)]
      exact k.ow j x (ne j _ hj h)
  · by_cases hj : j = i
    · subst hj
      by_cases hm : m = j
      · exact hm.symm
      · have hl : j < env.length := by
          rcases Nat.lt_or_ge j env.length with z | z
          · exact z
          · rw [List.getElem?_eq_none (by rw [List.length_set]; omega)] at h1; cases h1
        rw [List.getElem?_set_self (by rw [k.l]; exact hl)] at h3
        cases h3
        rw [List.getElem?_set_ne (fun z => hm z.symm)] at h4
        exact absurd h4 (hno m dm hm (ne m _ hm h2))
    · by_cases hm : m = i
      · subst hm
        have hl : m < env.length := by
          rcases Nat.lt_or_ge m env.length with z | z
          · exact z
          · rw [List.getElem?_eq_none (by rw [List.length_set]; omega)] at h2; cases h2
        rw [List.getElem?_set_self (by rw [k.l]; exact hl)] at h4
        cases h4
        rw [List.getElem?_set_ne (fun z => hj z.symm)] at h3
        exact absurd h3 (hno j dj hj (ne j _ hj h1))
      · rw [List.getElem?_set_ne (fun z => hj z.symm)] at h3
        rw [List.getElem?_set_ne (fun z => hm z.symm)] at h4
        exact k.di j m dj dm q (ne j _ hj h1) (ne m _ hm h2) h3 h4
/-- the list of a slot is changed -/
theorem SK.change (k : SK L A F0 H0 F σ H env) {i : Nat} {p : Addr} {ds es : List D} {vs us : List V} (he : env[i]? = some (some (true, .lst ds))) (hσ : σ[i]? = some (some (V.ref p))) (a : Acc L A F0 H0 p F H ds vs) (r : Rps L A F H es us) :
    SK L A F0 H0 F σ (upd H p (.lst us)) (env.set i (some (true, .lst es))) ∧ Evo A F H F (upd H p (.lst us)) := by
  have ev := evo_own (A := A) (o := .lst us) a.nf a.at_
  have s1 := sok_own (o := .lst us) k.s a.nf a.at_ a.ne
  have g1 : Grow A F0 H0 F (upd H p (.lst us)) := ⟨k.g.f, k.g.n, fun b o h z => by rw [upd_ne (ne_of_none h a.n)]; exact k.g.h b o h z⟩
  have hl : i < env.length := by
    rcases Nat.lt_or_ge i env.length with z | z
    · exact z
    · rw [List.getElem?_eq_none z] at he; cases he
  refine ⟨⟨s1, g1, by rw [List.length_set]; exact k.l, fun j x h => ?_, fun j x h => ?_, fun j m dj dm q h1 h2 h3 h4 => ?_⟩, ev⟩
  · by_cases hj : i = j
    · subst hj
      rw [List.getElem?_set_self hl] at h; cases h
    · rw [List.getElem?_set_ne hj] at h
      obtain ⟨v, q, r⟩ := k.sh j x h
      exact ⟨v, q, r.evo k.s ev⟩
  · by_cases hj : i = j
    · subst hj
      rw [List.getElem?_set_self hl] at h
      cases h
      exact ⟨p, es, us, rfl, hσ, a.n, g1, s1, a.nf, upd_same, r.evo k.s ev, a.ne⟩
    · rw [List.getElem?_set_ne hj] at h
      obtain ⟨q, ds', vs', rfl, hq, ac⟩ := k.ow j x h
      have hpq : q ≠ p := fun z => by
        subst z
        exact hj (k.di i j _ _ q he h hσ hq)
      exact ⟨q, ds', vs', rfl, hq, ac.n, g1, s1, ac.nf, by rw [upd_ne hpq]; exact ac.at_, ac.r.evo k.s ev, ac.ne⟩
  · have ex : ∀ (j : Nat) (x : D), (env.set i (some (true, .lst es)))[j]? = some (some (true, x)) → ∃ x', env[j]? = some (some (true, x')) := fun j x h => by
      by_cases hj : i = j
      · subst hj; exact ⟨_, he⟩
      · rw [List.getElem?_set_ne hj] at h; exact ⟨x, h⟩
    obtain ⟨x1, h1⟩ := ex j dj h1
    obtain ⟨x2, h2⟩ := ex m dm h2
    exact k.di j m x1 x2 q h1 h2 h3 h4
/-- less may be known -/
theorem SK.mask (k : SK L A F0 H0 F σ H env) (env0 : SEnv) (hl : env0.length = env.length) : SK L A F0 H0 F σ H (PV.mask env0 env) := by
  have mg : ∀ (i : Nat) (c : Bool × D), (PV.mask env0 env)[i]? = some (some c) → env[i]? = some (some c) := fun i c h => by
    unfold PV.mask at h
    rw [List.getElem?_zipWith] at h
    cases e0 : env0[i]? with
    | none => rw [e0] at h; cases h
    | some a =>
      cases e1 : env[i]? with
      | none => rw [e0, e1] at h; cases h
      | some b =>
        rw [e0, e1] at h
        cases a with
        | none => cases h
        | some a => exact h
  refine ⟨k.s, k.g, by unfold PV.mask; rw [List.length_zipWith, k.l]; omega, fun i d h => k.sh i d (mg i _ h), fun i d h => k.ow i d (mg i _ h), fun i j di dj p h1 h2 => k.di i j di dj p (mg i _ h1) (mg j _ h2)⟩
theorem SK.evoTo (k : SK L A F0 H0 F σ H env) (hF : ∀ a, F a ↔ F' a) : SK L A F0 H0 F' σ H env := by
  have : F = F' := funext fun a => propext (hF a)
  subst this
  exact k
end
end PV
/-! PV, part l: statements. -/
namespace PV
open PySem PySem.Spec PyProof.Rows L2

def SndS (L : Lay) (A : Ad) (F0 : Reg) (H0 : Hp) (F : Reg) (σ : L2.St) (H : Hp) (w : W Fl) (D : Ends) : Prop := ∃ Qd : Except Exn Fl → Prop, w Qd ∧ (∀ e, ¬ Qd (.error e)) ∧
  (∀ F' σ' H' e, σ'.length = σ.length → SK L A F0 H0 F' σ' H' e → Evo A F H F' H' → Qd (.ok (.nx e)) → D.nx σ' H') ∧
  (∀ F' σ' H' e, σ'.length = σ.length → SK L A F0 H0 F' σ' H' e → Evo A F H F' H' → Qd (.ok (.bk e)) → D.bk σ' H') ∧
  (∀ F' σ' H' e, σ'.length = σ.length → SK L A F0 H0 F' σ' H' e → Evo A F H F' H' → Qd (.ok (.ct e)) → D.ct σ' H') ∧
  (∀ F' H' d v, Grow A F0 H0 F' H' → SOk L A F' H' → Rp L A F' H' d v → Qd (.ok (.rt d)) → D.rt v H')
def rdS (L : Lay) (m : SEnv → W Fl) : TS := fun D σ H => ∃ A F0 H0 F env, SK L A F0 H0 F σ H env ∧ SndS L A F0 H0 F σ H (m env) D
section
variable {L : Lay} {A : Ad} {F F' F0 F1 F2 : Reg} {H H' H0 H1 H2 : Hp} {σ : L2.St} {X : Cx} {env : SEnv} {k : Nat} {T : Tab}

theorem no_own (s : SK L A F0 H0 F σ H env) {p : Addr} (hp : H p = none) {j : Nat} {d : D} (h : env[j]? = some (some (true, d))) : σ[j]? ≠ some (some (V.ref p)) := fun z => by
  obtain ⟨_, _, _, a⟩ := s.own_at h z
  rw [a.at_] at hp; cases hp
theorem keepF_true {fz : List Nat} {b : Bool} {j : Nat} {d : D} (h : (keepF fz b env)[j]? = some (some (true, d))) : env[j]? = some (some (true, d)) := by
  unfold keepF at h
  split at h
  · exact h
  · exact (frz_true h).1
theorem keepF_length {fz : List Nat} {b : Bool} : (keepF fz b env).length = env.length := by
  unfold keepF
  split
  · rfl
  · exact frz_length fz
theorem own_of {α : Type} {i : Nat} {f : List D → W α} {Q : Except Exn α → Prop} (h : ownL env i f Q) : ∃ xs, env[i]? = some (some (true, .lst xs)) ∧ f xs Q := by
  unfold ownL at h
  cases e : env[i]? with
  | none => rw [e] at h; exact False.elim h
  | some c =>
    rw [e] at h
    cases c with
    | none => exact False.elim h
    | some c =>
      obtain ⟨o, d⟩ := c
      cases o with
      | false => exact False.elim h
      | true =>
        cases d <;> first | exact ⟨_, rfl, h⟩ | exact False.elim h
theorem le_asg {i : Nat} {m : Env → W D} {fz : List Nat} {D' : Ends} (h : rdS L (fun env => W.bind (m (opn fz env)) fun d => W.ret (.nx ((keepF fz (noL d) env).set i (some (false, d))))) D' σ H) : tAsg (rd L m) (gName i) D' σ H := by
  obtain ⟨A, F0, H0, F, env, s, Qd, hm, hr, hn, _, _, _⟩ := h
  refine ⟨A, _, _, s.opn fz, _, hm, fun e q => hr e q, fun F' H' d v g s' r q => ?_⟩
  obtain ⟨F2, k2, r2, ev⟩ := s.after g s' r
  exact hn F2 _ H' _ (List.length_set ..) (k2.set r2) ev q
theorem le_own {i : Nat} {m : Env → W D} {fz : List Nat} {D' : Ends} (h : rdS L (fun env => W.bind (m (opn fz env)) fun d => match d with
      | .lst ds => W.ret (.nx ((keepF fz (noLs ds) env).set i (some (true, d))))
      | _ => W.fail) D' σ H) : tAsg (rdF L m) (gName i) D' σ H := by
  obtain ⟨A, F0, H0, F, env, s, Qd, hm, hr, hn, _, _, _⟩ := h
  refine ⟨A, _, _, s.opn fz, _, hm, fun e q => hr e q, fun d q => ?_, fun F' H' p ds vs a q => ?_⟩
  · cases d <;> first | exact ⟨_, rfl⟩ | exact False.elim q
  · obtain ⟨F2, k2, a2, ev⟩ := s.afterL a
    exact hn F2 _ H' _ (List.length_set ..) (k2.setO a2 fun j d _ h => no_own s a.n (keepF_true h)) ev q

/-! ### several names at once -/
def gsS (L : Lay) (is : List Nat) : L2.TGs := fun vs σ H Q => ∃ A F0 H0 F ds env env', SK L A F0 H0 F σ H env ∧ Rps L A F H ds vs ∧ bindNS is ds env = some env' ∧ ∀ σ', σ'.length = σ.length → SK L A F0 H0 F σ' H env' → Q σ' H
def gS (L : Lay) (tg : TG) : L2.TG := fun v σ H Q => ∃ A F0 H0 F d env env', SK L A F0 H0 F σ H env ∧ Rp L A F H d v ∧ bindOS tg d env = some env' ∧ ∀ σ', σ'.length = σ.length → SK L A F0 H0 F σ' H env' → Q σ' H
theorem pgs_S (hN : X.N.Nodup) {okc : Str → Bool} (hf : ∀ x, okc x = true → X.env.scope.names.lookup x = some .cell ∧ X.fn x = true) : ∀ {is : List Nat} {es : List Expr}, tgNames X.N X.env.scope okc is es = true → PGs X es (gsS L is) ∧ (assignEach es X.env).length = is.length ∧ (assignEach es X.env).findIdx? (·.1) = none
  | [], [], _ => by
    refine ⟨PGs.weak pgs_nil fun v σ H Q ⟨A, F0, H0, F, d, env, env', e, r, b, q⟩ => ?_, rfl, rfl⟩
    cases d with
    | nil =>
      cases r
      cases b
      exact ⟨rfl, q _ rfl e⟩
    | cons _ _ => cases b
  | i :: is, .Name x p :: es, h => by
    unfold tgNames at h
    simp only [Bool.and_eq_true, Bool.or_eq_true, decide_eq_true_eq] at h
    obtain ⟨⟨h1, h2⟩, h3⟩ := h
    obtain ⟨ih, l, f⟩ := pgs_S hN hf h3
    have hx : Loc X.env.scope x := h2.imp id fun z => (hf x z).1
    have hfx : X.fn x = true ∨ X.env.scope.names.lookup x = some .local := by
      rcases h2 with z | z
      · exact .inr z
      · exact .inl (hf x z).2
    refine ⟨PGs.weak (pgs_cons (pg_name hN h1 hx hfx) ih (by rfl)) fun v σ H Q ⟨A, F0, H0, F, d, env, env', e, r, b, q⟩ => ?_, ?_, ?_⟩
    · cases r with
      | nil => cases b
      | cons r rr => exact ⟨_, _, rfl, A, F0, H0, F, _, _, env', e.set r, rr, b, fun σ' hl e' => q σ' (hl.trans (List.length_set ..)) e'⟩
    · show (assignEach es X.env).length + 1 = is.length + 1
      rw [l]
    · show ((false, _) :: assignEach es X.env).findIdx? (·.1) = none
      rw [List.findIdx?_cons]
      simp [f]
theorem bindNS_len : ∀ {is : List Nat} {ds : List D} {env env' : SEnv}, bindNS is ds env = some env' → ds.length = is.length
  | [], [], _, _, _ => rfl
  | _ :: is, _ :: ds, _, _, h => by
    rw [List.length_cons, List.length_cons, bindNS_len (is := is) (ds := ds) h]
  | [], _ :: _, _, _, h => by cases h
  | _ :: _, [], _, _, h => by cases h
theorem pg_S (hK : L.K = X.K) (hc : X.calm = true) (hN : X.N.Nodup) {okc : Str → Bool} (hf : ∀ x, okc x = true → X.env.scope.names.lookup x = some .cell ∧ X.fn x = true) {tg : TG} {e : Expr} (h : chkTG X.N X.env.scope okc tg e = true) : PG X e (gS L tg) := by
  cases tg with
  | nm i =>
    cases e <;> try exact absurd (show false = true from h) Bool.false_ne_true
    case Name x p =>
      unfold chkTG tgNames at h
      simp only [Bool.and_eq_true, Bool.or_eq_true, decide_eq_true_eq] at h
      obtain ⟨⟨h1, h2⟩, _⟩ := h
      have hfx : X.fn x = true ∨ X.env.scope.names.lookup x = some .local := by
        rcases h2 with z | z
        · exact .inr z
        · exact .inl (hf x z).2
      refine PG.weak (pg_name hN h1 (h2.imp id fun z => (hf x z).1) hfx) fun v σ H Q ⟨A, F0, H0, F, d, env, env', e, r, b, q⟩ => ?_
      cases b
      exact q _ (List.length_set ..) (e.set r)
  | tp is =>
    cases e <;> try exact absurd (show false = true from h) Bool.false_ne_true
    case Tuple es k p =>
      obtain ⟨g, l, f⟩ := pgs_S (L := L) hN hf (show tgNames X.N X.env.scope okc is es = true from h)
      refine PG.weak (pg_tup hc g l f) fun v σ H Q ⟨A, F0, H0, F, d, env, env', e, r, b, q⟩ => ?_
      cases d <;> try exact absurd (show none = some env' from b) (fun z => nomatch z)
      case tup ds =>
        cases r with
        | tup ha ra =>
          refine ⟨_, _, rfl, by rw [← hK]; exact ha, ?_, A, F0, H0, F, ds, env, env', e, ra, b, q⟩
          rw [← ra.length]
          exact bindNS_len (show bindNS is ds env = some env' from b)
theorem bindNS_length : ∀ {is : List Nat} {ds : List D} {env env' : SEnv}, bindNS is ds env = some env' → env'.length = env.length
  | [], [], _, _, h => by cases h; rfl
  | i :: is, d :: ds, env, env', h => by
    have := bindNS_length (is := is) (ds := ds) h
    rw [this, List.length_set]
  | [], _ :: _, _, _, h => by cases h
  | _ :: _, [], _, _, h => by cases h
theorem le_unp {tg : TG} {m : Env → W D} {fz : List Nat} {D' : Ends} (h : rdS L (fun env => W.bind (m (opn fz env)) fun d => W.bind (bindTS tg d (keepF fz (noL d) env)) fun env' => W.ret (.nx env')) D' σ H) : tAsg (rd L m) (gS L tg) D' σ H := by
  obtain ⟨A, F0, H0, F, env, s, Qd, hm, hr, hn, _, _, _⟩ := h
  refine ⟨A, _, _, s.opn fz, _, hm, fun e q => hr e q, fun F' H' d v g s' r q => ?_⟩
  obtain ⟨F2, k2, r2, ev⟩ := s.after g s' r
  have q' : W.bind (bindTS tg d (keepF fz (noL d) env)) (fun env' => W.ret (.nx env')) Qd := q
  unfold bindTS at q'
  cases e : bindOS tg d (keepF fz (noL d) env) with
  | none => rw [e] at q'; exact False.elim q'
  | some env' =>
    rw [e] at q'
    exact ⟨A, F0, H0, F2, d, _, env', k2, r2, e, fun σ' hl k3 => hn F2 σ' H' env' hl k3 ev q'⟩

/-! ### two at once -/
def OV (L : Lay) (A : Ad) (F0 : Reg) (H0 : Hp) (o : Bool) (F : Reg) (H : Hp) (d : D) (v : V) : Prop := match o with
  | false => Rp L A F H d v
  | true => ∃ p ds vs, d = .lst ds ∧ v = .ref p ∧ Acc L A F0 H0 p F H ds vs
def rdO (L : Lay) (o : Bool) (m : Env → W D) : TE := match o with
  | false => rd L m
  | true => rdF L m
theorem OV.grow {o : Bool} {d : D} {v : V} (h : OV L A F0 H0 o F H d v) (so : SOk L A F H) (g : Grow A F H F' H') (s : SOk L A F' H') : OV L A F0 H0 o F' H' d v := by
  cases o with
  | false => exact Rp.grow so g h
  | true =>
    obtain ⟨p, ds, vs, rfl, rfl, a⟩ := h
    exact ⟨p, ds, vs, rfl, rfl, a.grow g s⟩
theorem SK.grow0 (s : SK L A F0 H0 F σ H env) (g : Grow A F H F' H') (s' : SOk L A F' H') : SK L A F0 H0 F' σ H' env := by
  have g' : Grow A (opR F σ env []) H F' H' := ⟨fun a f => g.f a (f.elim id fun ⟨_, _, z, _⟩ => nomatch z), fun a f => (g.n a f).imp .inl id, g.h⟩
  have := s.frz g' s'
  rwa [frz_nil] at this
theorem opR_nil {a : Addr} : opR F σ env [] a ↔ F a := ⟨fun f => f.elim id (fun ⟨_, _, z, _⟩ => nomatch z), fun f => Or.inl f⟩
theorem opR_nil_eq : opR F σ env [] = F := funext fun a => propext opR_nil
theorem ownOk_true {d : D} (h : ownOk true d = true) : ∃ ds, d = .lst ds := by
  cases d <;> first | exact ⟨_, rfl⟩ | exact absurd (show false = true from h) Bool.false_ne_true
/-- an expression whose value is to be stored, with its kind -/
theorem rdO_step {o : Bool} {m : Env → W D} {kk : D → W Fl} {Qd : Except Exn Fl → Prop} (s : SK L A F0 H0 F σ H env) (hm : W.bind (m (opn [] env)) (fun x => if ownOk o x = true then kk x else W.fail) Qd) (hr : ∀ e, ¬ Qd (.error e)) {Q : VK}
    (h : ∀ F1 H1 d v, Grow A F H F1 H1 → SOk L A F1 H1 → OV L A F0 H0 o F1 H1 d v → (o = true → ∀ p, v = .ref p → H p = none) → kk d Qd → Q v H1) : rdO L o m σ H Q := by
  have ek := s.opn []
  rw [opR_nil_eq] at ek
  cases o with
  | false => exact ⟨A, F, _, ek, _, hm, fun e q => hr e q, fun F' H' d v g s' r q => h F' H' d v g s' r (fun z => nomatch z) q⟩
  | true =>
    have hl : ∀ {d : D}, (if ownOk true d = true then kk d else W.fail) Qd → (∃ ds, d = .lst ds) ∧ kk d Qd := fun {d} q => by
      by_cases z : ownOk true d = true
      · rw [if_pos z] at q; exact ⟨ownOk_true z, q⟩
      · rw [if_neg z] at q; exact False.elim q
    exact ⟨A, F, _, ek, _, hm, fun e q => hr e q, fun d q => (hl q).1, fun F' H' p ds vs a q => h F' H' (.lst ds) (.ref p) a.g a.s ⟨p, ds, vs, rfl, rfl, acc_to a s.g s.s⟩ (fun _ p' e => by cases e; exact a.n) (hl q).2⟩
theorem SK.setG (s : SK L A F0 H0 F σ H env) {i : Nat} {o : Bool} {d : D} {v : V} (r : OV L A F0 H0 o F H d v) (hno : o = true → ∀ p, v = .ref p → ∀ (j : Nat) (d : D), j ≠ i → env[j]? = some (some (true, d)) → σ[j]? ≠ some (some (V.ref p))) :
    SK L A F0 H0 F (σ.set i (some v)) H (env.set i (some (o, d))) := by
  cases o with
  | false => exact s.set r
  | true =>
    obtain ⟨p, ds, vs, rfl, rfl, a⟩ := r
    exact s.setO a (hno rfl p rfl)
theorem le_par {i j : Nat} {oi oj : Bool} {ma mb : Env → W D} {D' : Ends} (hij : i ≠ j)
    (h : rdS L (fun env => W.bind (ma (opn [] env)) fun x => if ownOk oi x = true then W.bind (mb (opn [] env)) fun y => if ownOk oj y = true then W.ret (.nx ((env.set i (some (oi, x))).set j (some (oj, y)))) else W.fail else W.fail) D' σ H) :
    tPar i j (tCons (rdO L oi ma) (tCons (rdO L oj mb) tNil)) D' σ H := by
  obtain ⟨A, F0, H0, F, env, s, Qd, hm, hr, hn, _, _, _⟩ := h
  refine rdO_step s hm hr fun F1 H1 d v g1 s1 r1 n1 q => ?_
  have k1 := s.grow0 g1 s1
  refine rdO_step k1 q hr fun F2 H2 d2 v2 g2 s2 r2 n2 q2 => ?_
  have k2 := k1.grow0 g2 s2
  refine ⟨v, v2, rfl, hn F2 _ H2 _ (by rw [List.length_set, List.length_set]) ?_ (g1.evo.trans g2.evo) q2⟩
  have k3 := k2.setG (i := i) (r1.grow s1 g2 s2) fun ho p e m dm _ hm => by
    subst e
    exact no_own s (n1 ho p rfl) hm
  refine k3.setG r2 fun ho p e m dm hmj hm => ?_
  subst e
  have hp1 : H1 p = none := n2 ho p rfl
  by_cases hmi : m = i
  · subst hmi
    intro z
    obtain ⟨_, ds, vs, hd⟩ : True ∧ ∃ ds vs, Acc L A F0 H0 p F2 H2 ds vs := ⟨trivial, (k3.own_at hm z).choose_spec.choose_spec.2 |> fun a => ⟨_, _, a⟩⟩
    have hl : m < σ.length := by
      rcases Nat.lt_or_ge m σ.length with y | y
      · exact y
      · rw [List.getElem?_eq_none (by rw [List.length_set]; omega)] at z; cases z
    rw [List.getElem?_set_self hl] at z
    cases z
    have hl2 : m < env.length := by rw [← s.l]; exact hl
    rw [List.getElem?_set_self hl2] at hm
    cases oi with
    | false => cases hm
    | true =>
      obtain ⟨p', ds', vs', _, e', a'⟩ := r1
      cases e'
      rw [a'.at_] at hp1; cases hp1
  · rw [List.getElem?_set_ne (fun z => hmi z.symm)] at hm ⊢
    exact no_own k1 hp1 hm

/-! ### small changes -/
theorem opnAll_opn : opnAll env = opn (List.range env.length) env := opnAll_eq
/-- an expression in the midst, its value without lists -/
theorem mid_step {m : Env → W D} {kk : D → W Fl} {Qd : Except Exn Fl → Prop} (s : SK L A F0 H0 F σ H env) (hm : W.bind (m (opnAll env)) kk Qd) (hr : ∀ e, ¬ Qd (.error e)) {Q : VK}
    (h : ∀ F1 F2 H1 d v, SK L A F0 H0 F1 σ H1 env → Evo A F H F1 H1 → (∀ a o, H a = some o → a ≠ A.S → H1 a = some o) → Rp L A F2 H1 d v → kk d Qd → Q v H1) : rd L m σ H Q := by
  rw [opnAll_eq] at hm
  refine ⟨A, _, _, s.opn _, _, hm, fun e q => hr e q, fun F' H' d v g s' r q => ?_⟩
  obtain ⟨k, e⟩ := s.unf g s'
  exact h _ F' H' d v k e g.h r q
theorem pip_aug (o : Operator) : PIp X o (rBin L (augD o)) := by
  intro pins s σ H x y v u Q I rx ry h
  obtain ⟨A, F, dx, dy, so, qx, qy, q⟩ := h
  cases o with
  | Add =>
    obtain ⟨i, j, rfl, rfl, q⟩ := snd_ii q
    cases qx; cases qy
    exact iop_add pins s σ H _ _ v u Q I rx ry ⟨i, j, rfl, rfl, q.ret so (.int _)⟩
  | Sub =>
    obtain ⟨i, j, rfl, rfl, q⟩ := snd_ii q
    cases qx; cases qy
    exact iop_sub pins s σ H _ _ v u Q I rx ry ⟨i, j, rfl, rfl, q.ret so (.int _)⟩
  | Mult =>
    obtain ⟨i, j, rfl, rfl, q⟩ := snd_ii q
    obtain ⟨c, q⟩ := snd_if q
    cases qx; cases qy
    exact iop_mul pins s σ H _ _ v u Q I rx ry ⟨i, j, rfl, rfl, mulOk_iff c, q.ret so (.int _)⟩
  | BitXor =>
    obtain ⟨i, j, rfl, rfl, q⟩ := snd_ii q
    cases qx; cases qy
    exact iop_xor pins s σ H _ _ v u Q I rx ry ⟨i, j, rfl, rfl, q.ret so (.int _)⟩
  | _ => exact (Snd.no q).elim
theorem augD_int {o : Operator} {x y : D} {Qd : Except Exn D → Prop} (h : augD o x y Qd) : ∃ i j, x = .int i ∧ y = .int j ∧ augD o x y (fun r => Qd r ∧ ∃ z, r = .ok (.int z)) := by
  cases o <;> cases x <;> cases y <;> try exact False.elim h
  case Add.int.int i j => exact ⟨i, j, rfl, rfl, h, _, rfl⟩
  case Sub.int.int i j => exact ⟨i, j, rfl, rfl, h, _, rfl⟩
  case BitXor.int.int i j => exact ⟨i, j, rfl, rfl, h, _, rfl⟩
  case Mult.int.int i j =>
    refine ⟨i, j, rfl, rfl, ?_⟩
    show (if mulOk i j = true then W.ret (.int (i * j)) else W.fail : W D) _
    have h' : (if mulOk i j = true then W.ret (.int (i * j)) else W.fail : W D) Qd := h
    by_cases c : mulOk i j = true
    · rw [if_pos c] at h' ⊢; exact ⟨h', _, rfl⟩
    · rw [if_neg c] at h'; exact False.elim h'
theorem le_aug {i : Nat} {o : Operator} {m : Env → W D} {D' : Ends} (h : rdS L (fun env => W.bind (getV (opn [] env) i) fun x => W.bind (m (opnAll env)) fun y => W.bind (augD o x y) fun z => W.ret (.nx (env.set i (some (false, z))))) D' σ H) :
    tAug i (rd L m) (rBin L (augD o)) D' σ H := by
  obtain ⟨A, F0, H0, F, env, s, Qd, hm, hr, hn, _, _, _⟩ := h
  have hm' : (W.bind (getV (opn [] env) i) fun x => W.bind (m (opnAll env)) fun y => W.bind (augD o x y) fun z => W.ret (.nx (env.set i (some (false, z))))) Qd := hm
  unfold getV at hm'
  cases e : (opn [] env)[i]? with
  | none => rw [e] at hm'; exact False.elim hm'
  | some c =>
    cases c with
    | none => rw [e] at hm'; exact False.elim hm'
    | some x =>
      rw [e] at hm'
      rcases opn_get e with he | ⟨_, z⟩
      · obtain ⟨v, hv, rv⟩ := s.sh i x he
        refine ⟨v, hv, mid_step s hm' hr fun F1 F2 H1 y w k1 ev1 hk rw q => ?_⟩
        obtain ⟨a, b, rfl, rfl, q2⟩ := augD_int q
        have rv1 := rv.evo s.s ev1
        cases rw
        refine ⟨A, F1, .int a, .int b, k1.s, rv1, .int b, _, q2, fun e q => hr e q.1, fun F' H' d v g s' r q => ?_⟩
        obtain ⟨q, z, hz⟩ := q
        cases hz
        cases r
        exact hn F' _ H' _ (List.length_set ..) ((k1.grow0 g s').set (.int z)) (ev1.trans g.evo) q
      · cases z
theorem le_app {i : Nat} {m : Env → W D} {fz : List Nat} {D' : Ends}
    (h : rdS L (fun env => ownL env i fun _ => W.bind (m (opn fz env)) fun d => ownL (keepF fz (noL d) env) i fun xs => if xs.length < sizeLine then W.ret (.nx ((keepF fz (noL d) env).set i (some (true, .lst (xs ++ [d]))))) else W.fail) D' σ H) :
    tDrop (tBM X.K "list" rAppend (tVar i) (tCons (rd L m) tNil)) D' σ H := by
  obtain ⟨A, F0, H0, F, env, s, Qd, hm, hr, hn, _, _, _⟩ := h
  obtain ⟨xs0, he0, hm⟩ := own_of hm
  obtain ⟨p, ds, vs, hd, hp, a⟩ := s.ow i _ he0
  refine ⟨.ref p, hp, .inl ⟨rfl, _, .inl (.inl a.at_)⟩, ?_⟩
  refine ⟨A, _, _, s.opn fz, _, hm, fun e q => hr e q, fun F' H' d v g s' r q => ?_⟩
  obtain ⟨F2, k2, r2, ev⟩ := s.after g s' r
  obtain ⟨xs, he, q⟩ := own_of (show ownL (keepF fz (noL d) env) i (fun xs => if xs.length < sizeLine then W.ret (.nx ((keepF fz (noL d) env).set i (some (true, .lst (xs ++ [d]))))) else W.fail) Qd from q)
  obtain ⟨p', ds', vs', hd', hp', a'⟩ := k2.ow i _ he
  rw [hp] at hp'
  cases hp'
  cases hd'
  by_cases hz : xs.length < sizeLine
  · rw [if_pos hz] at q
    obtain ⟨k3, ev3⟩ := k2.change he hp a' (a'.r.append (.single r2))
    exact ⟨p, vs', v, rfl, rfl, a'.at_, by rw [← a'.r.length]; exact hz, hn F2 σ _ _ rfl k3 (ev.trans ev3) q⟩
  · rw [if_neg hz] at q
    exact False.elim q
theorem asN_of {α : Type} {d : D} {n : Nat} {f : Nat → W α} {Q : Except Exn α → Prop} (h : asN d n f Q) : ∃ i : Int, d = .int i ∧ 0 ≤ i ∧ i < n ∧ i < 2 ^ 63 ∧ f i.toNat Q := by
  cases d <;> try exact False.elim h
  case int i =>
    have h' : (if 0 ≤ i ∧ i < (n : Int) ∧ i < 2 ^ 63 then f i.toNat else W.fail) Q := h
    by_cases c : 0 ≤ i ∧ i < (n : Int) ∧ i < 2 ^ 63
    · rw [if_pos c] at h'; exact ⟨i, rfl, c.1, c.2.1, c.2.2, h'⟩
    · rw [if_neg c] at h'; exact False.elim h'
theorem ixN_at {n : Nat} {i : Int} (h1 : 0 ≤ i) (h2 : i < n) : ixN n i = some i.toNat := by
  unfold ixN
  rw [if_pos h1, if_pos h2]
theorem le_pop {i j : Nat} {m : Env → W D} {D' : Ends}
    (h : rdS L (fun env => ownL env i fun xs => W.bind (m (opnAll env)) fun k => asN k xs.length fun n => match xs[n]? with
      | some d => W.ret (.nx ((env.set i (some (true, .lst (xs.eraseIdx n)))).set j (some (false, d))))
      | none => W.fail) D' σ H) :
    tAsg (tBM X.K "list" rPopAt (tVar i) (tCons (rd L m) tNil)) (gName j) D' σ H := by
  obtain ⟨A, F0, H0, F, env, s, Qd, hm, hr, hn, _, _, _⟩ := h
  obtain ⟨xs, he, hm⟩ := own_of hm
  obtain ⟨p, ds, vs, hd, hp, a⟩ := s.ow i _ he
  cases hd
  refine ⟨.ref p, hp, .inl ⟨rfl, _, .inl (.inl a.at_)⟩, mid_step s hm hr fun F1 F2 H1 d v k1 ev1 hk r q => ?_⟩
  obtain ⟨n, rfl, h0, h1, h63, q⟩ := asN_of q
  cases r
  obtain ⟨p', ds', vs', hd', hp', a'⟩ := k1.ow i _ he
  rw [hp] at hp'
  cases hp'
  cases hd'
  cases ex : xs[n.toNat]? with
  | none => rw [ex] at q; exact False.elim q
  | some x =>
    rw [ex] at q
    obtain ⟨y, hy, ry⟩ := a'.r.get ex
    obtain ⟨k3, ev3⟩ := k1.change he hp a' (a'.r.eraseIdx n.toNat)
    have ry3 := ry.evo k1.s ev3
    have hix := ixN_at h0 (show n < ((vs'.length : Nat) : Int) by rw [← a'.r.length]; exact h1)
    obtain ⟨hsq, hlt, _, _⟩ := ixN_seq hix
    refine ⟨p, vs', n, n.toNat, y, rfl, rfl, a'.at_, by omega, h63, hsq, hy, ?_⟩
    · exact hn F1 _ _ _ (List.length_set ..) (k3.set ry3) (ev1.trans ev3) q
theorem le_put {i : Nat} {m mk : Env → W D} {D' : Ends}
    (h : rdS L (fun env => ownL env i fun xs => W.bind (m (opnAll env)) fun d => W.bind (mk (opnAll env)) fun n => if noL d = true then asN n xs.length fun n => W.ret (.nx (env.set i (some (true, .lst (xs.set n d))))) else W.fail) D' σ H) :
    tAsg (rd L m) (gSub (tVar i) (rd L mk) rSetL) D' σ H := by
  obtain ⟨A, F0, H0, F, env, s, Qd, hm, hr, hn, _, _, _⟩ := h
  obtain ⟨xs, he, hm⟩ := own_of hm
  obtain ⟨p, ds, vs, hd, hp, a⟩ := s.ow i _ he
  cases hd
  refine mid_step s hm hr fun F1 F2 H1 d v k1 ev1 hk r q => ⟨.ref p, hp, mid_step k1 q hr fun F3 F4 H3 n w k3 ev3 hk3 r3 q3 => ?_⟩
  by_cases hl : noL d = true
  · rw [if_pos hl] at q3
    obtain ⟨n, rfl, h0, h1, _, q3⟩ := asN_of q3
    cases r3
    obtain ⟨p', ds', vs', hd', hp', a'⟩ := k3.ow i _ he
    rw [hp] at hp'
    cases hp'
    cases hd'
    have ev13 : Evo A (fun _ => False) H1 (fun _ => False) H3 := ⟨fun _ h => h, fun a o h z _ => hk3 a o h z⟩
    have r' : Rp L A F3 H3 d v := by
      have r0 : Rp L A F1 H1 d v := r.noL hl
      exact r0.evo k1.s ev3
    obtain ⟨k5, ev5⟩ := k3.change he hp a' (a'.r.set r' n.toNat)
    have hix := ixN_at h0 (show n < ((vs'.length : Nat) : Int) by rw [← a'.r.length]; exact h1)
    exact ⟨p, vs', n, n.toNat, rfl, rfl, a'.at_, hix, hn F3 σ _ _ rfl k5 ((ev1.trans ev3).trans ev5) q3⟩
  · rw [if_neg hl] at q3
    exact False.elim q3

/-! ### ends, tests, blocks -/
theorem le_ret {m : Env → W D} {D' : Ends} (h : rdS L (fun env => W.bind (m (opnAll env)) fun d => W.ret (.rt d)) D' σ H) : tRet (rd L m) D' σ H := by
  obtain ⟨A, F0, H0, F, env, s, Qd, hm, hr, _, _, _, ht⟩ := h
  have hm' : W.bind (m (opnAll env)) (fun d => W.ret (.rt d)) Qd := hm
  rw [opnAll_eq] at hm'
  exact ⟨A, _, _, s.opn _, _, hm', fun e q => hr e q, fun F' H' d v g s' r q => ht F' H' d v ((opR_grow s _).trans (opR_ok s _) g) s' r q⟩
theorem rdS_from {w : SEnv → W Fl} {D' : Ends} {Qd : Except Exn Fl → Prop} (s : SK L A F0 H0 F σ H env) (hm : w env Qd) (hr : ∀ e, ¬ Qd (.error e))
    (hn : ∀ F' σ' H' e, σ'.length = σ.length → SK L A F0 H0 F' σ' H' e → Evo A F H F' H' → Qd (.ok (.nx e)) → D'.nx σ' H')
    (hb : ∀ F' σ' H' e, σ'.length = σ.length → SK L A F0 H0 F' σ' H' e → Evo A F H F' H' → Qd (.ok (.bk e)) → D'.bk σ' H')
    (hc : ∀ F' σ' H' e, σ'.length = σ.length → SK L A F0 H0 F' σ' H' e → Evo A F H F' H' → Qd (.ok (.ct e)) → D'.ct σ' H')
    (ht : ∀ F' H' d v, Grow A F0 H0 F' H' → SOk L A F' H' → Rp L A F' H' d v → Qd (.ok (.rt d)) → D'.rt v H') : rdS L w D' σ H := ⟨A, F0, H0, F, env, s, Qd, hm, hr, hn, hb, hc, ht⟩
theorem le_ite {m : Env → W D} {wa wb : SEnv → W Fl} {D' : Ends} (h : rdS L (fun env => W.bind (m (opnAll env)) fun x => onB x (wa env) (wb env)) D' σ H) : tIfS (rdB L m) (rdS L wa) (rdS L wb) D' σ H := by
  obtain ⟨A, F0, H0, F, env, s, Qd, hm, hr, hn, hb, hc, ht⟩ := h
  have hm' : W.bind (m (opnAll env)) (fun x => onB x (wa env) (wb env)) Qd := hm
  rw [opnAll_eq] at hm'
  refine ⟨A, _, _, s.opn _, _, hm', fun e q => hr e q, fun F' H' d v g s' r q => ?_⟩
  obtain ⟨k, ev⟩ := s.unf g s'
  cases d <;> try exact False.elim q
  case bl b =>
    cases r
    refine ⟨b, rfl, ?_⟩
    have fin : ∀ {w : SEnv → W Fl}, w env Qd → rdS L w D' σ H' := fun hw =>
      rdS_from k hw hr (fun F2 σ' H2 e hl k2 ev2 q => hn F2 σ' H2 e hl k2 (ev.trans ev2) q) (fun F2 σ' H2 e hl k2 ev2 q => hb F2 σ' H2 e hl k2 (ev.trans ev2) q) (fun F2 σ' H2 e hl k2 ev2 q => hc F2 σ' H2 e hl k2 (ev.trans ev2) q) ht
    cases b with
    | true => exact iteT (B := rdS L wb D' σ H') (fin q)
    | false => exact iteF (fin q)
theorem le_seq {wa : SEnv → W Fl} {wb : SEnv → W Fl} {D' : Ends} (h : rdS L (fun env => W.bind (wa env) fun fl => match fl with
      | .nx e => wb e
      | fl => W.ret fl) D' σ H) : tSeq (rdS L wa) (rdS L wb) D' σ H := by
  obtain ⟨A, F0, H0, F, env, s, Qd, hm, hr, hn, hb, hc, ht⟩ := h
  exact rdS_from (D' := { D' with nx := rdS L wb D' }) s hm (fun e q => hr e q)
    (fun F' σ' H' e hl k ev q => rdS_from k (show wb e Qd from q) hr (fun F2 σ2 H2 e2 hl2 k2 ev2 q2 => hn F2 σ2 H2 e2 (hl2.trans hl) k2 (ev.trans ev2) q2) (fun F2 σ2 H2 e2 hl2 k2 ev2 q2 => hb F2 σ2 H2 e2 (hl2.trans hl) k2 (ev.trans ev2) q2) (fun F2 σ2 H2 e2 hl2 k2 ev2 q2 => hc F2 σ2 H2 e2 (hl2.trans hl) k2 (ev.trans ev2) q2) ht)
    (fun F' σ' H' e hl k ev q => hb F' σ' H' e hl k ev q) (fun F' σ' H' e hl k ev q => hc F' σ' H' e hl k ev q) (fun F' H' d v g s r q => ht F' H' d v g s r q)
theorem le_expr {m : Env → W D} {D' : Ends} (h : rdS L (fun env => W.bind (m (opnAll env)) fun _ => W.ret (.nx env)) D' σ H) : tDrop (rd L m) D' σ H := by
  obtain ⟨A, F0, H0, F, env, s, Qd, hm, hr, hn, _, _, _⟩ := h
  exact mid_step s hm hr fun F1 F2 H1 d v k1 ev1 hk r q => hn F1 σ H1 env rfl k1 ev1 q

/-! ### loops -/
def rdIS (L : Lay) (m : SEnv → W D) (fr : SEnv → SEnv) : TI := fun σ H R => ∃ A F0 H0 F env, SK L A F0 H0 F σ H env ∧ ∃ Qd : Except Exn D → Prop, m env Qd ∧ (∀ e, ¬ Qd (.error e)) ∧ (∀ d, Qd (.ok d) → ∃ items, d = .tup items ∨ d = .lst items) ∧
  ∀ F2 H' d items J, SK L A F0 H0 F2 σ H' (fr env) → Evo A F H F2 H' → (d = .lst items ∨ d = .tup items) → IterOk L A J F2 H' items → Qd (.ok d) → R J H'
theorem le_for {tg : TG} {m : SEnv → W D} {fr : SEnv → SEnv} {wb : SEnv → W Fl} {D' : Ends} (hfl : ∀ e, (fr e).length = e.length)
    (h : rdS L (fun env => W.bind (m env) fun v => W.bind (itemsD v) fun xs => forW (fun x e => W.bind (bindTS tg x e) fun e1 => wb e1) xs (fr env)) D' σ H) :
    tFor (rdIS L m fr) (gS L tg) (rdS L wb) D' σ H := by
  obtain ⟨A, F0, H0, F, env, s, Qd, hm, hr, hn, hb, hc, ht⟩ := h
  refine ⟨A, F0, H0, F, env, s, _, hm, fun e q => hr e q, fun d q => ?_, fun F1 H1 d items J k1 ev1 hd io q => ?_⟩
  · cases d <;> first | exact ⟨_, .inl rfl⟩ | exact ⟨_, .inr rfl⟩ | exact False.elim q
  generalize hf : (fun x e => W.bind (bindTS tg x e) fun e1 => wb e1) = f at q
  have q1 : forW f items (fr env) Qd := by rcases hd with rfl | rfl <;> exact q
  refine ⟨fun i mm σ2 H2 => mm = items.length - i ∧ i ≤ items.length ∧ σ2.length = σ.length ∧ ∃ F2 e2, SK L A F0 H0 F2 σ2 H2 e2 ∧ Evo A F1 H1 F2 H2 ∧ forW f (items.drop i) e2 Qd, ⟨items.length, by simp, Nat.zero_le _, rfl, F1, _, k1, .refl, q1⟩, ?_⟩
  rintro i mm σ2 H2 ⟨rfl, hi, hl2, F2, e2, k2, ev2, q2⟩
  by_cases hlt : i < items.length
  · refine .inr ⟨io.go F2 H2 i ev2 k2.s hlt, fun σ3 H3 => σ3.length = σ.length ∧ ∃ F3 e3, SK L A F0 H0 F3 σ3 H3 e3 ∧ Evo A F1 H1 F3 H3 ∧ forW f (items.drop (i + 1)) e3 Qd, fun σ3 H3 ⟨a, b⟩ => ⟨items.length - (i + 1), by omega, rfl, hlt, a, b⟩, fun x H3 hy => ?_⟩
    obtain ⟨g3, s3, d3, e3, r3⟩ := io.yd F2 H2 i x H3 ev2 k2.s hlt hy
    have k3 := k2.grow0 g3 s3
    have ev3 := ev2.trans g3.evo
    obtain ⟨hi', ei⟩ := List.getElem?_eq_some_iff.mp e3
    rw [List.drop_eq_getElem_cons hi', ei, ← hf] at q2
    have q3 : (W.bind (W.bind (bindTS tg d3 e2) fun e1 => wb e1) fun fl => match fl with
      | .nx e => forW f (items.drop (i + 1)) (PV.mask e2 e)
      | .ct e => forW f (items.drop (i + 1)) (PV.mask e2 e)
      | .bk e => W.ret (.nx (PV.mask e2 e))
      | .rt d => W.ret (.rt d)) Qd := by rw [← hf]; exact q2
    unfold bindTS at q3
    cases eb : bindOS tg d3 e2 with
    | none => rw [eb] at q3; exact False.elim q3
    | some env1 =>
      rw [eb] at q3
      have hle1 : env1.length = e2.length := by
        cases tg with
        | nm i => cases eb; rw [List.length_set]
        | tp is =>
          cases d3 <;> try exact absurd (show none = some env1 from eb) (fun z => nomatch z)
          case tup ds => exact bindNS_length (show bindNS is ds e2 = some env1 from eb)
      refine ⟨A, F0, H0, F2, d3, e2, env1, k3, r3, eb, fun σ4 hl4 k4 => ?_⟩
      have again : ∀ {F5 : Reg} {σ5 : L2.St} {H5 : Hp} {e5 : SEnv}, σ5.length = σ4.length → SK L A F0 H0 F5 σ5 H5 e5 → Evo A F2 H3 F5 H5 → forW f (items.drop (i + 1)) (PV.mask e2 e5) Qd → σ5.length = σ.length ∧ ∃ F3 e3, SK L A F0 H0 F3 σ5 H5 e3 ∧ Evo A F1 H1 F3 H5 ∧ forW f (items.drop (i + 1)) e3 Qd := fun {F5 σ5 H5 e5} hl5 k5 ev5 q5 =>
        ⟨(hl5.trans hl4).trans hl2, F5, _, k5.mask e2 (by rw [← k5.l, hl5, hl4, k2.l]), ev3.trans ev5, q5⟩
      refine rdS_from k4 q3 (fun e q => hr e q) (fun F5 σ5 H5 e5 hl5 k5 ev5 q5 => again hl5 k5 ev5 q5) (fun F5 σ5 H5 e5 hl5 k5 ev5 q5 => ?_) (fun F5 σ5 H5 e5 hl5 k5 ev5 q5 => again hl5 k5 ev5 q5) fun F5 H5 d v g s r q5 => ht F5 H5 d v g s r q5
      exact hn F5 σ5 H5 _ ((hl5.trans hl4).trans hl2) (k5.mask e2 (by rw [← k5.l, hl5, hl4, k2.l])) (ev1.trans (ev3.trans ev5)) q5
  · have ei : i = items.length := by omega
    subst ei
    refine .inl ⟨io.st F2 H2 ev2 k2.s, ?_⟩
    rw [List.drop_length] at q2
    exact hn F2 σ2 H2 e2 hl2 k2 (ev1.trans ev2) q2
theorem le_while {m : Env → W D} {wb : SEnv → W Fl} {D' : Ends} (h : rdS L (fun env => whileW (fun e => m (opnAll e)) wb env) D' σ H) : tWhile (rdB L m) (rdS L wb) D' σ H := by
  obtain ⟨A, F0, H0, F, env, s, Qd, ⟨n0, hm⟩, hr, hn, hb, hc, ht⟩ := h
  refine ⟨fun n σ2 H2 => σ2.length = σ.length ∧ ∃ F2 e2, SK L A F0 H0 F2 σ2 H2 e2 ∧ Evo A F H F2 H2 ∧ whileN (fun e => m (opnAll e)) wb n e2 Qd, ⟨n0, rfl, F, env, s, .refl, hm⟩, ?_⟩
  rintro n σ2 H2 ⟨hl2, F2, e2, k2, ev2, q2⟩
  cases n with
  | zero => exact False.elim q2
  | succ n =>
    have q2' : W.bind (m (opnAll e2)) (fun b => onB b (W.bind (wb e2) fun fl => match fl with
      | .nx e => whileN (fun e => m (opnAll e)) wb n (PV.mask e2 e)
      | .ct e => whileN (fun e => m (opnAll e)) wb n (PV.mask e2 e)
      | .bk e => W.ret (.nx (PV.mask e2 e))
      | .rt d => W.ret (.rt d)) (W.ret (.nx e2))) Qd := q2
    rw [opnAll_eq] at q2'
    refine ⟨A, _, _, k2.opn _, _, q2', fun e q => hr e q, fun F3 H3 d v g s3 r q3 => ?_⟩
    obtain ⟨k3, ev3⟩ := k2.unf g s3
    cases d <;> try exact False.elim q3
    case bl b =>
      cases r
      refine ⟨b, rfl, ?_⟩
      cases b with
      | true =>
        refine iteT (B := D'.nx σ2 H3) ⟨fun σ4 H4 => σ4.length = σ.length ∧ ∃ F2 e2, SK L A F0 H0 F2 σ4 H4 e2 ∧ Evo A F H F2 H4 ∧ whileN (fun e => m (opnAll e)) wb n e2 Qd, fun σ4 H4 h4 => ⟨n, Nat.lt_succ_self n, h4⟩, ?_⟩
        have again : ∀ {F5 : Reg} {σ5 : L2.St} {H5 : Hp} {e5 : SEnv}, σ5.length = σ2.length → SK L A F0 H0 F5 σ5 H5 e5 → Evo A (nwR F2 F3 H2) H3 F5 H5 → whileN (fun e => m (opnAll e)) wb n (PV.mask e2 e5) Qd → σ5.length = σ.length ∧ ∃ F2 e2, SK L A F0 H0 F2 σ5 H5 e2 ∧ Evo A F H F2 H5 ∧ whileN (fun e => m (opnAll e)) wb n e2 Qd := fun {F5 σ5 H5 e5} hl5 k5 ev5 q5 =>
          ⟨hl5.trans hl2, F5, _, k5.mask e2 (by rw [← k5.l, hl5, k2.l]), (ev2.trans ev3).trans ev5, q5⟩
        refine rdS_from k3 q3 (fun e q => hr e q) (fun F5 σ5 H5 e5 hl5 k5 ev5 q5 => again hl5 k5 ev5 q5) (fun F5 σ5 H5 e5 hl5 k5 ev5 q5 => ?_) (fun F5 σ5 H5 e5 hl5 k5 ev5 q5 => again hl5 k5 ev5 q5) fun F5 H5 d v g s r q5 => ht F5 H5 d v g s r q5
        exact hn F5 σ5 H5 _ (hl5.trans hl2) (k5.mask e2 (by rw [← k5.l, hl5, k2.l])) ((ev2.trans ev3).trans ev5) q5
      | false => exact iteF (hn _ σ2 H3 e2 hl2 k3 (ev2.trans ev3) q3)
end
end PV
/-! PV, part m: the checker of statements, and THE THEOREM about them. -/
namespace PV
open PySem PySem.Spec PyProof.Rows L2

def stN (N : List Str) (sc : Scope) (i : Nat) (x : Str) : Bool := decide (N[i]? = some x) && (decide (sc.names.lookup x = some .local) || decide (sc.names.lookup x = some .cell))
def rdN (N : List Str) (sc : Scope) (i : Nat) (x : Str) : Bool := decide (N[i]? = some x) && visB sc x && plainN x
def okC (sc : Scope) (x : Str) : Bool := decide (sc.names.lookup x = some .cell)
def noTup : Expr → Bool
  | .Tuple .. => false
  | _ => true
/-- what `swappedStores` asks of a pair of names -/
def pairOk (x y : Str) (px py : Pos) (a b : Expr) (sc : Scope) : Bool := decide (px.line = py.line) && decide (x ≠ y) && decide (sc.names.lookup x = some .local) && decide (sc.names.lookup y = some .local) && noStar a && noStar b
/-- a target that is no plain local name -/
def notLoc (sc : Scope) (e : Expr) : Bool := match e with
  | .Name x _ => !decide (sc.names.lookup x = some .local)
  | _ => true
/-- the stores of several names are not exchanged: folded values, or a name that is no plain local one -/
def foldB (sc : Scope) (ts : List Expr) (v : Expr) : Bool := match v with
  | .Tuple vs _ _ => vs.all (foldedForSure 8) && vs.all noStar || ts.any (notLoc sc)
  | _ => true
mutual
def chkS (N : List Str) (T : Tab) (sc : Scope) : CS → Stmt → Bool
  | .pass, st => match st with
    | .Pass _ => true
    | _ => false
  | .asg i e fz, st => match st with
    | .Assign [.Name x _] v _ => stN N sc i x && chkE N T e sc none v
    | _ => false
  | .own i e fz, st => match st with
    | .Assign [.Name x _] v _ => stN N sc i x && isFr e && chkE N T e sc none v
    | _ => false
  | .unp is e fz, st => match st with
    | .Assign [.Tuple es _ _] v _ => tgNames N sc (okC sc) is es && foldB sc es v && noComp v && chkE N T e sc none v
    | _ => false
  | .par i j a b oi oj, st => match st with
    | .Assign [.Tuple [.Name x px, .Name y py] _ _] (.Tuple [ea, eb] _ _) _ => decide (i ≠ j) && decide (N[i]? = some x) && decide (N[j]? = some y) && pairOk x y px py ea eb sc && !([ea, eb].all (foldedForSure 8)) && !([ea, eb].all (constantsAlone 8)) &&
        (!oi || isFr a) && (!oj || isFr b) && chkE N T a sc none ea && chkE N T b sc none eb
    | _ => false
  | .aug i o e, st => match st with
    | .AugAssign (.Name x _) o' v _ => decide (o = o') && stN N sc i x && chkE N T e sc none v
    | _ => false
  | .app i e fz, st => match st with
    | .Expr (.Call (.Attribute (.Name x _) m ap) [v] [] cp) _ => decide (m = ("append" : Str)) && decide (ap.endLine = cp.line) && rdN N sc i x && chkE N T e sc none v
    | _ => false
  | .pop j i e, st => match st with
    | .Assign [.Name y _] (.Call (.Attribute (.Name x _) m ap) [v] [] cp) _ => decide (m = ("pop" : Str)) && decide (ap.endLine = cp.line) && stN N sc j y && rdN N sc i x && chkE N T e sc none v
    | _ => false
  | .put i k e, st => match st with
    | .Assign [.Subscript (.Name x _) ek _] v _ => rdN N sc i x && noSl ek && noComp v && chkE N T k sc none ek && chkE N T e sc none v
    | _ => false
  | .ret e, st => match st with
    | .Return (some v) _ => chkE N T e sc none v
    | _ => false
  | .retN, st => match st with
    | .Return none _ => true
    | _ => false
  | .ite c a b, st => match st with
    | .If v p q _ => chkE N T c sc none v && chkB N T sc a p && chkB N T sc b q
    | _ => false
  | .for tg it body fz, st => match st with
    | .For t v p [] _ => chkTG N sc (okC sc) tg t && noSet v && chkE N T it sc (some t) v && chkB N T sc body p
    | _ => false
  | .while c body, st => match st with
    | .While v p [] _ => chkE N T c sc none v && chkB N T sc body p
    | _ => false
  | .brk, st => match st with
    | .Break _ => true
    | _ => false
  | .cnt, st => match st with
    | .Continue _ => true
    | _ => false
  | .expr e, st => match st with
    | .Expr v _ => noComp v && chkE N T e sc none v
    | _ => false
  | .nil, _ => false
  | .seq _ _, _ => false
def chkB (N : List Str) (T : Tab) (sc : Scope) : CS → List Stmt → Bool
  | .nil, [] => true
  | .seq a b, st :: r => chkS N T sc a st && chkB N T sc b r
  | _, _ => false
end

section
variable {L : Lay} {X : Cx} {k : Nat} {T : Tab} {A : Ad}
/-- a def's body: its context -/
structure SCx (L : Lay) (k : Nat) (T : Tab) (X : Cx) : Prop where
  c : Ctx L k T X
  fn : ∀ x, X.fn x = true
  po : PassesOwn (model X.prog X.w) X.A X.env X.xe
  bk : X.env.blockKind = .function
theorem stN_ok {i : Nat} {x : Str} (h : stN X.N X.env.scope i x = true) : X.N[i]? = some x ∧ Loc X.env.scope x := by
  unfold stN at h
  simp only [Bool.and_eq_true, Bool.or_eq_true, decide_eq_true_eq] at h
  exact h
theorem rdN_ok {i : Nat} {x : Str} (h : rdN X.N X.env.scope i x = true) : X.N[i]? = some x ∧ Vis X.env.scope x ∧ plainN x = true := by
  unfold rdN at h
  simp only [Bool.and_eq_true, decide_eq_true_eq] at h
  exact ⟨h.1.1, visB_ok h.1.2, h.2⟩
theorem okC_ok (cx : SCx L k T X) (x : Str) (h : okC X.env.scope x = true) : X.env.scope.names.lookup x = some .cell ∧ X.fn x = true := ⟨of_decide_eq_true h, cx.fn x⟩
theorem fz_le {fz : List Nat} {m : Env → W D} {σ : L2.St} {H : Hp} {R : It → Hp → Prop} (h : rdIS L (fun env => m (opn fz env)) (frz fz) σ H R) : rdI L m σ H R := by
  obtain ⟨A, F0, H0, F, env, s, Qd, hm, hr, hd, hq⟩ := h
  exact ⟨A, _, _, s.opn fz, Qd, hm, hr, hd, fun F' H' d items J g s' hd' io q => hq F' H' d items J (s.frz g s') ((opR_evo s).trans g.evo) hd' io q⟩
theorem pi_all (cx : Ctx L k T X) {it : CE} {fz : List Nat} {tg e : Expr} (h : chkE X.N T it X.env.scope (some tg) e = true) :
    PI X tg e (rdIS L (fun env => evE T it (opn fz env)) fun env => if isRng it = true then env else frz fz env) := by
  by_cases hr : isRng it = true
  · simp only [hr, if_true]
    cases it <;> try exact absurd (show false = true from hr) Bool.false_ne_true
    case rng1 a =>
      unfold chkE at h
      split at h
      · simp only [Bool.and_eq_true, decide_eq_true_eq] at h
        obtain ⟨⟨⟨_, rfl⟩, h2⟩, h3⟩ := h
        have hs := star_of (es := []) (env := X.env) (chk_noStar h3)
        refine PI.weak (pi_range1 (glB_ok h2).1 (cx.free _ (by decide +kernel)) (pa_cons ((mv_all a).e X cx _ h3).1 pa_nil hs) hs) fun σ H R ⟨A, F0, H0, F, env, s, Qd, hm, hr, hd, hq⟩ => ?_
        refine ⟨A, _, _, s.opn fz, _, hm, fun x q => hr x q, fun F' H' d v g s' r q => ?_⟩
        have q' : asI d (fun j => rngD 0 j) Qd := q
        cases r <;> try exact False.elim q'
        case int j =>
          replace q' : rngD 0 j Qd := q'
          unfold rngD at q'
          split at q'
          · rename_i c
            refine ⟨j, rfl, c.2.2.1, c.2.2.2.1, ?_⟩
            have e0 : (j - 0).toNat = j.toNat := by simp
            rw [e0] at q' c
            obtain ⟨k1, ev⟩ := s.unf g s'
            exact hq _ H' _ _ _ k1 ev (.inl rfl) (iter_rng c.2.2.2.2) q'
          · exact False.elim q'
      · exact absurd h Bool.false_ne_true
    case rng2 a b =>
      unfold chkE at h
      split at h
      · simp only [Bool.and_eq_true, decide_eq_true_eq] at h
        obtain ⟨⟨⟨⟨_, hx⟩, h2⟩, h3⟩, h4⟩ := h
        rename_i x1 e1 e2 p1 p2
        subst hx
        have hs2 := star_of (es := []) (env := X.env) (chk_noStar h4)
        have hs := star_of (env := X.env) (es := [e2]) (chk_noStar h3)
        rw [hs2] at hs
        refine PI.weak (pi_range2 (glB_ok h2).1 (cx.free _ (by decide +kernel)) (pa_cons ((mv_all a).e X cx _ h3).1 (pa_cons ((mv_all b).e X cx _ h4).1 pa_nil hs2) (by rw [hs, hs2])) hs hs2) fun σ H R ⟨A, F0, H0, F, env, s, Qd, hm, hr, hd, hq⟩ => ?_
        refine ⟨A, _, _, s.opn fz, _, hm, fun x q => hr x q, fun F1 H1 d v g s1 r q => ?_⟩
        refine ⟨A, F1, _, (s.opn fz).grow g s1, _, q, fun x q => hr x q, fun F2 H2 d2 v2 g2 s2 r2 q2 => ?_⟩
        replace q2 : ii d d2 (fun i j => rngD i j) Qd := q2
        cases r <;> cases r2 <;> try exact False.elim q2
        case int.int i j =>
          replace q2 : rngD i j Qd := q2
          unfold rngD at q2
          split at q2
          · rename_i c
            obtain ⟨k1, ev⟩ := s.unf (g.trans s1 g2) s2
            exact ⟨i, j, rfl, ⟨c.1, c.2.1, c.2.2.1, c.2.2.2.1⟩, hq _ H2 _ _ _ k1 ev (.inl rfl) (iter_rng c.2.2.2.2) q2⟩
          · exact False.elim q2
      · exact absurd h Bool.false_ne_true
  · simp only [hr]
    exact PI.weak ((mv_all it).i X cx tg e h) fun σ H R q => fz_le q
theorem fm_lt {f : Expr → Option Str} : ∀ {ts : List Expr} {e : Expr}, e ∈ ts → f e = none → (ts.filterMap f).length < ts.length
  | x :: ts, e, h, hf => by
    rw [List.filterMap_cons]
    rcases List.mem_cons.mp h with rfl | h
    · rw [hf]
      exact Nat.lt_succ_of_le (List.length_filterMap_le f ts)
    · have := fm_lt h hf
      cases f x with
      | none => exact Nat.lt_succ_of_lt this
      | some y => exact Nat.succ_lt_succ this
theorem swapped_none {ts : List Expr} {k : Nat} {p : Pos} {v : Expr} {env : PySem.Env} (h : foldB env.scope ts v = true) : swappedStores [.Tuple ts k p] v env = pure none := by
  cases v <;> try rfl
  case Tuple vs k2 p2 =>
    unfold foldB at h
    simp only [Bool.and_eq_true, Bool.or_eq_true] at h
    unfold swappedStores
    dsimp only
    rcases h with h | h
    · have h1 : vs.all (foldedForSure 8) = true := h.1
      split
      · rfl
      · split
        · rfl
        · split
          · rfl
          · rfl
    · obtain ⟨e, he, hn⟩ := List.any_eq_true.mp h
      split
      · rfl
      · split
        · rfl
        · rw [if_pos]
          rw [Bool.or_eq_true]
          refine .inl ?_
          rw [bne_iff_ne]
          refine Nat.ne_of_lt (fm_lt he ?_)
          unfold notLoc at hn
          split at hn
          · rename_i x px
            have hk : (env.kindOf x == some .local) = false := by
              rw [Bool.eq_false_iff]
              intro z
              have z' : env.scope.names.lookup x = some .local := eq_of_beq z
              rw [z'] at hn
              exact absurd hn (by decide)
            simp only [hk, Bool.false_and]
            rfl
          · cases e <;> first | rfl | (rename_i hx; exact absurd rfl (hx _ _))
def isSt : Expr → Bool
  | .Starred .. => true
  | _ => false
theorem noStar_m {e : Expr} (h : noStar e = true) : isSt e = false := by cases e <;> first | rfl | cases h
theorem swapped_pair {x y : Str} {px py pt pt2 : Pos} {k k2 : Nat} {a b : Expr} {env : PySem.Env} (h : pairOk x y px py a b env.scope = true) (hf : [a, b].all (foldedForSure 8) = false) (hc : [a, b].all (constantsAlone 8) = false) (hb : env.blockKind = .function) :
    swappedStores [.Tuple [.Name x px, .Name y py] k pt] (.Tuple [a, b] k2 pt2) env = pure (some [x, y]) := by
  unfold pairOk at h
  simp only [Bool.and_eq_true, decide_eq_true_eq] at h
  obtain ⟨⟨⟨⟨⟨h1, h2⟩, h3⟩, h4⟩, h5⟩, h6⟩ := h
  have e1 : (env.kindOf x == some .local) = true := by
    show (env.scope.names.lookup x == some .local) = true
    rw [h3]; rfl
  have e2 : (env.kindOf y == some .local) = true := by
    show (env.scope.names.lookup y == some .local) = true
    rw [h4]; rfl
  have e3 : (py.line == px.line) = true := by rw [h1]; simp
  have e4 : (px.line == px.line) = true := by simp
  have e5 : (x == y) = false := by simpa using h2
  have e6 := noStar_m h5
  have e7 := noStar_m h6
  have hd : [x, y].eraseDups.length = 2 := by
    have hyx : (y == x) = false := by
      rw [Bool.eq_false_iff]
      intro z
      exact h2 (eq_of_beq z).symm
    simp [List.eraseDups_cons, hyx]
  unfold swappedStores
  dsimp only
  rw [if_neg (by rw [hb]; simp)]
  rw [if_neg (fun z => by
    have z' : (isSt a || (isSt b || false)) = true := z
    rw [e6, e7] at z'
    exact absurd z' (by decide))]
  have hg : (Option.map (fun x : Expr => x.pos.line) [Expr.Name x px, Expr.Name y py].head?).getD 0 = px.line := rfl
  rw [hg]
  simp only [List.filterMap_cons, List.filterMap_nil, e1, e2, e3, e4, Bool.and_self, if_true, hd, hf, hc]
  rfl
theorem fnl (cx : SCx L k T X) (x : Str) : X.fn x = true ∨ X.env.scope.names.lookup x = some .local := .inl (cx.fn x)
theorem pe_O (cx : Ctx L k T X) {o : Bool} {c : CE} {e : Expr} (ho : (!o || isFr c) = true) (h : chkE X.N T c X.env.scope none e = true) : PE X e (rdO L o (evE T c)) := by
  cases o with
  | false => exact ((mv_all c).e X cx e h).1
  | true => exact (fr_all cx ho h).1
theorem pe_mth (cx : Ctx L k T X) {r : V → List V → Hp → VK → Prop} {name : Str} {id : String} {i : Nat} {x : Str} {px ap cp : Pos} {v : Expr} {c : CE}
    (slot : Slot "list" name id) (hty : typeOf (.builtin id) = pure (.type "method_descriptor")) (hm : MtR X id r)
    (hn : ∀ o ep, attributeBase (.Name x px) o X.env ep = ep)
    (hx : rdN X.N X.env.scope i x = true) (hl : ap.endLine = cp.line) (h : chkE X.N T c X.env.scope none v = true) :
    PE X (.Call (.Attribute (.Name x px) name ap) [v] [] cp) (tBM X.K "list" r (tVar i) (tCons (rd L (evE T c)) tNil)) := by
  obtain ⟨h1, h2, h3⟩ := rdN_ok hx
  have hs := star_of (es := []) (env := X.env) (chk_noStar h)
  exact pe_bm PySem.F.plainAttrs_list slot hty hm (pe_var h1 h2 (plainN_1 h3) (plainN_2 h3)) (pa_cons ((mv_all c).e X cx _ h).1 pa_nil hs) (hn _ _) (by rw [hs]; rfl) (by rw [hl]; simp) hs rfl
theorem ms_all (cx : SCx L k T X) : ∀ c : CS, (∀ st, chkS X.N T X.env.scope c st = true → PS X st (rdS L (evS T c))) ∧ ∀ b, chkB X.N T X.env.scope c b = true → PSs X b (rdS L (evS T c)) := by
  intro c
  induction c with
  | nil =>
    refine ⟨fun st h => ?_, fun b h => ?_⟩
    · exact absurd (show false = true from h) Bool.false_ne_true
    · cases b with
      | nil => exact PSs.weak pss_nil fun D σ H ⟨A, F0, H0, F, env, s, Qd, hm, hr, hn, _⟩ => hn F σ H env rfl s .refl hm
      | cons _ _ => exact absurd (show false = true from h) Bool.false_ne_true
  | seq a b ia ib =>
    refine ⟨fun st h => absurd (show false = true from h) Bool.false_ne_true, fun bl h => ?_⟩
    cases bl with
    | nil => exact absurd (show false = true from h) Bool.false_ne_true
    | cons st r =>
      unfold chkB at h
      simp only [Bool.and_eq_true] at h
      exact PSs.weak (pss_cons (ia.1 _ h.1) (ib.2 _ h.2)) fun D σ H q => le_seq q
  | pass =>
    refine ⟨fun st h => ?_, fun b h => by cases b <;> exact absurd (show false = true from h) Bool.false_ne_true⟩
    unfold chkS at h
    split at h
    · exact PS.weak ps_pass fun D σ H ⟨A, F0, H0, F, env, s, Qd, hm, hr, hn, _⟩ => hn F σ H env rfl s .refl hm
    · exact absurd h Bool.false_ne_true
  | asg i e fz =>
    refine ⟨fun st h => ?_, fun b h => by cases b <;> exact absurd (show false = true from h) Bool.false_ne_true⟩
    unfold chkS at h
    split at h
    · simp only [Bool.and_eq_true] at h
      obtain ⟨h1, h2⟩ := stN_ok h.1
      exact PS.weak (pz_all cx.c h.2 i _ _ _ h1 h2 (fnl cx _)) fun D σ H q => le_asg q
    · exact absurd h Bool.false_ne_true
  | own i e fz =>
    refine ⟨fun st h => ?_, fun b h => by cases b <;> exact absurd (show false = true from h) Bool.false_ne_true⟩
    unfold chkS at h
    split at h
    · simp only [Bool.and_eq_true] at h
      obtain ⟨h1, h2⟩ := stN_ok h.1.1
      exact PS.weak ((fr_all cx.c h.1.2 h.2).2 i _ _ _ h1 h2 (fnl cx _)) fun D σ H q => le_own q
    · exact absurd h Bool.false_ne_true
  | unp is e fz =>
    refine ⟨fun st h => ?_, fun b h => by cases b <;> exact absurd (show false = true from h) Bool.false_ne_true⟩
    unfold chkS at h
    split at h
    · simp only [Bool.and_eq_true] at h
      obtain ⟨⟨⟨h1, h2⟩, h3⟩, h4⟩ := h
      rename_i es kk tp v sp
      have hg : PG X (.Tuple es kk tp) (gS L (.tp is)) := pg_S cx.c.K cx.c.calm cx.c.nd (okc := okC X.env.scope) (okC_ok cx) (show chkTG X.N X.env.scope (okC X.env.scope) (.tp is) (.Tuple es kk tp) = true from h1)
      have hsw : swapsWithSole [.Tuple es kk tp] v sp.line X.env = pure false := swaps_plain (t := some (.Tuple es kk tp)) (ln := sp.line) (env := X.env) h3
      exact PS.weak (ps_asg ((mv_all e).e X cx.c _ h4).1 hg hsw (swapped_none h2) rfl) fun D σ H q => le_unp q
    · exact absurd h Bool.false_ne_true
  | par i j a b oi oj =>
    refine ⟨fun st h => ?_, fun b h => by cases b <;> exact absurd (show false = true from h) Bool.false_ne_true⟩
    unfold chkS at h
    split at h
    · simp only [Bool.and_eq_true, decide_eq_true_eq, Bool.not_eq_true'] at h
      obtain ⟨⟨⟨⟨⟨⟨⟨⟨⟨h1, h2⟩, h3⟩, h4⟩, h5⟩, h6⟩, h7⟩, h8⟩, h9⟩, h10⟩ := h
      have hp := h4
      unfold pairOk at hp
      simp only [Bool.and_eq_true, decide_eq_true_eq] at hp
      have hs2 := star_of (es := []) (env := X.env) (chk_noStar h10)
      rename_i x px y py kt pt ea eb k2 pt2 spos
      have hs := star_of (es := [eb]) (env := X.env) (chk_noStar h9)
      exact PS.weak (ps_par cx.c.calm cx.c.nd h2 h3 h1 hp.1.1.1.2 hp.1.1.2 (pa_cons (pe_O cx.c h7 h9) (pa_cons (pe_O cx.c h8 h10) pa_nil hs2) hs) (swapped_pair h4 h5 h6 cx.bk) rfl) fun D σ H q => le_par h1 q
    · exact absurd h Bool.false_ne_true
  | aug i o e =>
    refine ⟨fun st h => ?_, fun b h => by cases b <;> exact absurd (show false = true from h) Bool.false_ne_true⟩
    unfold chkS at h
    split at h
    · simp only [Bool.and_eq_true, decide_eq_true_eq] at h
      obtain ⟨⟨rfl, h1⟩, h2⟩ := h
      obtain ⟨h3, h4⟩ := stN_ok h1
      exact PS.weak (ps_aug cx.c.nd h3 h4 ((mv_all e).e X cx.c _ h2).1 (pip_aug o) (fnl cx _)) fun D σ H q => le_aug q
    · exact absurd h Bool.false_ne_true
  | app i e fz =>
    refine ⟨fun st h => ?_, fun b h => by cases b <;> exact absurd (show false = true from h) Bool.false_ne_true⟩
    unfold chkS at h
    split at h
    · simp only [Bool.and_eq_true, decide_eq_true_eq] at h
      obtain ⟨⟨⟨rfl, h1⟩, h2⟩, h3⟩ := h
      exact PS.weak (ps_expr (pe_mth cx.c PySem.F.slot_list_append PySem.F.type_list_append mt_append (fun _ _ => rfl) h2 h1 h3) rfl) fun D σ H q => le_app q
    · exact absurd h Bool.false_ne_true
  | pop j i e =>
    refine ⟨fun st h => ?_, fun b h => by cases b <;> exact absurd (show false = true from h) Bool.false_ne_true⟩
    unfold chkS at h
    split at h
    · simp only [Bool.and_eq_true, decide_eq_true_eq] at h
      obtain ⟨⟨⟨⟨rfl, h1⟩, h4⟩, h2⟩, h3⟩ := h
      obtain ⟨h5, h6⟩ := stN_ok h4
      exact PS.weak (ps_set cx.c.nd h5 h6 (pe_mth cx.c PySem.F.slot_list_pop PySem.F.type_list_pop mt_popAt (fun _ _ => rfl) h2 h1 h3) rfl (fnl cx _)) fun D σ H q => le_pop q
    · exact absurd h Bool.false_ne_true
  | put i kk e =>
    refine ⟨fun st h => ?_, fun b h => by cases b <;> exact absurd (show false = true from h) Bool.false_ne_true⟩
    unfold chkS at h
    split at h
    · simp only [Bool.and_eq_true] at h
      obtain ⟨⟨⟨⟨h1, h2⟩, h3⟩, h4⟩, h5⟩ := h
      obtain ⟨g1, g2, g3⟩ := rdN_ok h1
      rename_i x px ek sp v pos
      have ha : ∀ v, assign (.Subscript (.Name x px) ek sp) X.env v = (do
          let ov ← holding [v] (eval (.Name x px) X.env)
          let iv ← holding [v, ov] (eval ek X.env)
          standAt sp
          holding [v, ov, iv] (setItem ov iv v)
          release [v, ov, iv] []) := fun v => by cases ek <;> first | rfl | cases h2
      have h1' : (assignEach [.Subscript (.Name x px) ek sp] X.env).map (·.2) = [assign (.Subscript (.Name x px) ek sp) X.env] := rfl
      have hsw : swapsWithSole [.Subscript (.Name x px) ek sp] v pos.line X.env = pure false := swaps_plain (t := some (.Subscript (.Name x px) ek sp)) (ln := pos.line) (env := X.env) h3
      exact PS.weak (ps_asg ((mv_all e).e X cx.c _ h5).1 (pg_sub (pe_var g1 g2 (plainN_1 g3) (plainN_2 g3)) ((mv_all kk).e X cx.c _ h4).1 set_list ha) hsw rfl h1') fun D σ H q => le_put q
    · exact absurd h Bool.false_ne_true
  | ret e =>
    refine ⟨fun st h => ?_, fun b h => by cases b <;> exact absurd (show false = true from h) Bool.false_ne_true⟩
    unfold chkS at h
    split at h
    · exact PS.weak (ps_ret ((mv_all e).e X cx.c _ h).1) fun D σ H q => le_ret q
    · exact absurd h Bool.false_ne_true
  | retN =>
    refine ⟨fun st h => ?_, fun b h => by cases b <;> exact absurd (show false = true from h) Bool.false_ne_true⟩
    unfold chkS at h
    split at h
    · exact PS.weak ps_retN fun D σ H ⟨A, F0, H0, F, env, s, Qd, hm, hr, _, _, _, ht⟩ => ht F H .non .non s.g s.s .non hm
    · exact absurd h Bool.false_ne_true
  | ite c a b ia ib =>
    refine ⟨fun st h => ?_, fun b h => by cases b <;> exact absurd (show false = true from h) Bool.false_ne_true⟩
    unfold chkS at h
    split at h
    · simp only [Bool.and_eq_true] at h
      obtain ⟨⟨h1, h2⟩, h3⟩ := h
      exact PS.weak (ps_if ((mv_all c).e X cx.c _ h1).2.1 (ia.2 _ h2) (ib.2 _ h3)) fun D σ H q => le_ite q
    · exact absurd h Bool.false_ne_true
  | «for» tg it body fz ib =>
    refine ⟨fun st h => ?_, fun b h => by cases b <;> exact absurd (show false = true from h) Bool.false_ne_true⟩
    unfold chkS at h
    split at h
    · simp only [Bool.and_eq_true] at h
      obtain ⟨⟨⟨h1, h2⟩, h3⟩, h4⟩ := h
      exact PS.weak (ps_for cx.po cx.c.calm (pi_all cx.c (fz := fz) h3) (pg_S cx.c.K cx.c.calm cx.c.nd (okC_ok cx) h1) (ib.2 _ h4) fun x => folded_of h2) fun D σ H q => le_for (fun e => by
        by_cases hr : isRng it = true
        · simp only [hr, if_true]
        · simp only [hr]; exact frz_length fz) q
    · exact absurd h Bool.false_ne_true
  | «while» c body ib =>
    refine ⟨fun st h => ?_, fun b h => by cases b <;> exact absurd (show false = true from h) Bool.false_ne_true⟩
    unfold chkS at h
    split at h
    · simp only [Bool.and_eq_true] at h
      exact PS.weak (ps_while cx.po ((mv_all c).e X cx.c _ h.1).2.1 (ib.2 _ h.2)) fun D σ H q => le_while q
    · exact absurd h Bool.false_ne_true
  | brk =>
    refine ⟨fun st h => ?_, fun b h => by cases b <;> exact absurd (show false = true from h) Bool.false_ne_true⟩
    unfold chkS at h
    split at h
    · exact PS.weak ps_break fun D σ H ⟨A, F0, H0, F, env, s, Qd, hm, hr, _, hb, _, _⟩ => hb F σ H env rfl s .refl hm
    · exact absurd h Bool.false_ne_true
  | cnt =>
    refine ⟨fun st h => ?_, fun b h => by cases b <;> exact absurd (show false = true from h) Bool.false_ne_true⟩
    unfold chkS at h
    split at h
    · exact PS.weak ps_continue fun D σ H ⟨A, F0, H0, F, env, s, Qd, hm, hr, _, _, hc, _⟩ => hc F σ H env rfl s .refl hm
    · exact absurd h Bool.false_ne_true
  | expr e =>
    refine ⟨fun st h => ?_, fun b h => by cases b <;> exact absurd (show false = true from h) Bool.false_ne_true⟩
    unfold chkS at h
    split at h
    · simp only [Bool.and_eq_true] at h
      exact PS.weak (ps_expr ((mv_all e).e X cx.c _ h.2).1 (swaps_plain h.1)) fun D σ H q => le_expr q
    · exact absurd h Bool.false_ne_true
end
end PV
/-! PV, part n: a def keeps its promise. -/
namespace PV
open PySem PySem.Spec PyProof.Rows L2

def scB (N : List Str) (ar : Nat) (sc : Scope) : Bool := decide (sc.kind = .function) && !sc.isCoroutine && !sc.isGenerator && decide N.Nodup && decide (ar ≤ N.length) &&
  (N.take ar).all (fun x => decide (sc.names.lookup x = some .local) || decide (sc.names.lookup x = some .cell)) && sc.names.all fun y => decide (y.2 ≠ .free)
theorem scB_ok {N : List Str} {ar : Nat} {sc : Scope} (h : scB N ar sc = true) : FnScope N (N.take ar) sc ∧ (N.take ar).length = ar := by
  unfold scB at h
  simp only [Bool.and_eq_true, Bool.or_eq_true, decide_eq_true_eq, Bool.not_eq_true', List.all_eq_true] at h
  obtain ⟨⟨⟨⟨⟨⟨h1, h2⟩, h3⟩, h4⟩, h5⟩, h6⟩, h7⟩ := h
  have hl : (N.take ar).length = ar := by rw [List.length_take]; omega
  exact ⟨⟨h1, h2, h3, h4, by rw [hl], h6, h7⟩, hl⟩
section
variable {L : Lay} {P : Program} {w : World} {mg : Str → Option Value} {base : Heap} {k : Nat} {T : Tab} {m : List D → W D} {x : Str}
theorem Impl.mono {j : Nat} (h : Impl L P w mg base j x m) (hj : j ≤ k) : Impl L P w mg base k x m := by
  obtain ⟨f, fd, ps, a, b, c, F, e⟩ := h.ex
  exact ⟨f, fd, ps, a, b, c, F.mono hj, e⟩
def Impls (L : Lay) (P : Program) (w : World) (mg : Str → Option Value) (base : Heap) (k : Nat) (T : Tab) : Prop := ∀ (j : Nat) (x : Str) (m : List D → W D), T[j]? = some (x, m) → Impl L P w mg base k x m
theorem Impls.nil : Impls L P w mg base k [] := fun j x m h => by simp at h
theorem Impls.cons {j : Nat} (h : Impl L P w mg base j x m) (hj : j ≤ k) (t : Impls L P w mg base k T) : Impls L P w mg base k ((x, m) :: T)
  | 0, y, n, e => by
    simp at e
    obtain ⟨rfl, rfl⟩ := e
    exact h.mono hj
  | i + 1, y, n, e => t i y n (by simpa using e)
theorem Impls.mono {j : Nat} (h : Impls L P w mg base j T) (hj : j ≤ k) : Impls L P w mg base k T := fun i x m e => (h i x m e).mono hj
theorem blk_fn {env : PySem.Env} (h : env.scope.kind = .function) : env.blockKind = .function := by
  unfold Env.blockKind
  rw [h]
  rfl
variable {A : Ad} {F F' : Reg} {H H' : Hp}
theorem start_get {n i : Nat} {ds : List D} {c : Bool × D} (h : (PV.start n ds)[i]? = some (some c)) : ∃ d, ds[i]? = some d ∧ c = (false, d) := by
  unfold PV.start at h
  by_cases hi : i < ds.length
  · rw [List.getElem?_append_left (by simpa using hi), List.getElem?_map] at h
    cases e : ds[i]? with
    | none => rw [e] at h; cases h
    | some d => rw [e] at h; cases h; exact ⟨d, rfl, rfl⟩
  · rw [List.getElem?_append_right (by simpa using hi), List.getElem?_replicate] at h
    split at h <;> cases h
theorem sk_start {N : List Str} {ds : List D} {vs : List V} (s : SOk L A F H) (r : Rps L A F H ds vs) : SK L A F H F (L2.start N vs) H (PV.start N.length ds) := by
  refine ⟨s, .refl, ?_, fun i d h => ?_, fun i d h => ?_, fun i j di dj p h => ?_⟩
  · unfold L2.start PV.start
    simp only [List.length_append, List.length_map, List.length_replicate, r.length]
  · obtain ⟨d', e, z⟩ := start_get h
    cases z
    obtain ⟨v, hv, rv⟩ := r.get e
    refine ⟨v, ?_, rv⟩
    unfold L2.start
    have hi : i < vs.length := by
      rcases Nat.lt_or_ge i vs.length with z | z
      · exact z
      · rw [List.getElem?_eq_none z] at hv; cases hv
    rw [List.getElem?_append_left (by simpa using hi), List.getElem?_map, hv]
    rfl
  · obtain ⟨d', e, z⟩ := start_get h
    cases z
  · obtain ⟨d', e, z⟩ := start_get h
    cases z
theorem outS {P : Program} {T : Tab} {c : CS} {n ar : Nat} {N : List Str} {ds : List D} {vs : List V} {Q : VK} (hn : n = N.length) (s : SOk L A F H) (r : Rps L A F H ds vs) (h : Snd L A F H (evDef T n ar c ds) Q) :
    rdS L (evS T c) { nx := fun _ H' => Q .non H', rt := Q } (L2.start N vs) H := by
  subst hn
  obtain ⟨Qd, a, b, q⟩ := h
  unfold evDef at a
  split at a
  · refine ⟨A, F, H, F, PV.start N.length ds, sk_start s r, _, a, fun e z => b e z, fun F' σ' H' e _ k _ z => ?_, fun F' σ' H' e _ k _ z => ?_, fun F' σ' H' e _ k _ z => ?_, fun F' H' d v g s' rv z => ?_⟩
    · exact q F' H' .non .non k.g k.s .non z
    · exact False.elim z
    · exact False.elim z
    · exact q F' H' d v g s' rv z
  · exact False.elim a
/-- THE RULE -/
theorem impl_def {K : PySem.W.Frag} {tb : Bool} {qual : Str} {params : Arguments} {body : List Stmt} {scope : Scope} {f : Addr} {fd : FuncData} {N : List Str} {ar : Nat} {c : CS} {y : Str}
    (F : FunD K x qual params body scope [] [] f fd) (hg : mg y = some (.ref f)) (hb : Binds K fd (N.take ar) []) (hs : scB N ar scope = true) (hc : chkB N T scope c body = true)
    (hT : Impls ⟨K, tb⟩ P w mg base k T) (hf : ∀ z ∈ bnames, mg z = none) {n : Nat} (hn : n = N.length) : Impl ⟨K, tb⟩ P w mg base (k + 1) y (evDef T n ar c) := by
  obtain ⟨S, hl⟩ := scB_ok hs
  refine ⟨f, fd, N.take ar, hg, F.kp, hb, ?_, fun ds Q h => ?_⟩
  · refine F.ok S (fun vs H Q E h => h.1) fun cdv A outer s H vs Q E hr h => ?_
    obtain ⟨_, Ad, Fr, ds, so, rp, sn⟩ := h
    refine ⟨rdS ⟨K, tb⟩ (evS T c), PSs.nox ?_, outS (P := P) hn so rp sn⟩
    have cx : SCx ⟨K, tb⟩ k T (cxOf (L2.CX P w) P w K mg base N qual scope f cdv A outer s H E).nox := ⟨⟨rfl, rfl, S.nd, hr, hf, hT⟩, fun _ => rfl, PassesOwn.never, blk_fn S.kind⟩
    exact (ms_all cx c).2 body hc
  · unfold evDef at h
    rw [hl]
    split at h
    · assumption
    · exact False.elim h
end
end PV
/-! PV, part o: defs that call themselves; the law's start, for `tape = [list(script), 0, 0, k]`. -/
namespace PV
open PySem PySem.Spec PyProof.Rows L2

section
variable {L : Lay} {P : Program} {w : World} {mg : Str → Option Value} {base : Heap} {k : Nat} {T : Tab} {m : List D → W D} {x : Str}
theorem impl_zero {K : PySem.W.Frag} {tb : Bool} {qual : Str} {params : Arguments} {body : List Stmt} {scope : Scope} {f : Addr} {fd : FuncData} {N : List Str} {ar : Nat} {y : Str}
    (F : FunD K x qual params body scope [] [] f fd) (hg : mg y = some (.ref f)) (hb : Binds K fd (N.take ar) []) (hs : scB N ar scope = true) : Impl ⟨K, tb⟩ P w mg base (k + 1) y (fun _ => W.fail) := by
  obtain ⟨S, hl⟩ := scB_ok hs
  refine ⟨f, fd, N.take ar, hg, F.kp, hb, ?_, fun ds Q h => False.elim h⟩
  refine F.ok S (fun vs H Q E h => h.1) fun cdv A outer s H vs Q E hr h => ?_
  obtain ⟨_, Ad, Fr, ds, so, rp, Qd, z, _⟩ := h
  exact False.elim z
def rLst (K : PySem.W.Frag) : List V → Hp → VK → Prop := fun vs H Q => ∃ p xs, vs = [.ref p] ∧ (SqL K H p xs ∨ SqT K H p xs) ∧ ∀ l, H l = none → Q (.ref l) (upd H l (.lst xs))
def tTape (K : PySem.W.Frag) (k : Int) : TS := tAsg (tLst (tCons (tCB (rLst K) (tCons (tVar 0) tNil)) (tCons (tC (.int 0)) (tCons (tC (.int 0)) (tCons (tC (.int k)) tNil))))) (gName 1)
def env0 (n : Nat) : SEnv := (List.replicate n none).set 1 (some (false, .tape))
theorem law_from {K : PySem.W.Frag} {c : CS} {n : Nat} {kk : Int} {N : List Str} (hn : N.length = n) (h1 : 1 < n) (hk : 0 ≤ kk ∧ kk < 2 ^ 62) (hlaw : evS T c (env0 n) fun r => r = .ok (.rt (.bl true))) {a : Addr} {ns : List Int} {H : Hp} {Q : VK}
    (hS : SqL K H a (ns.map V.int)) (hl : ns.length ≤ 63) (hQ : ∀ H', Q (.bl true) H') : tSeq (tTape K kk) (rdS ⟨K, false⟩ (evS T c)) { nx := fun _ H' => Q .non H', rt := Q } (L2.start N [.ref a]) H := by
  have e0 : (L2.start N [.ref a])[0]? = some (some (V.ref a)) := rfl
  refine ⟨_, e0, a, _, rfl, .inl hS, fun l hl0 => ⟨(show 4 ≤ sizeLine by decide), fun p hp => ?_⟩⟩
  have hlp : l ≠ p := fun z => by rw [z, upd_same] at hp; cases hp
  have hS2 : (upd (upd H l (.lst (ns.map V.int))) p (.lst [.ref l, .int 0, .int 0, .int kk])) l = some (.lst (ns.map V.int)) := by rw [upd_ne hlp, upd_same]
  have hso : SOk ⟨K, false⟩ ⟨p, l⟩ (fun b => b = l) (upd (upd H l (.lst (ns.map V.int))) p (.lst [.ref l, .int 0, .int 0, .int kk])) := by
    refine ⟨fun b e => by rw [e, hS2]; simp, fun e => hlp e.symm, ns, 0, 0, kk, .inl ⟨rfl, hS2⟩, hl, ⟨by decide, by decide, hk.1, hk.2⟩, ?_⟩
    show upd _ p _ p = _
    rw [upd_same]
    rfl
  have hlen : ((L2.start N [.ref a]).set 1 (some (.ref p))).length = (env0 n).length := by
    unfold env0
    rw [List.length_set, List.length_set, List.length_replicate]
    unfold L2.start
    simp only [List.length_append, List.length_map, List.length_replicate, List.length_cons, List.length_nil]
    omega
  have hget : ∀ (i : Nat) (z : Bool × D), (env0 n)[i]? = some (some z) → i = 1 ∧ z = (false, .tape) := fun i z e => by
    unfold env0 at e
    by_cases hi : 1 = i
    · subst hi
      rw [List.getElem?_set_self (by rw [List.length_replicate]; exact h1)] at e
      cases e
      exact ⟨rfl, rfl⟩
    · rw [List.getElem?_set_ne hi, List.getElem?_replicate] at e
      split at e <;> cases e
  have hsk : SK ⟨K, false⟩ ⟨p, l⟩ (fun b => b = l) (upd (upd H l (.lst (ns.map V.int))) p (.lst [.ref l, .int 0, .int 0, .int kk])) (fun b => b = l) ((L2.start N [.ref a]).set 1 (some (.ref p)))
      (upd (upd H l (.lst (ns.map V.int))) p (.lst [.ref l, .int 0, .int 0, .int kk])) (env0 n) := by
    refine ⟨hso, .refl, hlen, fun i d e => ?_, fun i d e => ?_, fun i j di dj q e => ?_⟩
    · obtain ⟨rfl, z⟩ := hget i _ e
      cases z
      refine ⟨.ref p, ?_, .tape⟩
      rw [List.getElem?_set_self]
      unfold L2.start
      simp only [List.length_append, List.length_map, List.length_replicate, List.length_cons, List.length_nil]
      omega
    · obtain ⟨_, z⟩ := hget i _ e
      cases z
    · obtain ⟨_, z⟩ := hget i _ e
      cases z
  refine ⟨⟨p, l⟩, _, _, _, env0 n, hsk, _, hlaw, fun e z => (nomatch z), fun F' σ' H' e _ _ _ z => (nomatch z), fun F' σ' H' e _ _ _ z => (nomatch z), fun F' σ' H' e _ _ _ z => (nomatch z), fun F' H' d v _ _ r z => ?_⟩
  cases z
  cases r
  exact hQ H'
/-- nothing is thrown where nothing is wished for -/
theorem quiet {K : PySem.W.Frag} {f : Addr} {fd : FuncData} {ps : List Str} {sp : Sp} (F : FnOk P w K mg base (L2.CX P w) k f fd ps sp) (hE : ∀ vs H Q E, sp vs H Q E → sp vs H Q (fun _ _ _ => False)) : FnOk P w K mg base L2.CX0 k f fd ps sp := by
  refine ⟨F.len, fun A outer s H args us vs Q E hr e hb hv h => ?_⟩
  refine codeAny_mono (F.run A outer s H args us vs Q (fun _ _ _ => False) hr e hb hv (hE _ _ _ _ h)) fun r s' q => ?_
  cases r with
  | ok fl =>
    cases fl <;> exact q
  | error u =>
    obtain ⟨_, _, _, _, _, _, _, _, _, _, _, _, z⟩ := q
    exact False.elim z
end
/-! ### the tape `[list(script), 0, 0, k]`: what `_law_next` does -/
def m_next : List D → W D := fun ds => match ds with
  | [.tape, .int n] => pick n
  | _ => W.fail
theorem tape_to {L : Lay} {A : Ad} {F : Reg} {H H' : Hp} (s : SOk L A F H) (ho : ∀ a, a ≠ A.S → H' a = H a) {p r h : Int} (hb : 0 ≤ p ∧ 0 ≤ r ∧ 0 ≤ h ∧ h < 2 ^ 62)
    (e : H' A.S = some (.lst (if L.tb = true then [.int p, .int r] else [.ref A.C, .int p, .int r, .int h]))) : Grow A F H F H' ∧ SOk L A F H' := by
  refine ⟨⟨fun _ h => h, fun _ h => .inl h, fun a o h z => by rw [ho a z]; exact h⟩, fun a f => ?_, s.s, ?_⟩
  · rw [ho a (fun z => s.s (z ▸ f))]; exact s.d a f
  · obtain ⟨xs, eS⟩ := s.tape
    obtain ⟨ns, _, _, _, hq, hl, _, _⟩ := s.t
    refine ⟨ns, p, r, h, ?_, hl, hb, e⟩
    rcases hq with ⟨f, q⟩ | ⟨o, q⟩ | q
    · exact .inl ⟨f, by rw [ho _ (fun z => s.s (by rw [← z]; exact f))]; exact q⟩
    · refine .inr (.inl ⟨o, ?_⟩)
      rw [ho _ (fun z => ?_)]
      · exact q
      · rw [z, eS] at q; cases q
    · exact .inr (.inr q)
theorem upd_off {H : Hp} {a b : Addr} {o : HO} (h : a ≠ b) : upd H b o a = H a := upd_ne h
def rInt1 : List V → Hp → VK → Prop := fun xs H Q => (∃ i, xs = [.int i] ∧ Q (.int i) H) ∨ ∃ k, xs = [.bl k] ∧ Q (.int (if k then 1 else 0)) H
def tI (t : TE) : TE := tCB rInt1 (tCons t tNil)
def tIx (K : PySem.W.Frag) (i : Int) : TE := tOp (rIxL K) (tVar 0) (tC (.int i))
def tMod (a b : TE) : TE := tOp (rI (fun _ j => 0 < j) fun i j => .int (i % j)) a b
def tPut (a : TE) (i : Int) : TS := tAsg a (gSub (tVar 0) (tC (.int i)) rSetL)
def tPlus (a b : TE) : TE := tOp (rI0 fun i j => .int (i + j)) a b
def tMulE (a b : TE) : TE := tOp (rI CMul fun i j => .int (i * j)) a b
def tDivE (a b : TE) : TE := tOp (rI CDiv fun i j => .int (i / j)) a b
def tLast : TS := tSeq (tPut (tDivE (tVar 2) (tVar 1)) 2) (tRet (tMod (tI (tVar 2)) (tVar 1)))
def tMid (K : PySem.W.Frag) : TS := tSeq (tAsg (tVar 3) (gName 2)) (tIfS (tTest (tOp (rI0 fun i j => .bl (decide (i < j))) (tVar 3) (tOp (rI CPow fun i j => .int (i ^ j.toNat)) (tC (.int 10)) (tC (.int 18)))))
  (tSeq (tPut (tMod (tI (tPlus (tPlus (tMulE (tIx K 3) (tC (.int 69621))) (tMulE (tVar 3) (tC (.int 40692)))) (tC (.int 17)))) (tC (.int 2147483647))) 3)
    (tRet (tMod (tMod (tI (tMulE (tI (tDivE (tIx K 3) (tC (.int 5)))) (tC (.int 48271)))) (tC (.int 2147483647))) (tVar 1)))) tNext)
end PV
/-! PV, part q: plain mathematics of the evaluator: encodings, loops. -/
namespace PV
open PySem

/-! ### wishes -/
theorem flatW_map {α : Type} {f : D → W (List D)} {en : α → D} {g : α → D} : ∀ {xs : List α}, (∀ x ∈ xs, f (en x) = W.ret [g x]) → flatW f (xs.map en) = W.ret (xs.map g)
  | [], _ => rfl
  | x :: xs, h => by
    rw [List.map_cons, flatW, h x List.mem_cons_self, W.ret_bind, flatW_map fun y hy => h y (List.mem_cons_of_mem _ hy), W.ret_bind]
    rfl
theorem flatW_filter {α : Type} {f : D → W (List D)} {en : α → D} {g : α → D} {p : α → Bool} : ∀ {xs : List α}, (∀ x ∈ xs, f (en x) = W.ret (if p x = true then [g x] else [])) → flatW f (xs.map en) = W.ret ((xs.filter p).map g)
  | [], _ => rfl
  | x :: xs, h => by
    rw [List.map_cons, flatW, h x List.mem_cons_self, W.ret_bind, flatW_filter (p := p) fun y hy => h y (List.mem_cons_of_mem _ hy), W.ret_bind, List.filter_cons]
    by_cases e : p x = true
    · rw [if_pos e, if_pos e]; rfl
    · rw [if_neg e, if_neg e]; rfl
theorem flatW_flat {α : Type} {f : D → W (List D)} {en : α → D} {g : α → List D} : ∀ {xs : List α}, (∀ x ∈ xs, f (en x) = W.ret (g x)) → flatW f (xs.map en) = W.ret (xs.flatMap g)
  | [], _ => rfl
  | x :: xs, h => by
    rw [List.map_cons, flatW, h x List.mem_cons_self, W.ret_bind, flatW_flat fun y hy => h y (List.mem_cons_of_mem _ hy), W.ret_bind]
    rfl
/-- a loop whose turns all go on -/
theorem forW_go {α : Type} {f : D → SEnv → W Fl} {en : α → D} {β : Type} (st : β → SEnv) (g : β → α → β) : ∀ {xs : List α} {b : β}, (∀ b x, x ∈ xs → ∃ e, f (en x) (st b) = W.ret (.nx e) ∧ mask (st b) e = st (g b x)) → forW f (xs.map en) (st b) = W.ret (.nx (st (xs.foldl g b)))
  | [], _, _ => rfl
  | x :: xs, b, h => by
    obtain ⟨e, h1, h2⟩ := h b x List.mem_cons_self
    rw [List.map_cons, forW, h1, W.ret_bind]
    show forW f (xs.map en) (mask (st b) e) = _
    rw [h2, forW_go st g fun b y hy => h b y (List.mem_cons_of_mem _ hy)]
    rfl

/-! ### bits -/
def b1 (b : Bool) : Int := if b then 1 else 0
def eb (b : Bool) : D := .int (b1 b)
def er (r : List Bool) : D := .tup (r.map eb)
def ers (rs : List (List Bool)) : D := .lst (rs.map er)
theorem b1_xor (a b : Bool) : Builtin.bitXor (b1 a) (b1 b) = b1 (a ^^ b) := by cases a <;> cases b <;> decide
theorem b1_and (a b : Bool) : Builtin.bitAnd (b1 a) (b1 b) = b1 (a && b) := by cases a <;> cases b <;> decide
theorem b1_mul (a b : Bool) : b1 a * b1 b = b1 (a && b) := by cases a <;> cases b <;> rfl
theorem b1_0 : b1 false = 0 := rfl
theorem b1_1 : b1 true = 1 := rfl
theorem b1_inj {a b : Bool} (h : b1 a = b1 b) : a = b := by cases a <;> cases b <;> first | rfl | exact absurd h (by decide)
theorem b1_range (a : Bool) : 0 ≤ b1 a ∧ b1 a ≤ 1 := by cases a <;> decide
def xorL (r : List Bool) : Bool := r.foldr (· ^^ ·) false
theorem xorL_nil : xorL [] = false := rfl
theorem xorL_cons (a : Bool) (r : List Bool) : xorL (a :: r) = (a ^^ xorL r) := rfl
theorem sum_mod2 : ∀ r : List Bool, (r.map b1).sum % 2 = b1 (xorL r)
  | [] => rfl
  | a :: r => by
    have := sum_mod2 r
    rw [List.map_cons, List.sum_cons, xorL_cons]
    cases a <;> cases h : xorL r <;> rw [h] at this <;> simp only [b1] at this ⊢ <;> simp at this ⊢ <;> omega
def dot (a b : List Bool) : Bool := xorL (List.zipWith (· && ·) a b)
def xorR (a b : List Bool) : List Bool := List.zipWith (· ^^ ·) a b

/-! ### equality of data -/
mutual
def eqv : D → D → Bool
  | .non, .non => true
  | .bl a, .bl b => a == b
  | .bl a, .int j => b1 a == j
  | .int i, .bl b => i == b1 b
  | .int i, .int j => i == j
  | .str x, .str y => x == y
  | .lst xs, .lst ys => eqvs xs ys
  | .tup xs, .tup ys => eqvs xs ys
  | _, _ => false
def eqvs : List D → List D → Bool
  | [], [] => true
  | x :: xs, y :: ys => eqv x y && eqvs xs ys
  | _, _ => false
end
/-- plain data, at most k deep -/
def Pl (k : Nat) (d : D) : Prop := ∃ p, toPy d = some p ∧ p.canLay0 = true ∧ p.depth ≤ k
def Pls (k : Nat) (ds : List D) : Prop := ∃ ps, toPys ds = some ps ∧ PyData.canLayAll0 ps = true ∧ PyData.depthAll ps ≤ k
theorem toPys_cons {x : D} {xs : List D} {ps : List PyData} (h : toPys (x :: xs) = some ps) : ∃ p qs, toPy x = some p ∧ toPys xs = some qs ∧ ps = p :: qs := by
  unfold toPys at h
  cases e1 : toPy x with
  | none => rw [e1] at h; cases h
  | some p =>
    cases e2 : toPys xs with
    | none => rw [e1, e2] at h; cases h
    | some qs => rw [e1, e2] at h; cases h; exact ⟨p, qs, rfl, rfl, rfl⟩
theorem toPy_tup {xs : List D} {p : PyData} (h : toPy (.tup xs) = some p) : ∃ ps, toPys xs = some ps ∧ p = .tuple ps := by
  unfold toPy at h
  cases e : toPys xs with
  | none => rw [e] at h; cases h
  | some ps => rw [e] at h; cases h; exact ⟨ps, rfl, rfl⟩
theorem toPy_lst {xs : List D} {p : PyData} (h : toPy (.lst xs) = some p) : ∃ ps, toPys xs = some ps ∧ p = .list ps := by
  unfold toPy at h
  cases e : toPys xs with
  | none => rw [e] at h; cases h
  | some ps => rw [e] at h; cases h; exact ⟨ps, rfl, rfl⟩
mutual
theorem eqv_py : ∀ {a b : D} {p q : PyData}, toPy a = some p → toPy b = some q → PyData.eqv p q = eqv a b := by
  intro a b p q ha hb
  match a with
  | .tape => exact absurd ha (by unfold toPy; simp)
  | .scr => exact absurd ha (by unfold toPy; simp)
  | .non => cases ha; cases b <;> first | (cases hb; rfl) | (unfold toPy at hb; cases hb; done) | (obtain ⟨_, _, rfl⟩ := toPy_tup hb; rfl) | (obtain ⟨_, _, rfl⟩ := toPy_lst hb; rfl)
  | .bl x => cases ha; cases b <;> first | (cases hb; rfl) | (unfold toPy at hb; cases hb; done) | (obtain ⟨_, _, rfl⟩ := toPy_tup hb; rfl) | (obtain ⟨_, _, rfl⟩ := toPy_lst hb; rfl)
  | .int x => cases ha; cases b <;> first | (cases hb; rfl) | (unfold toPy at hb; cases hb; done) | (obtain ⟨_, _, rfl⟩ := toPy_tup hb; rfl) | (obtain ⟨_, _, rfl⟩ := toPy_lst hb; rfl)
  | .str x => cases ha; cases b <;> first | (cases hb; rfl) | (unfold toPy at hb; cases hb; done) | (obtain ⟨_, _, rfl⟩ := toPy_tup hb; rfl) | (obtain ⟨_, _, rfl⟩ := toPy_lst hb; rfl)
  | .tup xs =>
    obtain ⟨ps, h1, rfl⟩ := toPy_tup ha
    cases b <;> first | (cases hb; rfl) | (unfold toPy at hb; cases hb; done) | (obtain ⟨_, _, rfl⟩ := toPy_lst hb; rfl) | skip
    case tup ys =>
      obtain ⟨qs, h2, rfl⟩ := toPy_tup hb
      simp only [PyData.eqv, eqv]
      exact eqvs_py h1 h2
  | .lst xs =>
    obtain ⟨ps, h1, rfl⟩ := toPy_lst ha
    cases b <;> first | (cases hb; rfl) | (unfold toPy at hb; cases hb; done) | (obtain ⟨_, _, rfl⟩ := toPy_tup hb; rfl) | skip
    case lst ys =>
      obtain ⟨qs, h2, rfl⟩ := toPy_lst hb
      simp only [PyData.eqv, eqv]
      exact eqvs_py h1 h2
theorem eqvs_py : ∀ {xs ys : List D} {ps qs : List PyData}, toPys xs = some ps → toPys ys = some qs → PyData.eqvAll ps qs = eqvs xs ys := by
  intro xs ys ps qs h1 h2
  match xs, ys with
  | [], [] => cases h1; cases h2; rfl
  | [], y :: ys =>
    cases h1
    obtain ⟨q, qs', _, _, rfl⟩ := toPys_cons h2
    rfl
  | x :: xs, [] =>
    cases h2
    obtain ⟨p, ps', _, _, rfl⟩ := toPys_cons h1
    rfl
  | x :: xs, y :: ys =>
    obtain ⟨p, ps', e1, e2, rfl⟩ := toPys_cons h1
    obtain ⟨q, qs', e3, e4, rfl⟩ := toPys_cons h2
    simp only [PyData.eqvAll, eqvs]
    rw [eqv_py e1 e3, eqvs_py e2 e4]
end
theorem eqD_of {k : Nat} {a b : D} (ha : Pl k a) (hb : Pl k b) (hk : k ≤ 64) : eqD a b = W.ret (eqv a b) := by
  obtain ⟨p, e1, c1, d1⟩ := ha
  obtain ⟨q, e2, c2, d2⟩ := hb
  unfold eqD
  rw [e1, e2]
  have ok1 : okPy p = true := by unfold okPy SeqAt.shaped; rw [c1]; simp; omega
  have ok2 : okPy q = true := by unfold okPy SeqAt.shaped; rw [c2]; simp; omega
  show (if (okPy p && okPy q) = true then W.ret (PyData.eqv p q) else W.fail) = _
  rw [ok1, ok2, if_pos (show (true && true) = true from rfl), eqv_py e1 e2]
theorem Pl.int {k : Nat} (i : Int) : Pl k (.int i) := ⟨.int i, rfl, by unfold PyData.canLay0; rfl, by unfold PyData.depth; omega⟩
theorem Pl.bl {k : Nat} (i : Bool) : Pl k (.bl i) := ⟨.bool i, rfl, by unfold PyData.canLay0; rfl, by unfold PyData.depth; omega⟩
theorem Pl.non {k : Nat} : Pl k .non := ⟨.none, rfl, by unfold PyData.canLay0; rfl, by unfold PyData.depth; omega⟩
theorem Pls.nil {k : Nat} : Pls k [] := ⟨[], rfl, by unfold PyData.canLayAll0; rfl, by unfold PyData.depthAll; omega⟩
theorem Pls.cons {k : Nat} {x : D} {xs : List D} (h : Pl k x) (hs : Pls k xs) : Pls k (x :: xs) := by
  obtain ⟨p, e1, c1, d1⟩ := h
  obtain ⟨ps, e2, c2, d2⟩ := hs
  refine ⟨p :: ps, by unfold toPys; rw [e1, e2], by unfold PyData.canLayAll0; rw [c1, c2]; rfl, ?_⟩
  unfold PyData.depthAll
  omega
theorem Pls.map {α : Type} {k : Nat} {en : α → D} : ∀ {xs : List α}, (∀ x ∈ xs, Pl k (en x)) → Pls k (xs.map en)
  | [], _ => .nil
  | x :: xs, h => .cons (h x List.mem_cons_self) (Pls.map fun y hy => h y (List.mem_cons_of_mem _ hy))
theorem Pl.tup {k : Nat} {xs : List D} (h : Pls k xs) : Pl (k + 1) (.tup xs) := by
  obtain ⟨ps, e, c, d⟩ := h
  exact ⟨.tuple ps, by unfold toPy; rw [e]; rfl, by unfold PyData.canLay0; exact c, by unfold PyData.depth; omega⟩
theorem Pl.lst {k : Nat} {xs : List D} (h : Pls k xs) : Pl (k + 1) (.lst xs) := by
  obtain ⟨ps, e, c, d⟩ := h
  exact ⟨.list ps, by unfold toPy; rw [e]; rfl, by unfold PyData.canLay0; exact c, by unfold PyData.depth; omega⟩
theorem eqvs_map {α : Type} [DecidableEq α] {en : α → D} (h : ∀ x y, eqv (en x) (en y) = decide (x = y)) : ∀ xs ys : List α, eqvs (xs.map en) (ys.map en) = decide (xs = ys)
  | [], [] => rfl
  | [], y :: ys => by simp [eqvs]
  | x :: xs, [] => by simp [eqvs]
  | x :: xs, y :: ys => by
    rw [List.map_cons, List.map_cons, eqvs, h, eqvs_map h xs ys, Bool.eq_iff_iff]
    simp
theorem memD_of {k : Nat} {x : D} {xs : List D} (hx : Pl k x) (hs : Pls k xs) (hk : k < 64) : memD x xs = W.ret (xs.any fun z => eqv z x) := by
  obtain ⟨p, e1, c1, d1⟩ := hx
  obtain ⟨qs, e2, c2, d2⟩ := hs
  unfold memD
  rw [e1, e2]
  have ok1 : okPy p = true := by unfold okPy SeqAt.shaped; rw [c1]; simp; omega
  have ok2 : okPy (.list qs) = true := by
    unfold okPy SeqAt.shaped PyData.canLay0 PyData.depth
    rw [c2]; simp; omega
  show (if (okPy p && okPy (.list qs)) = true then W.ret (qs.any fun z => PyData.eqv z p) else W.fail) = _
  rw [ok1, ok2, if_pos (show (true && true) = true from rfl)]
  congr 1
  clear ok2 c2 d2
  induction xs generalizing qs with
  | nil => cases e2; rfl
  | cons y ys ih =>
    obtain ⟨q, qs', f1, f2, rfl⟩ := toPys_cons e2
    rw [List.any_cons, List.any_cons, eqv_py f1 e1, ih qs' f2]
theorem eqv_int (i j : Int) : eqv (.int i) (.int j) = decide (i = j) := by
  show (i == j) = _
  rw [Bool.eq_iff_iff]; simp
theorem eqv_bl (i j : Bool) : eqv (.bl i) (.bl j) = decide (i = j) := by
  show (i == j) = _
  rw [Bool.eq_iff_iff]; simp
theorem eqv_tup {xs ys : List D} : eqv (.tup xs) (.tup ys) = eqvs xs ys := by unfold eqv; rfl
theorem eqv_lst {xs ys : List D} : eqv (.lst xs) (.lst ys) = eqvs xs ys := by unfold eqv; rfl
theorem eqv_eb (a b : Bool) : eqv (eb a) (eb b) = decide (a = b) := by
  unfold eb
  rw [eqv_int, Bool.eq_iff_iff]
  simp only [decide_eq_true_eq]
  exact ⟨b1_inj, fun h => by rw [h]⟩
theorem eqv_er (a b : List Bool) : eqv (er a) (er b) = decide (a = b) := by
  unfold er
  rw [eqv_tup, eqvs_map eqv_eb]
theorem Pl.eb {k : Nat} (b : Bool) : Pl k (eb b) := .int _
theorem Pl.er {k : Nat} (r : List Bool) : Pl (k + 1) (er r) := .tup (.map fun _ _ => .eb _)
theorem Pl.ers {k : Nat} (r : List (List Bool)) : Pl (k + 2) (ers r) := .lst (.map fun _ _ => .er _)

/-! ### small operations -/
theorem intsOf_map {α : Type} (f : α → Int) : ∀ xs : List α, intsOf (xs.map fun x => .int (f x)) = some (xs.map f)
  | [] => rfl
  | x :: xs => by
    rw [List.map_cons, intsOf, intsOf_map f xs]
    rfl
theorem intsOf_eb (r : List Bool) : intsOf (r.map eb) = some (r.map b1) := intsOf_map b1 r
theorem bools_map {α : Type} (f : α → Bool) : ∀ xs : List α, bools (xs.map fun x => .bl (f x)) = some (xs.map f)
  | [] => rfl
  | x :: xs => by
    rw [List.map_cons, bools, bools_map f xs]
    rfl
theorem cut_lo {α : Type} (en : α → D) (xs : List α) (h : Nat) : cutD (xs.map en) none (some (h : Int)) = (xs.take h).map en := by
  unfold cutD
  rw [HT.sIx_none, HT.sIx_nat, List.length_map]
  simp only [List.drop_zero, Nat.sub_zero]
  rw [← List.map_take]
  congr 1
  rcases Nat.le_total h xs.length with e | e
  · rw [Nat.min_eq_left e]
  · rw [Nat.min_eq_right e, List.take_of_length_le (Nat.le_refl _), List.take_of_length_le e]
theorem cut_hi {α : Type} (en : α → D) (xs : List α) (h : Nat) : cutD (xs.map en) (some (h : Int)) none = (xs.drop h).map en := by
  unfold cutD
  rw [HT.sIx_none, HT.sIx_nat, List.length_map, ← List.map_drop, ← List.map_take]
  congr 1
  rcases Nat.le_total h xs.length with e | e
  · rw [Nat.min_eq_left e, List.take_of_length_le (by rw [List.length_drop]; omega)]
  · rw [Nat.min_eq_right e, List.drop_of_length_le (Nat.le_refl _), List.drop_of_length_le e, List.take_nil]
theorem sl_lo (r : List Bool) (h : Nat) : slD (er r) none (some (h : Int)) = W.ret (er (r.take h)) := by
  show W.ret (D.tup (cutD (r.map eb) none (some (h : Int)))) = _
  rw [cut_lo]; rfl
theorem sl_hi (r : List Bool) (h : Nat) : slD (er r) (some (h : Int)) none = W.ret (er (r.drop h)) := by
  show W.ret (D.tup (cutD (r.map eb) (some (h : Int)) none)) = _
  rw [cut_hi]; rfl
theorem atI_map {α : Type} (en : α → D) (xs : List α) (k : Nat) (h : k < xs.length) : L2.atI (xs.map en) (k : Int) = some (en xs[k]) := by
  unfold L2.atI
  rw [ixN_at (by omega) (by rw [List.length_map]; omega)]
  show (xs.map en)[(k : Int).toNat]? = _
  rw [Int.toNat_natCast, List.getElem?_map, List.getElem?_eq_getElem h]
  rfl
theorem atD_map {α : Type} (en : α → D) (xs : List α) (k : Nat) (h : k < xs.length) : atD (xs.map en) (k : Int) = W.ret (en xs[k]) := by
  unfold atD
  rw [atI_map en xs k h]
theorem ix_er (r : List Bool) (k : Nat) (h : k < r.length) : ixD (er r) (.int (k : Int)) = W.ret (eb r[k]) := atD_map eb r k h
theorem ix_lst {α : Type} (en : α → D) (xs : List α) (k : Nat) (h : k < xs.length) : ixD (.lst (xs.map en)) (.int (k : Int)) = W.ret (en xs[k]) := atD_map en xs k h
theorem len_er (r : List Bool) : biD .len [er r] = W.ret (.int (r.length : Int)) := by
  show W.ret (D.int ((r.map eb).length : Int)) = _
  rw [List.length_map]
theorem len_lst (xs : List D) : biD .len [.lst xs] = W.ret (.int (xs.length : Int)) := rfl
theorem rng_nat (n : Nat) (h : n ≤ sizeLine) : rngD 0 (n : Int) = W.ret (.lst (intsR 0 n)) := by
  unfold rngD
  have hs : (sizeLine : Nat) = 16777216 := rfl
  rw [hs] at h
  have e : ((n : Int) - 0).toNat = n := by omega
  rw [e, if_pos]
  refine ⟨by decide, by decide, by omega, by omega, ?_⟩
  rw [hs]; exact h
theorem half_nat (n : Nat) : binD .FloorDiv (.int (n : Int)) (.int 2) = W.ret (.int ((n / 2 : Nat) : Int)) := by
  show (if (0 : Int) < 2 ∧ (2 : Int) < 1073741824 then W.ret (D.int ((n : Int) / 2)) else W.fail) = _
  rw [if_pos ⟨by decide, by decide⟩]
  rfl
theorem xor_eb (a b : Bool) : binD .BitXor (eb a) (eb b) = W.ret (eb (a ^^ b)) := by
  show W.ret (D.int (Builtin.bitXor (b1 a) (b1 b))) = _
  rw [b1_xor]; rfl
theorem mul_eb (a b : Bool) : binD .Mult (eb a) (eb b) = W.ret (eb (a && b)) := by
  cases a <;> cases b <;> rfl
theorem flat_rng {f : D → W (List D)} {g : Nat → D} {n : Nat} (h : ∀ k, k < n → f (.int (k : Int)) = W.ret [g k]) : flatW f (intsR 0 n) = W.ret ((List.range n).map g) := by
  unfold intsR
  refine flatW_map fun k hk => ?_
  have e : (0 : Int) + (k : Nat) = (k : Int) := by omega
  rw [e]
  exact h k (List.mem_range.mp hk)
theorem for_rng {f : D → SEnv → W Fl} (st : Nat → SEnv) {n : Nat} (h : ∀ k, k < n → ∃ e, f (.int (k : Int)) (st k) = W.ret (.nx e) ∧ mask (st k) e = st (k + 1)) : forW f (intsR 0 n) (st 0) = W.ret (.nx (st n)) := by
  have key : ∀ m k, k + m = n → forW f ((List.range' k m).map fun i => .int ((i : Nat) : Int)) (st k) = W.ret (.nx (st n)) := by
    intro m
    induction m with
    | zero => intro k e; have : k = n := by omega
              subst this; rfl
    | succ m ih =>
      intro k e
      obtain ⟨e1, h1, h2⟩ := h k (by omega)
      rw [List.range'_succ, List.map_cons, forW, h1, W.ret_bind]
      show forW f _ (mask (st k) e1) = _
      rw [h2]
      exact ih (k + 1) (by omega)
  have e : intsR 0 n = (List.range' 0 n).map fun i => .int ((i : Nat) : Int) := by
    unfold intsR
    rw [List.range_eq_range']
    refine List.map_congr_left fun i _ => ?_
    rw [Int.zero_add]
  rw [e]
  exact key n 0 (by omega)
/-- a loop over a list, its state by the items seen -/
theorem for_list {α : Type} {f : D → SEnv → W Fl} {en : α → D} (st : List α → SEnv) {xs : List α} (h : ∀ pre x post, xs = pre ++ x :: post → ∃ e, f (en x) (st pre) = W.ret (.nx e) ∧ mask (st pre) e = st (pre ++ [x])) : forW f (xs.map en) (st []) = W.ret (.nx (st xs)) := by
  have key : ∀ post pre, xs = pre ++ post → forW f (post.map en) (st pre) = W.ret (.nx (st xs)) := by
    intro post
    induction post with
    | nil => intro pre e; rw [List.append_nil] at e; subst e; rfl
    | cons x post ih =>
      intro pre e
      obtain ⟨e1, h1, h2⟩ := h pre x post e
      rw [List.map_cons, forW, h1, W.ret_bind]
      show forW f _ (mask (st pre) e1) = _
      rw [h2]
      exact ih (pre ++ [x]) (by rw [e, List.append_assoc]; rfl)
  exact key xs [] rfl
/-! ### steps of a body -/
theorem st_seq {T : Tab} {a b : CS} {env : SEnv} {Q : Except Exn Fl → Prop} (h : evS T a env fun r => match r with | .ok (.nx e) => evS T b e Q | r => Q r) : evS T (.seq a b) env Q := by
  refine (congrArg (evS T a env) (funext fun r => ?_)).mp h
  cases r with
  | error e => rfl
  | ok a => cases a <;> rfl
theorem st_asg {T : Tab} {i : Nat} {c : CE} {env : SEnv} {d : D} {Q : Except Exn Fl → Prop} (h : evE T c (opn [] env) = W.ret d) (q : Q (.ok (.nx (env.set i (some (false, d)))))) : evS T (.asg i c []) env Q := by
  show W.bind (evE T c (opn [] env)) _ Q
  rw [h]
  show Q (.ok (.nx ((keepF [] (noL d) env).set i (some (false, d)))))
  unfold keepF
  rw [if_pos (.inl rfl)]
  exact q
theorem st_ite {T : Tab} {c : CE} {a b : CS} {env : SEnv} {x : Bool} {Q : Except Exn Fl → Prop} (h : evE T c (opnAll env) = W.ret (.bl x)) (q : if x = true then evS T a env Q else evS T b env Q) : evS T (.ite c a b) env Q := by
  show W.bind (evE T c (opnAll env)) _ Q
  rw [h]
  cases x with
  | true => rw [if_pos rfl] at q; exact q
  | false => rw [if_neg (by decide)] at q; exact q
/-- `if c: return False`, c false -/
theorem st_no {T : Tab} {c : CE} {a : CS} {env : SEnv} {Q : Except Exn Fl → Prop} (h : evE T c (opnAll env) = W.ret (.bl false)) (q : Q (.ok (.nx env))) : evS T (.ite c a .nil) env Q := st_ite h (by rw [if_neg (by decide)]; exact q)
theorem st_ret {T : Tab} {c : CE} {env : SEnv} {d : D} {Q : Except Exn Fl → Prop} (h : evE T c (opnAll env) = W.ret d) (q : Q (.ok (.rt d))) : evS T (.ret c) env Q := by
  show W.bind (evE T c (opnAll env)) _ Q
  rw [h]
  exact q
/-- a draw -/
theorem draw {α : Type} {n : Nat} {f : D → W α} {Q : Except Exn α → Prop} (h0 : 0 < n) (h1 : n < 1073741824) (h : ∀ k, k < n → f (.int (k : Int)) Q) : W.bind (pick (n : Int)) f Q := ⟨⟨by omega, by omega⟩, fun d hd => h d (by omega)⟩

/-! ### the same as equations -/
section
variable {T : Tab} {a b : CS} {c : CE} {env e : SEnv} {d : D}
theorem e_seq (h : evS T a env = W.ret (.nx e)) : evS T (.seq a b) env = evS T b e := by
  show W.bind (evS T a env) _ = _
  rw [h]; rfl
theorem e_seqR (h : evS T a env = W.ret (.rt d)) : evS T (.seq a b) env = W.ret (.rt d) := by
  show W.bind (evS T a env) _ = _
  rw [h]; rfl
theorem e_asg {i : Nat} (h : evE T c (opn [] env) = W.ret d) : evS T (.asg i c []) env = W.ret (.nx (env.set i (some (false, d)))) := by
  show W.bind (evE T c (opn [] env)) _ = _
  rw [h]
  show W.ret (Fl.nx ((keepF [] (noL d) env).set i (some (false, d)))) = _
  unfold keepF
  rw [if_pos (.inl rfl)]
theorem e_ret (h : evE T c (opnAll env) = W.ret d) : evS T (.ret c) env = W.ret (.rt d) := by
  show W.bind (evE T c (opnAll env)) _ = _
  rw [h]; rfl
theorem e_if (h : evE T c (opnAll env) = W.ret (.bl true)) : evS T (.ite c a b) env = evS T a env := by
  show W.bind (evE T c (opnAll env)) _ = _
  rw [h]; rfl
theorem e_no (h : evE T c (opnAll env) = W.ret (.bl false)) : evS T (.ite c a b) env = evS T b env := by
  show W.bind (evE T c (opnAll env)) _ = _
  rw [h]; rfl
theorem e_def {n ar : Nat} {ds : List D} {body : CS} (hl : ds.length = ar) (h : evS T body (start n ds) = W.ret (.rt d)) : evDef T n ar body ds = W.ret d := by
  unfold evDef
  rw [if_pos hl, h]; rfl
theorem e_for {tg : TG} {it : CE} {v : D} {xs : List D} (h1 : evE T it (opn [] env) = W.ret v) (h2 : itemsD v = W.ret xs)
    (h : forW (fun x e => W.bind (bindTS tg x e) fun e1 => evS T a e1) xs env = W.ret (.nx e)) : evS T (.for tg it a []) env = W.ret (.nx e) := by
  show W.bind (evE T it (opn [] env)) _ = _
  rw [h1, W.ret_bind, h2, W.ret_bind]
  have hf : frz [] env = env := frz_nil
  rw [hf]
  split <;> exact h
theorem c_comp {own : List Nat} {tg : TG} {it c e : CE} {env : Env} {v : D} {xs ys : List D} (h1 : evE T it env = W.ret v) (h2 : itemsD v = W.ret xs) (h : flatW (compF tg own (evE T c) (evE T e) env) xs = W.ret ys) :
    evE T (.comp own tg it c e) env = W.ret (.lst ys) := by
  show W.bind (evE T it env) _ = _
  rw [h1, W.ret_bind, h2, W.ret_bind, h]; rfl
theorem c_comp2 {own own1 : List Nat} {tg tg1 : TG} {it it1 c e : CE} {env : Env} {v : D} {xs ys : List D} (h1 : evE T it env = W.ret v) (h2 : itemsD v = W.ret xs) (h : flatW (compF2 xs.length tg own (evE T it1) tg1 own1 (evE T c) (evE T e) env) xs = W.ret ys) :
    evE T (.comp2 own tg it own1 tg1 it1 c e) env = W.ret (.lst ys) := by
  show W.bind (evE T it env) _ = _
  rw [h1, W.ret_bind, h2, W.ret_bind, h]; rfl
theorem c_bi {bb : BI} {es : CE} {env : Env} {ds : List D} (h1 : evE T es env = W.ret (.tup ds)) : evE T (.bi bb es) env = biD bb ds := by
  show W.bind (evE T es env) _ = _
  rw [h1]; rfl
theorem c_call {j : Nat} {es : CE} {env : Env} {ds : List D} (h1 : evE T es env = W.ret (.tup ds)) : evE T (.call j es) env = callT T j ds := by
  show W.bind (evE T es env) _ = _
  rw [h1]; rfl
theorem c_callT {j : Nat} {es : CE} {env : Env} {ds : List D} {x : Str} {m : List D → W D} {d : D} (h1 : evE T es env = W.ret (.tup ds)) (hT : T[j]? = some (x, m)) (h : m ds = W.ret d) : evE T (.call j es) env = W.ret d := by
  rw [c_call h1]
  unfold callT
  rw [hT]
  exact h
theorem c_nil {env : Env} : evE T .nil env = W.ret (.tup []) := rfl
theorem c_cons {x y : CE} {env : Env} {v : D} {ds : List D} (h1 : evE T x env = W.ret v) (h2 : evE T y env = W.ret (.tup ds)) : evE T (.cons x y) env = W.ret (.tup (v :: ds)) := by
  show W.bind (evE T x env) _ = _
  rw [h1, W.ret_bind, h2]; rfl
theorem c_bin {o : Operator} {x y : CE} {env : Env} {v w : D} (h1 : evE T x env = W.ret v) (h2 : evE T y env = W.ret w) : evE T (.bin o x y) env = binD o v w := by
  show W.bind (evE T x env) _ = _
  rw [h1, W.ret_bind, h2]; rfl
theorem c_cmp {o : CmpOp} {x y : CE} {env : Env} {v w : D} (h1 : evE T x env = W.ret v) (h2 : evE T y env = W.ret w) : evE T (.cmp o x y) env = cmpD o v w := by
  show W.bind (evE T x env) _ = _
  rw [h1, W.ret_bind, h2]; rfl
theorem c_ix {x y : CE} {env : Env} {v w : D} (h1 : evE T x env = W.ret v) (h2 : evE T y env = W.ret w) : evE T (.ix x y) env = ixD v w := by
  show W.bind (evE T x env) _ = _
  rw [h1, W.ret_bind, h2]; rfl
theorem c_slo {x y : CE} {env : Env} {v : D} {i : Int} (h1 : evE T x env = W.ret v) (hn : isNil y = false) (h2 : evE T y env = W.ret (.int i)) : evE T (.sl x .nil y) env = slD v none (some i) := by
  show W.bind (evE T x env) _ = _
  rw [h1, W.ret_bind]
  show W.bind (W.ret none) (fun l => W.bind (partW (isNil y) (evE T y env)) fun h => slD v l h) = _
  rw [W.ret_bind, hn, h2]; rfl
theorem c_shi {x y : CE} {env : Env} {v : D} {i : Int} (h1 : evE T x env = W.ret v) (hn : isNil y = false) (h2 : evE T y env = W.ret (.int i)) : evE T (.sl x y .nil) env = slD v (some i) none := by
  show W.bind (evE T x env) _ = _
  rw [h1, W.ret_bind, hn, h2]; rfl
theorem c_biT {bb : BI} {es : CE} {env : Env} {ds : List D} {d : D} (h1 : evE T es env = W.ret (.tup ds)) (h : biD bb ds = W.ret d) : evE T (.bi bb es) env = W.ret d := (c_bi h1).trans h
theorem c_binT {o : Operator} {x y : CE} {env : Env} {v w d : D} (h1 : evE T x env = W.ret v) (h2 : evE T y env = W.ret w) (h : binD o v w = W.ret d) : evE T (.bin o x y) env = W.ret d := (c_bin h1 h2).trans h
theorem c_cmpT {o : CmpOp} {x y : CE} {env : Env} {v w d : D} (h1 : evE T x env = W.ret v) (h2 : evE T y env = W.ret w) (h : cmpD o v w = W.ret d) : evE T (.cmp o x y) env = W.ret d := (c_cmp h1 h2).trans h
theorem c_ixT {x y : CE} {env : Env} {v w d : D} (h1 : evE T x env = W.ret v) (h2 : evE T y env = W.ret w) (h : ixD v w = W.ret d) : evE T (.ix x y) env = W.ret d := (c_ix h1 h2).trans h
theorem c_sloT {x y : CE} {env : Env} {v d : D} {i : Int} (h1 : evE T x env = W.ret v) (h2 : evE T y env = W.ret (.int i)) (h : slD v none (some i) = W.ret d) (hn : isNil y = false := by rfl) : evE T (.sl x .nil y) env = W.ret d := (c_slo h1 hn h2).trans h
theorem c_shiT {x y : CE} {env : Env} {v d : D} {i : Int} (h1 : evE T x env = W.ret v) (h2 : evE T y env = W.ret (.int i)) (h : slD v (some i) none = W.ret d) (hn : isNil y = false := by rfl) : evE T (.sl x y .nil) env = W.ret d := (c_shi h1 hn h2).trans h
theorem c_ite {x y z : CE} {env : Env} {p : Bool} (h1 : evE T x env = W.ret (.bl p)) : evE T (.ite x y z) env = if p = true then evE T y env else evE T z env := by
  show W.bind (evE T x env) _ = _
  rw [h1, W.ret_bind]
  cases p <;> rfl
theorem c_not {x : CE} {env : Env} {p : Bool} (h1 : evE T x env = W.ret (.bl p)) : evE T (.not x) env = W.ret (.bl (!p)) := by
  show W.bind (evE T x env) _ = _
  rw [h1]; rfl
theorem c_or {x y : CE} {env : Env} {p q : Bool} (h1 : evE T x env = W.ret (.bl p)) (h2 : evE T y env = W.ret (.bl q)) : evE T (.or x y) env = W.ret (.bl (p || q)) := by
  show W.bind (evE T x env) _ = _
  rw [h1, W.ret_bind]
  cases p
  · exact h2
  · rfl
theorem c_and {x y : CE} {env : Env} {p q : Bool} (h1 : evE T x env = W.ret (.bl p)) (h2 : evE T y env = W.ret (.bl q)) : evE T (.and x y) env = W.ret (.bl (p && q)) := by
  show W.bind (evE T x env) _ = _
  rw [h1, W.ret_bind]
  cases p
  · rfl
  · exact h2
theorem asI_int {i : Int} {f : Int → W D} : asI (.int i) f = f i := rfl
theorem c_lst {es : CE} {env : Env} {ds : List D} (h1 : evE T es env = W.ret (.tup ds)) : evE T (.lst es) env = W.ret (.lst ds) := by
  show W.bind (evE T es env) _ = _
  rw [h1]; rfl
theorem c_rng {x : CE} {env : Env} {n : Nat} (h1 : evE T x env = W.ret (.int (n : Int))) (hn : n ≤ sizeLine) : evE T (.rng1 x) env = W.ret (.lst (intsR 0 n)) := by
  unfold evE
  rw [h1, W.ret_bind, asI_int, rng_nat n hn]
end
theorem cmp_eq {k : Nat} {x y : D} (hx : Pl k x) (hy : Pl k y) (hk : k ≤ 64) : cmpD .Eq x y = W.ret (.bl (eqv x y)) := by
  show W.bind (eqD x y) _ = _
  rw [eqD_of hx hy hk]; rfl
theorem cmp_ne {k : Nat} {x y : D} (hx : Pl k x) (hy : Pl k y) (hk : k ≤ 64) : cmpD .NotEq x y = W.ret (.bl (!eqv x y)) := by
  show W.bind (eqD x y) _ = _
  rw [eqD_of hx hy hk]; rfl
end PV
/-! PV, part r: comprehensions' turns; `_law_same`. -/
namespace PV
open PySem

theorem compF_of {tg : TG} {own : List Nat} {mc me : Env → W D} {env env1 : Env} {x y : D} (h1 : bindT tg x (wipeE env own) = W.ret env1) (hc : mc env1 = W.ret (.bl true)) (he : me env1 = W.ret y) : compF tg own mc me env x = W.ret [y] := by
  unfold compF
  rw [h1, W.ret_bind, hc, W.ret_bind]
  show W.bind (me env1) _ = _
  rw [he]; rfl
theorem compF_if {tg : TG} {own : List Nat} {mc me : Env → W D} {env env1 : Env} {x y : D} {b : Bool} (h1 : bindT tg x (wipeE env own) = W.ret env1) (hc : mc env1 = W.ret (.bl b)) (he : b = true → me env1 = W.ret y) : compF tg own mc me env x = W.ret (if b = true then [y] else []) := by
  unfold compF
  rw [h1, W.ret_bind, hc, W.ret_bind]
  cases b with
  | true =>
    show W.bind (me env1) _ = _
    rw [he rfl]; rfl
  | false => rfl
theorem compF2_of {n : Nat} {tg tg1 : TG} {own own1 : List Nat} {mi mc me : Env → W D} {env env1 : Env} {x v1 : D} {xs1 ys : List D} (h1 : bindT tg x (wipeE env own) = W.ret env1) (h2 : mi env1 = W.ret v1) (h3 : itemsD v1 = W.ret xs1)
    (hn : n * xs1.length ≤ sizeLine) (h4 : flatW (compF tg1 own1 mc me env1) xs1 = W.ret ys) : compF2 n tg own mi tg1 own1 mc me env x = W.ret ys := by
  unfold compF2
  rw [h1, W.ret_bind, h2, W.ret_bind, h3, W.ret_bind, if_pos hn, h4]
theorem add_lst {xs ys : List D} (h : xs.length + ys.length ≤ sizeLine) : binD .Add (.lst xs) (.lst ys) = W.ret (.lst (xs ++ ys)) := by
  simp only [binD, addD, if_pos h]
theorem add_tup {xs ys : List D} (h : xs.length + ys.length ≤ sizeLine) : binD .Add (.tup xs) (.tup ys) = W.ret (.tup (xs ++ ys)) := by
  simp only [binD, addD, if_pos h]
theorem flatW_nil {f : D → W (List D)} {xs : List D} (h : ∀ x ∈ xs, f x = W.ret []) : flatW f xs = W.ret [] := by
  induction xs with
  | nil => rfl
  | cons x xs ih =>
    rw [flatW, h x List.mem_cons_self, W.ret_bind, ih fun y hy => h y (List.mem_cons_of_mem _ hy)]
    rfl
theorem turn_nm {T : Tab} {i : Nat} {x : D} {env : SEnv} {body : CS} {r : W Fl} (h : evS T body (env.set i (some (false, x))) = r) : (fun x e => W.bind (bindTS (.nm i) x e) fun e1 => evS T body e1) x env = r := h
/-! ### `_law_same` of a value with itself -/
inductive Dat : Nat → D → Prop
  | non {n : Nat} : Dat n .non
  | bl {n : Nat} (b : Bool) : Dat n (.bl b)
  | int {n : Nat} (i : Int) : Dat n (.int i)
  | str {n : Nat} {x : Str} : Pl 0 (.str x) → Dat n (.str x)
  | tup {n : Nat} {xs : List D} : xs.length ≤ 1000000 → (∀ x ∈ xs, Dat n x) → Dat (n + 1) (.tup xs)
  | lst {n : Nat} {xs : List D} : xs.length ≤ 1000000 → (∀ x ∈ xs, Dat n x) → Dat (n + 1) (.lst xs)
theorem Dat.succ {n : Nat} {d : D} (h : Dat n d) : Dat (n + 1) d := by
  induction h with
  | non => exact .non
  | bl b => exact .bl b
  | int i => exact .int i
  | str h => exact .str h
  | tup hl _ ih => exact .tup hl ih
  | lst hl _ ih => exact .lst hl ih
theorem Dat.tups {α : Type} {n : Nat} {en : α → D} {xs : List α} (hl : xs.length ≤ 1000000) (h : ∀ x ∈ xs, Dat n (en x)) : Dat (n + 1) (.tup (xs.map en)) := .tup (by rw [List.length_map]; exact hl) fun y hy => by
  obtain ⟨x, hx, rfl⟩ := List.mem_map.mp hy
  exact h x hx
theorem Dat.lsts {α : Type} {n : Nat} {en : α → D} {xs : List α} (hl : xs.length ≤ 1000000) (h : ∀ x ∈ xs, Dat n (en x)) : Dat (n + 1) (.lst (xs.map en)) := .lst (by rw [List.length_map]; exact hl) fun y hy => by
  obtain ⟨x, hx, rfl⟩ := List.mem_map.mp hy
  exact h x hx
def c_same : CS :=
  .seq (.ite (.isN (.var 1)) (.seq (.ret (.isN (.var 0))) .nil) .nil)
  (.seq (.ite (.isa (.var 1) "bool") (.seq (.ret (.and (.isa (.var 0) "bool") (.cmp .Eq (.var 0) (.var 1)))) .nil) .nil)
  (.seq (.ite (.isa (.var 1) "int") (.seq (.ret (.and (.isa (.var 0) "int") (.and (.not (.isa (.var 0) "bool")) (.cmp .Eq (.var 0) (.var 1))))) .nil) .nil)
  (.seq (.ite (.isa (.var 1) "str") (.seq (.ret (.and (.isa (.var 0) "str") (.cmp .Eq (.var 0) (.var 1)))) .nil) .nil)
  (.seq (.ite (.or (.and (.isa (.var 1) "list") (.not (.isa (.var 0) "list"))) (.and (.isa (.var 1) "tuple") (.not (.isa (.var 0) "tuple")))) (.seq (.ret (.bl false)) .nil) .nil)
  (.seq (.ret (.and (.cmp .Eq (.bi .len (.cons (.var 0) .nil)) (.bi .len (.cons (.var 1) .nil))) (.cmp .Eq (.comp [2] (.nm 2) (.rng1 (.bi .len (.cons (.var 1) .nil))) (.not (.call 0 (.cons (.ix (.var 0) (.var 2)) (.cons (.ix (.var 1) (.var 2)) .nil)))) (.int 1)) (.lst .nil)))) .nil)))))
def m_same : Nat → List D → W D
  | 0 => fun _ => W.fail
  | n + 1 => evDef [("_law_same", m_same n)] 3 2 c_same
theorem isa_of {d : D} {t T : String} (h : tyD d = some t) (hT : T ∈ ["bool", "int", "str", "tuple", "list"]) {b : Bool} (hb : (t == T || (t == "bool" && T == "int")) = b) : isaD d T = W.ret (.bl b) := by
  unfold isaD
  rw [h]
  show (if T ∈ ["bool", "int", "str", "tuple", "list"] then W.ret (D.bl (t == T || (t == "bool" && T == "int"))) else W.fail) = _
  rw [if_pos hT, hb]
section
variable {T : Tab}
theorem c_isa {x : CE} {env : Env} {d : D} {t K : String} {b : Bool} (h1 : evE T x env = W.ret d) (h : tyD d = some t) (hT : K ∈ ["bool", "int", "str", "tuple", "list"]) (hb : (t == K || (t == "bool" && K == "int")) = b) : evE T (.isa x K) env = W.ret (.bl b) := by
  show W.bind (evE T x env) _ = _
  rw [h1, W.ret_bind, isa_of h hT hb]
theorem eqv_self_int (i : Int) : eqv (.int i) (.int i) = true := by rw [eqv_int]; simp
theorem same_seq {n : Nat} {d : D} {xs : List D} {t : String} (ht : tyD d = some t) (h2 : t = "tuple" ∨ t = "list") (hxs : biD .len [d] = W.ret (.int (xs.length : Int))) (hix : ∀ k (hk : k < xs.length), ixD d (.int (k : Int)) = W.ret xs[k]) (hl : xs.length ≤ 1000000)
    (hn : d = .tup xs ∨ d = .lst xs) (ih : ∀ x ∈ xs, m_same n [x, x] = W.ret (.bl true)) : evDef [("_law_same", m_same n)] 3 2 c_same [d, d] = W.ret (.bl true) := by
  have v1 : ∀ {T : Tab}, evE T (.var 1) (opnAll (PV.start 3 [d, d])) = W.ret d := rfl
  have v0 : ∀ {T : Tab}, evE T (.var 0) (opnAll (PV.start 3 [d, d])) = W.ret d := rfl
  refine e_def rfl ?_
  refine (e_seq (e_no ?_)).trans ((e_seq (e_no (c_isa v1 ht (by decide) ?_))).trans ((e_seq (e_no (c_isa v1 ht (by decide) ?_))).trans ((e_seq (e_no (c_isa v1 ht (by decide) ?_))).trans ((e_seq (e_no ?_)).trans (e_seqR (e_ret ?_))))))
  · rcases hn with rfl | rfl <;> rfl
  · rcases h2 with rfl | rfl <;> decide
  · rcases h2 with rfl | rfl <;> decide
  · rcases h2 with rfl | rfl <;> decide
  · have a1 : evE [("_law_same", m_same n)] (.isa (.var 1) "list") (opnAll (PV.start 3 [d, d])) = W.ret (.bl (t == "list")) := c_isa v1 ht (by decide) (by simp)
    have a2 : evE [("_law_same", m_same n)] (.isa (.var 0) "list") (opnAll (PV.start 3 [d, d])) = W.ret (.bl (t == "list")) := c_isa v0 ht (by decide) (by simp)
    have a3 : evE [("_law_same", m_same n)] (.isa (.var 1) "tuple") (opnAll (PV.start 3 [d, d])) = W.ret (.bl (t == "tuple")) := c_isa v1 ht (by decide) (by simp)
    have a4 : evE [("_law_same", m_same n)] (.isa (.var 0) "tuple") (opnAll (PV.start 3 [d, d])) = W.ret (.bl (t == "tuple")) := c_isa v0 ht (by decide) (by simp)
    rw [c_or (c_and a1 (c_not a2)) (c_and a3 (c_not a4))]
    rcases h2 with rfl | rfl <;> rfl
  · have hc : evE [("_law_same", m_same n)] (.comp [2] (.nm 2) (.rng1 (.bi .len (.cons (.var 1) .nil))) (.not (.call 0 (.cons (.ix (.var 0) (.var 2)) (.cons (.ix (.var 1) (.var 2)) .nil)))) (.int 1)) (opnAll (PV.start 3 [d, d])) = W.ret (.lst []) := by
      refine c_comp (c_rng (n := xs.length) (c_biT (c_cons v1 c_nil) hxs) (by rw [sizeLine_eq]; omega)) rfl ?_
      refine flatW_nil fun x hx => ?_
      unfold intsR at hx
      obtain ⟨k, hk, rfl⟩ := List.mem_map.mp hx
      have hk := List.mem_range.mp hk
      have e : (0 : Int) + (k : Nat) = (k : Int) := by omega
      rw [e]
      refine (compF_if (b := false) (y := .int 1) (env1 := [some d, some d, some (.int (k : Int))]) rfl ?_ fun z => nomatch z).trans rfl
      exact c_not (p := true) (c_callT (c_cons (c_ixT rfl rfl (hix k hk)) (c_cons (c_ixT rfl rfl (hix k hk)) c_nil)) rfl (ih _ (List.getElem_mem hk)))
    refine c_and (p := true) (q := true) (c_cmpT (c_biT (c_cons v0 c_nil) hxs) (c_biT (c_cons v1 c_nil) hxs) ?_) (c_cmpT hc rfl ?_)
    · rw [cmp_eq (k := 0) (.int _) (.int _) (by decide), eqv_self_int]
    · rw [cmp_eq (k := 1) (.lst .nil) (.lst .nil) (by decide)]; rfl
theorem same_refl {n : Nat} {d : D} (h : Dat n d) : m_same (n + 1) [d, d] = W.ret (.bl true) := by
  induction h with
  | non => exact e_def rfl (e_seqR ((e_if rfl).trans (e_seqR (e_ret rfl))))
  | bl b =>
    refine e_def rfl ((e_seq (e_no rfl)).trans (e_seqR ((e_if (c_isa rfl rfl (by decide) (by decide))).trans (e_seqR (e_ret (c_and (q := true) (c_isa rfl rfl (by decide) (b := true) (by decide)) (c_cmpT rfl rfl ?_)))))))
    rw [cmp_eq (k := 0) (.bl _) (.bl _) (by decide), eqv_bl]; simp
  | int i =>
    refine e_def rfl ((e_seq (e_no rfl)).trans ((e_seq (e_no (c_isa rfl rfl (by decide) (by decide)))).trans (e_seqR ((e_if (c_isa rfl rfl (by decide) (by decide))).trans (e_seqR (e_ret (c_and (p := true) (q := true) (c_isa rfl rfl (by decide) (by decide)) (c_and (p := true) (q := true) (c_not (p := false) (c_isa rfl rfl (by decide) (by decide))) (c_cmpT rfl rfl ?_)))))))))
    rw [cmp_eq (k := 0) (.int _) (.int _) (by decide), eqv_self_int]
  | str hp =>
    refine e_def rfl ((e_seq (e_no rfl)).trans ((e_seq (e_no (c_isa rfl rfl (by decide) (by decide)))).trans ((e_seq (e_no (c_isa rfl rfl (by decide) (by decide)))).trans (e_seqR ((e_if (c_isa rfl rfl (by decide) (by decide))).trans (e_seqR (e_ret (c_and (p := true) (q := true) (c_isa rfl rfl (by decide) (by decide)) (c_cmpT rfl rfl ?_)))))))))
    rw [cmp_eq (k := 0) hp hp (by decide)]
    show W.ret (D.bl (_ == _)) = _
    simp
  | tup hl _ ih =>
    rename_i n xs hx
    exact same_seq rfl (.inl rfl) rfl (fun k hk => by have := atD_map id xs k hk; rw [List.map_id] at this; exact this) hl (.inl rfl) ih
  | lst hl _ ih =>
    rename_i n xs hx
    exact same_seq rfl (.inr rfl) rfl (fun k hk => by have := atD_map id xs k hk; rw [List.map_id] at this; exact this) hl (.inr rfl) ih
end
theorem Dat.eb {n : Nat} (b : Bool) : Dat n (eb b) := .int _
theorem Dat.er {n : Nat} {r : List Bool} (h : r.length ≤ 1000000) : Dat (n + 1) (er r) := .tups h fun _ _ => .eb _
end PV
namespace K75
open PySem PySem.Spec PyProof.Rows L2 PV
def top (i : Nat) : Stmt := PySem.Challenge.pw_swapsigns_k75_whole_forms_of_signs.main.body.getD i (.Pass ⟨0, 0, 0, 0⟩)
abbrev st_xor_bits : Stmt := top 1
def N_xor_bits : List Str := ["first", "second", "one", "other"]
def c_xor_bits : CS :=
    (.seq (.ret (.bi .tuple (.cons (.comp [2, 3] (.tp [2, 3]) (.zip (.var 0) (.var 1)) (.bl true) (.bin .BitXor (.var 2) (.var 3))) .nil)))
    .nil)
def T_xor_bits : Tab := []
def m_xor_bits : List D → W D := evDef T_xor_bits 4 2 c_xor_bits
abbrev st_dot_bits : Stmt := top 2
def N_dot_bits : List Str := ["first", "second", "one", "other"]
def c_dot_bits : CS :=
    (.seq (.ret (.bin .BitAnd (.bi .sum (.cons (.comp [2, 3] (.tp [2, 3]) (.zip (.var 0) (.var 1)) (.bl true) (.bin .BitAnd (.var 2) (.var 3))) .nil)) (.int 1)))
    .nil)
def T_dot_bits : Tab := []
def m_dot_bits : List D → W D := evDef T_dot_bits 4 2 c_dot_bits
abbrev st_all_bits : Stmt := top 3
def N_all_bits : List Str := ["many", "found", "k", "row", "bit"]
def c_all_bits : CS :=
    (.seq (.asg 1 (.lst (.cons (.tup .nil) .nil)) [])
    (.seq (.for (.nm 2) (.rng1 (.var 0)) (.seq (.asg 1 (.comp2 [3, 4] (.nm 3) (.var 1) [4] (.nm 4) (.tup (.cons (.int 0) (.cons (.int 1) .nil))) (.bl true) (.bin .Add (.var 3) (.tup (.cons (.var 4) .nil)))) [])
    .nil) [])
    (.seq (.ret (.var 1))
    .nil)))
def T_all_bits : Tab := []
def m_all_bits : List D → W D := evDef T_all_bits 5 1 c_all_bits
abbrev st_twist : Stmt := top 5
def N_twist : List Str := ["first", "second", "half"]
def c_twist : CS :=
    (.seq (.asg 2 (.bin .FloorDiv (.bi .len (.cons (.var 0) .nil)) (.int 2)) [])
    (.seq (.ret (.bin .BitXor (.call 0 (.cons (.sl (.var 0) .nil (.var 2)) (.cons (.sl (.var 1) (.var 2) .nil) .nil))) (.call 0 (.cons (.sl (.var 0) (.var 2) .nil) (.cons (.sl (.var 1) .nil (.var 2)) .nil)))))
    .nil))
def T_twist : Tab := [("dot_bits", m_dot_bits)]
def m_twist : List D → W D := evDef T_twist 3 2 c_twist
abbrev st_bit_turn : Stmt := top 7
def N_bit_turn : List Str := ["direction", "row"]
def c_bit_turn : CS :=
    (.seq (.ret (.ite (.cmp .Eq (.call 0 (.cons (.var 0) (.cons (.var 1) .nil))) (.int 1)) (.call 1 (.cons (.var 1) (.cons (.var 0) .nil))) (.var 1)))
    .nil)
def T_bit_turn : Tab := [("twist", m_twist), ("xor_bits", m_xor_bits)]
def m_bit_turn : List D → W D := evDef T_bit_turn 2 2 c_bit_turn
abbrev st_form_at : Stmt := top 8
def N_form_at : List Str := ["form", "row", "half"]
def c_form_at : CS :=
    (.seq (.asg 2 (.bin .FloorDiv (.bi .len (.cons (.var 1) .nil)) (.int 2)) [])
    (.seq (.ret (.bin .BitXor (.call 0 (.cons (.sl (.var 1) .nil (.var 2)) (.cons (.sl (.var 1) (.var 2) .nil) .nil))) (.call 0 (.cons (.var 0) (.cons (.var 1) .nil)))))
    .nil))
def T_form_at : Tab := [("dot_bits", m_dot_bits)]
def m_form_at : List D → W D := evDef T_form_at 3 2 c_form_at
abbrev st_form_zeros : Stmt := top 9
def N_form_zeros : List Str := ["form", "row"]
def c_form_zeros : CS :=
    (.seq (.ret (.bi .len (.cons (.comp [1] (.nm 1) (.call 0 (.cons (.bi .len (.cons (.var 0) .nil)) .nil)) (.cmp .Eq (.call 1 (.cons (.var 0) (.cons (.var 1) .nil))) (.int 0)) (.var 1)) .nil)))
    .nil)
def T_form_zeros : Tab := [("all_bits", m_all_bits), ("form_at", m_form_at)]
def m_form_zeros : List D → W D := evDef T_form_zeros 2 1 c_form_zeros
abbrev st_form_kind : Stmt := top 10
def N_form_kind : List Str := ["form", "half"]
def c_form_kind : CS :=
    (.seq (.asg 1 (.bin .FloorDiv (.bi .len (.cons (.var 0) .nil)) (.int 2)) [])
    (.seq (.ret (.call 0 (.cons (.sl (.var 0) .nil (.var 1)) (.cons (.sl (.var 0) (.var 1) .nil) .nil))))
    .nil))
def T_form_kind : Tab := [("dot_bits", m_dot_bits)]
def m_form_kind : List D → W D := evDef T_form_kind 2 1 c_form_kind
abbrev st_moved_form : Stmt := top 11
def N_moved_form : List Str := ["form", "direction", "half"]
def c_moved_form : CS :=
    (.seq (.ite (.cmp .Eq (.call 1 (.cons (.var 0) (.cons (.var 1) .nil))) (.int 1)) (.seq (.ret (.var 0))
    .nil) .nil)
    (.seq (.asg 2 (.bin .FloorDiv (.bi .len (.cons (.var 0) .nil)) (.int 2)) [])
    (.seq (.ret (.call 0 (.cons (.var 0) (.cons (.bin .Add (.sl (.var 1) (.var 2) .nil) (.sl (.var 1) .nil (.var 2))) .nil))))
    .nil)))
def T_moved_form : Tab := [("xor_bits", m_xor_bits), ("form_at", m_form_at)]
def m_moved_form : List D → W D := evDef T_moved_form 3 2 c_moved_form
abbrev st_common_form : Stmt := top 12
def N_common_form : List Str := ["first", "second", "half", "told"]
def c_common_form : CS :=
    (.seq (.asg 2 (.bin .FloorDiv (.bi .len (.cons (.var 0) .nil)) (.int 2)) [])
    (.seq (.asg 3 (.call 0 (.cons (.var 0) (.cons (.var 1) .nil))) [])
    (.seq (.ret (.bin .Add (.sl (.var 3) (.var 2) .nil) (.sl (.var 3) .nil (.var 2))))
    .nil)))
def T_common_form : Tab := [("xor_bits", m_xor_bits)]
def m_common_form : List D → W D := evDef T_common_form 4 2 c_common_form
abbrev st__law_next : Stmt := top 14
abbrev st__law_same : Stmt := top 15
def N__law_same : List Str := ["told", "due", "k"]
def c__law_same : CS :=
    (.seq (.ite (.isN (.var 1)) (.seq (.ret (.isN (.var 0)))
    .nil) .nil)
    (.seq (.ite (.isa (.var 1) "bool") (.seq (.ret (.and (.isa (.var 0) "bool") (.cmp .Eq (.var 0) (.var 1))))
    .nil) .nil)
    (.seq (.ite (.isa (.var 1) "int") (.seq (.ret (.and (.isa (.var 0) "int") (.and (.not (.isa (.var 0) "bool")) (.cmp .Eq (.var 0) (.var 1)))))
    .nil) .nil)
    (.seq (.ite (.isa (.var 1) "str") (.seq (.ret (.and (.isa (.var 0) "str") (.cmp .Eq (.var 0) (.var 1))))
    .nil) .nil)
    (.seq (.ite (.or (.and (.isa (.var 1) "list") (.not (.isa (.var 0) "list"))) (.and (.isa (.var 1) "tuple") (.not (.isa (.var 0) "tuple")))) (.seq (.ret (.bl false))
    .nil) .nil)
    (.seq (.ret (.and (.cmp .Eq (.bi .len (.cons (.var 0) .nil)) (.bi .len (.cons (.var 1) .nil))) (.cmp .Eq (.comp [2] (.nm 2) (.rng1 (.bi .len (.cons (.var 1) .nil))) (.not (.call 0 (.cons (.ix (.var 0) (.var 2)) (.cons (.ix (.var 1) (.var 2)) .nil)))) (.int 1)) (.lst .nil))))
    .nil))))))
def m__law_same : Nat → List D → W D
  | 0 => fun _ => W.fail
  | n + 1 => evDef [("_law_same", m__law_same n)] 3 2 c__law_same
abbrev st__law_twist : Stmt := top 16
def N__law_twist : List Str := ["one", "other", "half", "k"]
def c__law_twist : CS :=
    (.seq (.asg 2 (.bin .FloorDiv (.bi .len (.cons (.var 0) .nil)) (.int 2)) [])
    (.seq (.ret (.bin .Mod (.bi .int (.cons (.bi .sum (.cons (.comp [3] (.nm 3) (.rng1 (.var 2)) (.bl true) (.bin .Add (.bin .Mult (.ix (.var 0) (.var 3)) (.ix (.var 1) (.bin .Add (.var 3) (.var 2)))) (.bin .Mult (.ix (.var 0) (.bin .Add (.var 3) (.var 2))) (.ix (.var 1) (.var 3))))) .nil)) .nil)) (.int 2)))
    .nil))
def T__law_twist : Tab := []
def m__law_twist : List D → W D := evDef T__law_twist 4 2 c__law_twist
abbrev st__law_sum : Stmt := top 17
def N__law_sum : List Str := ["one", "other", "k"]
def c__law_sum : CS :=
    (.seq (.ret (.bi .tuple (.cons (.comp [2] (.nm 2) (.rng1 (.bi .len (.cons (.var 0) .nil))) (.bl true) (.bin .BitXor (.ix (.var 0) (.var 2)) (.ix (.var 1) (.var 2)))) .nil)))
    .nil)
def T__law_sum : Tab := []
def m__law_sum : List D → W D := evDef T__law_sum 3 2 c__law_sum
abbrev st__law_all : Stmt := top 19
def N__law_all : List Str := ["many", "found", "turn", "later", "row", "bit"]
def c__law_all : CS :=
    (.seq (.asg 1 (.lst (.cons (.tup .nil) .nil)) [])
    (.seq (.for (.nm 2) (.rng1 (.var 0)) (.seq (.asg 3 (.lst .nil) [])
    (.seq (.for (.nm 4) (.var 1) (.seq (.asg 3 (.bin .Add (.var 3) (.comp [5] (.nm 5) (.tup (.cons (.int 0) (.cons (.int 1) .nil))) (.bl true) (.bin .Add (.var 4) (.tup (.cons (.var 5) .nil))))) [])
    .nil) [])
    (.seq (.asg 1 (.var 3) [])
    .nil))) [])
    (.seq (.ret (.var 1))
    .nil)))
def T__law_all : Tab := []
def m__law_all : List D → W D := evDef T__law_all 6 1 c__law_all
abbrev st__law_at : Stmt := top 20
def N__law_at : List Str := ["form", "row", "half", "k"]
def c__law_at : CS :=
    (.seq (.asg 2 (.bin .FloorDiv (.bi .len (.cons (.var 1) .nil)) (.int 2)) [])
    (.seq (.ret (.bin .Mod (.bi .int (.cons (.bin .Add (.bi .sum (.cons (.comp [3] (.nm 3) (.rng1 (.var 2)) (.bl true) (.bin .Mult (.ix (.var 1) (.var 3)) (.ix (.var 1) (.bin .Add (.var 3) (.var 2))))) .nil)) (.bi .sum (.cons (.comp [3] (.nm 3) (.rng1 (.bi .len (.cons (.var 1) .nil))) (.bl true) (.bin .Mult (.ix (.var 0) (.var 3)) (.ix (.var 1) (.var 3)))) .nil))) .nil)) (.int 2)))
    .nil))
def T__law_at : Tab := []
def m__law_at : List D → W D := evDef T__law_at 4 2 c__law_at
abbrev st_law : Stmt := top 21
def N_law : List Str := ["script", "tape", "half", "wide", "rows", "form", "other", "one", "two", "told_bits", "row", "kind", "k", "zeros", "value", "more", "kinds", "moved"]
def c_law : CS :=
    (.seq (.asg 2 (.bin .Add (.int 1) (.call 10 (.cons (.var 1) (.cons (.int 4) .nil)))) [])
    (.seq (.asg 3 (.bin .Mult (.int 2) (.var 2)) [])
    (.seq (.asg 4 (.call 11 (.cons (.var 3) .nil)) [])
    (.seq (.unp [5, 6] (.tup (.cons (.ix (.var 4) (.call 10 (.cons (.var 1) (.cons (.bi .len (.cons (.var 4) .nil)) .nil)))) (.cons (.ix (.var 4) (.call 10 (.cons (.var 1) (.cons (.bi .len (.cons (.var 4) .nil)) .nil)))) .nil))) [])
    (.seq (.unp [7, 8] (.tup (.cons (.ix (.var 4) (.call 10 (.cons (.var 1) (.cons (.bi .len (.cons (.var 4) .nil)) .nil)))) (.cons (.ix (.var 4) (.call 10 (.cons (.var 1) (.cons (.bi .len (.cons (.var 4) .nil)) .nil)))) .nil))) [])
    (.seq (.asg 9 (.comp [10] (.nm 10) (.var 4) (.bl true) (.call 1 (.cons (.var 5) (.cons (.var 10) .nil)))) [])
    (.seq (.ite (.not (.call 6 (.cons (.comp [10] (.nm 10) (.var 4) (.bl true) (.call 8 (.cons (.var 5) (.cons (.var 10) .nil)))) (.cons (.var 9) .nil)))) (.seq (.ret (.bl false))
    .nil) .nil)
    (.seq (.ite (.cmp .NotEq (.call 8 (.cons (.var 5) (.cons (.call 9 (.cons (.var 7) (.cons (.var 8) .nil))) .nil))) (.bin .Mod (.bi .int (.cons (.bin .Add (.bin .Add (.call 1 (.cons (.var 5) (.cons (.var 7) .nil))) (.call 1 (.cons (.var 5) (.cons (.var 8) .nil)))) (.call 3 (.cons (.var 7) (.cons (.var 8) .nil)))) .nil)) (.int 2))) (.seq (.ret (.bl false))
    .nil) .nil)
    (.seq (.asg 11 (.bin .Mod (.bi .int (.cons (.bi .sum (.cons (.comp [12] (.nm 12) (.rng1 (.var 2)) (.bl true) (.bin .Mult (.ix (.var 5) (.var 12)) (.ix (.var 5) (.bin .Add (.var 12) (.var 2))))) .nil)) .nil)) (.int 2)) [])
    (.seq (.asg 13 (.bi .len (.cons (.comp [14] (.nm 14) (.var 9) (.cmp .Eq (.var 14) (.int 0)) (.var 14)) .nil)) [])
    (.seq (.asg 15 (.bin .Mult (.bin .LShift (.int 1) (.bin .Sub (.var 2) (.int 1))) (.bin .Add (.bin .LShift (.int 1) (.var 2)) (.ite (.cmp .Eq (.var 11) (.int 0)) (.int 1) (.neg (.int 1))))) [])
    (.seq (.ite (.or (.not (.call 6 (.cons (.lst (.cons (.call 0 (.cons (.var 5) .nil)) (.cons (.call 7 (.cons (.var 5) .nil)) .nil))) (.cons (.lst (.cons (.var 11) (.cons (.var 13) .nil))) .nil)))) (.cmp .NotEq (.var 13) (.var 15))) (.seq (.ret (.bl false))
    .nil) .nil)
    (.seq (.ite (.cmp .Lt (.var 2) (.int 4)) (.seq (.asg 16 (.comp [10] (.nm 10) (.var 4) (.bl true) (.call 0 (.cons (.var 10) .nil))) [])
    (.seq (.ite (.cmp .NotEq (.bi .len (.cons (.comp [12] (.nm 12) (.var 16) (.cmp .Eq (.var 12) (.int 0)) (.var 12)) .nil)) (.bin .Mult (.bin .LShift (.int 1) (.bin .Sub (.var 2) (.int 1))) (.bin .Add (.bin .LShift (.int 1) (.var 2)) (.int 1)))) (.seq (.ret (.bl false))
    .nil) .nil)
    .nil)) .nil)
    (.seq (.asg 17 (.call 2 (.cons (.var 5) (.cons (.var 7) .nil))) [])
    (.seq (.ite (.or (.cmp .NotEq (.comp [10] (.nm 10) (.var 4) (.cmp .NotEq (.call 1 (.cons (.var 17) (.cons (.call 5 (.cons (.var 7) (.cons (.var 10) .nil))) .nil))) (.call 1 (.cons (.var 5) (.cons (.var 10) .nil)))) (.var 10)) (.lst .nil)) (.cmp .NotEq (.call 0 (.cons (.var 17) .nil)) (.var 11))) (.seq (.ret (.bl false))
    .nil) .nil)
    (.seq (.ite (.cmp .NotEq (.cmp .Eq (.var 17) (.var 5)) (.or (.cmp .Eq (.call 1 (.cons (.var 5) (.cons (.var 7) .nil))) (.int 1)) (.cmp .NotIn (.int 1) (.var 7)))) (.seq (.ret (.bl false))
    .nil) .nil)
    (.seq (.asg 10 (.call 4 (.cons (.var 5) (.cons (.var 6) .nil))) [])
    (.seq (.ite (.cmp .NotEq (.comp [12] (.nm 12) (.rng1 (.bi .len (.cons (.var 4) .nil))) (.cmp .NotEq (.cmp .NotEq (.ix (.var 9) (.var 12)) (.call 1 (.cons (.var 6) (.cons (.ix (.var 4) (.var 12)) .nil)))) (.cmp .Eq (.call 3 (.cons (.var 10) (.cons (.ix (.var 4) (.var 12)) .nil))) (.int 1))) (.var 12)) (.lst .nil)) (.seq (.ret (.bl false))
    .nil) .nil)
    (.seq (.ite (.cmp .NotEq (.cmp .Eq (.call 2 (.cons (.var 5) (.cons (.var 10) .nil))) (.var 6)) (.or (.cmp .Eq (.call 1 (.cons (.var 5) (.cons (.var 10) .nil))) (.int 0)) (.cmp .Eq (.var 5) (.var 6)))) (.seq (.ret (.bl false))
    .nil) .nil)
    (.seq (.ret (.cmp .Eq (.cmp .Eq (.call 0 (.cons (.var 6) .nil)) (.var 11)) (.cmp .Eq (.call 1 (.cons (.var 5) (.cons (.var 10) .nil))) (.int 0))))
    .nil))))))))))))))))))))
def T_law : Tab := [("form_kind", m_form_kind), ("_law_at", m__law_at), ("moved_form", m_moved_form), ("_law_twist", m__law_twist), ("common_form", m_common_form), ("bit_turn", m_bit_turn), ("_law_same", m__law_same 12), ("form_zeros", m_form_zeros), ("form_at", m_form_at), ("_law_sum", m__law_sum), ("_law_next", m_next), ("_law_all", m__law_all)]
section
variable {K : PySem.W.Frag} {P : Program} {w : World} {mg : Str → Option Value} {base : Heap} {f : Addr} {fd : FuncData}
theorem impl_next (F : FunD K "_law_next" "_law_next" (defArgs st__law_next) (defBody st__law_next) (defScope st__law_next) [] [] f fd) (hg : mg "_law_next" = some (.ref f)) (hf : ∀ z ∈ bnames, mg z = none) :
    Impl ⟨K, false⟩ P w mg base 2 "_law_next" m_next := by
  have S : FnScope ["tape", "many", "rest", "cell"] ["tape", "many"] (defScope st__law_next) := ⟨rfl, rfl, rfl, by decide +kernel, rfl, by decide +kernel, by decide +kernel⟩
  refine ⟨f, fd, ["tape", "many"], hg, F.kp, FunD.bindsN F fun _ _ _ _ _ _ us hl => match us, hl with | [_, _], _ => rfl, ?_, fun ds Q h => ?_⟩
  · refine F.ok S (fun vs H Q E h => h.1) fun cdv A outer s H vs Q E hr h => ?_
    have hl : (cxOf (L2.CX P w) P w K mg base ["tape", "many", "rest", "cell"] "_law_next" (defScope st__law_next) f cdv A outer s H E).nox.mg "len" = none := hf _ (by decide +kernel)
    have hi : (cxOf (L2.CX P w) P w K mg base ["tape", "many", "rest", "cell"] "_law_next" (defScope st__law_next) f cdv A outer s H E).nox.mg "int" = none := hf _ (by decide +kernel)
    have ha : (cxOf (L2.CX P w) P w K mg base ["tape", "many", "rest", "cell"] "_law_next" (defScope st__law_next) f cdv A outer s H E).nox.mg "abs" = none := hf _ (by decide +kernel)
    refine ⟨_, PSs.nox (pss_cons (ps_set (i := 2) S.nd rfl (.inl rfl) (pe_ix ix_list (pv 0) pe_int (fun _ _ => rfl)))
      (pss_cons (ps_if (pt_cmpR op_eq (pv 2) pe_int rfl)
        (pss_cons (ps_set (i := 3) S.nd rfl (.inl rfl) pe_int)
        (pss_cons (ps_if (pt_cmpR op_lt (pe_ix ix_list (pv 0) pe_int (fun _ _ => rfl)) (pe_callB call_len rfl hl boot_len (pa_cons (pe_ix ix_list (pv 0) pe_int (fun _ _ => rfl)) pa_nil)) rfl)
          (pss_cons (ps_set (i := 3) S.nd rfl (.inl rfl) (pe_callB call_abs rfl ha boot_abs (pa_cons (pe_callTy call_int1 rfl hi boot_int (pa_cons (pe_ix ix_list (pe_ix ix_list (pv 0) pe_int (fun _ _ => rfl)) (pe_ix ix_list (pv 0) pe_int (fun _ _ => rfl)) (fun _ _ => rfl)) pa_nil)) pa_nil)))
          (pss_one (ps_asg (pe_op op_add (pe_ix ix_list (pv 0) pe_int (fun _ _ => rfl)) pe_int) (pg_sub (pv 0) pe_int set_list)))) pss_nil)
        (pss_cons (ps_set (i := 2) S.nd rfl (.inl rfl) (pv 3))
        (pss_one (ps_if (pt_cmpR op_lt (pv 3) (pe_op op_pow pe_int pe_int) rfl)
          (pss_cons (ps_asg (pe_op op_mod (pe_callTy call_int1 rfl hi boot_int (pa_cons (pe_op op_add (pe_op op_add (pe_op op_mul (pe_ix ix_list (pv 0) pe_int (fun _ _ => rfl)) pe_int) (pe_op op_mul (pv 3) pe_int)) pe_int) pa_nil)) pe_int) (pg_sub (pv 0) pe_int set_list))
          (pss_one (ps_ret (pe_op op_mod (pe_op op_mod (pe_callTy call_int1 rfl hi boot_int (pa_cons (pe_op op_mul (pe_callTy call_int1 rfl hi boot_int (pa_cons (pe_op op_fdiv (pe_ix ix_list (pv 0) pe_int (fun _ _ => rfl)) pe_int) pa_nil)) pe_int) pa_nil)) pe_int) (pv 1))))) pss_nil))))) pss_nil)
      (pss_cons (ps_asg (pe_op op_fdiv (pv 2) (pv 1)) (pg_sub (pv 0) pe_int set_list))
      (pss_one (ps_ret (pe_op op_mod (pe_callTy call_int1 rfl hi boot_int (pa_cons (pv 2) pa_nil)) (pv 1))))))), ?_⟩
    obtain ⟨_, Ad, Fr, ds, so, rp, sn⟩ := h
    match ds, rp, sn with
    | [.tape, .int n], .cons .tape (.cons (.int _) .nil), sn => ?_
    obtain ⟨Qd, ⟨⟨n0, n1⟩, hQ⟩, hE, hR⟩ := sn
    obtain ⟨ns, p, r, hh, hq, hl, ⟨b1, b2, b3, b4⟩, hS⟩ := so.t
    have hS : H Ad.S = some (.lst [.ref Ad.C, .int p, .int r, .int hh]) := hS
    have fin : ∀ {H' : Hp} {p' r' h' z : Int}, (∀ a, a ≠ Ad.S → H' a = H a) → (0 ≤ p' ∧ 0 ≤ r' ∧ 0 ≤ h' ∧ h' < 2 ^ 62) → H' Ad.S = some (.lst [.ref Ad.C, .int p', .int r', .int h']) → 0 ≤ z → z < n → Q (.int z) H' := by
      intro H' p' r' h' z ho hb e z0 z1
      obtain ⟨g, s'⟩ := tape_to so ho hb e
      refine hR Fr H' (.int z) (.int z) g s' (.int z) ?_
      have := hQ z.toNat (by omega)
      rwa [Int.toNat_of_nonneg z0] at this
    have tail : ∀ {H1 : Hp} {p' h' r' : Int} {σ4 : Option V}, (∀ a, a ≠ Ad.S → H1 a = H a) → H1 Ad.S = some (.lst [.ref Ad.C, .int p', .int r, .int h']) → 0 ≤ p' → 0 ≤ h' → h' < 2 ^ 62 → 0 ≤ r' →
        tLast { nx := fun _ H' => Q .non H', rt := Q } [some (.ref Ad.S), some (.int n), some (.int r'), σ4] H1 := by
      intro H1 p' h' r' σ4 ho e1 p0 h0 h1 r0
      refine ⟨_, rfl, _, rfl, r', n, rfl, rfl, ⟨n0, n1⟩, _, rfl, Ad.S, _, 2, 2, rfl, rfl, e1, rfl, ?_⟩
      refine ⟨_, rfl, .inl ⟨r', rfl, _, rfl, r', n, rfl, rfl, n0, ?_⟩⟩
      refine fin (p' := p') (r' := r' / n) (h' := h') (fun a ha => ?_) ⟨p0, Int.ediv_nonneg r0 (by omega), h0, h1⟩ ?_ (Int.emod_nonneg _ (by omega)) (Int.emod_lt_of_pos _ n0)
      · rw [upd_ne ha]; exact ho a ha
      · rw [upd_same]; rfl
    refine ⟨_, rfl, Ad.S, _, 2, .int r, rfl, rfl, .inl (.inl hS), rfl, ?_⟩
    refine ⟨_, rfl, rfl, ?_⟩
    by_cases hr0 : r = 0
    · subst hr0
      have mid : ∀ {H1 : Hp} {p' c : Int} {σ3 : Option V}, (∀ a, a ≠ Ad.S → H1 a = H a) → H1 Ad.S = some (.lst [.ref Ad.C, .int p', .int 0, .int hh]) → 0 ≤ p' → 0 ≤ c →
          tMid K { nx := tLast { nx := fun _ H' => Q .non H', rt := Q }, rt := Q } [some (.ref Ad.S), some (.int n), σ3, some (.int c)] H1 := by
        intro H1 p' c σ3 ho e1 p0 c0
        refine ⟨_, rfl, _, rfl, _, _, rfl, rfl, ⟨by decide, by decide, by decide⟩, c, 10 ^ 18, rfl, rfl, ?_⟩
        by_cases hc : c < 10 ^ 18
        · refine ⟨true, congrArg V.bl (decide_eq_true hc), iteT ?_⟩
          refine ⟨_, rfl, Ad.S, _, 3, .int hh, rfl, rfl, .inl (.inl e1), rfl, hh, 69621, rfl, rfl, .inr (by decide), ?_⟩
          refine ⟨_, rfl, c, 40692, rfl, rfl, .inr (by decide), hh * 69621, c * 40692, rfl, rfl, _, 17, rfl, rfl, .inl ⟨_, rfl, _, 2147483647, rfl, rfl, (show (0 : Int) < 2147483647 by decide), ?_⟩⟩
          generalize hx : (hh * 69621 + c * 40692 + 17) % 2147483647 = x
          have hxv : (fun i j : Int => V.int (i % j)) (hh * 69621 + c * 40692 + 17) 2147483647 = V.int x := congrArg V.int hx
          rw [hxv]
          have x0 : 0 ≤ x := by rw [← hx]; exact Int.emod_nonneg _ (by decide)
          have x1 : x < 2147483647 := by rw [← hx]; exact Int.emod_lt_of_pos _ (by decide)
          refine ⟨_, rfl, Ad.S, _, 3, 3, rfl, rfl, e1, rfl, ?_⟩
          have e2 : upd H1 Ad.S (.lst ([V.ref Ad.C, .int p', .int 0, .int hh].set 3 (.int x))) Ad.S = some (.lst [.ref Ad.C, .int p', .int 0, .int x]) := by rw [upd_same]; rfl
          refine ⟨_, rfl, Ad.S, _, 3, .int x, rfl, rfl, .inl (.inl e2), rfl, x, 5, rfl, rfl, ⟨by decide, by decide⟩, .inl ⟨_, rfl, x / 5, 48271, rfl, rfl, .inr (by decide), .inl ⟨_, rfl, _, 2147483647, rfl, rfl, (show (0 : Int) < 2147483647 by decide), _, rfl, _, n, rfl, rfl, n0, ?_⟩⟩⟩
          refine fin (p' := p') (r' := 0) (h' := x) (fun a ha => ?_) ⟨p0, by decide, x0, by omega⟩ e2 (Int.emod_nonneg _ (by omega)) (Int.emod_lt_of_pos _ n0)
          rw [upd_ne ha]; exact ho a ha
        · exact ⟨false, congrArg V.bl (decide_eq_false hc), iteF (tail ho e1 p0 b3 b4 c0)⟩
      refine ⟨true, rfl, iteT ?_⟩
      refine ⟨_, rfl, Ad.S, _, 1, .int p, rfl, rfl, .inl (.inl hS), rfl, ?_⟩
      refine ⟨_, rfl, Ad.S, _, 0, .ref Ad.C, rfl, rfl, .inl (.inl hS), rfl, .ref Ad.C, ns.length, rfl, .inl ⟨_, hq.sq, by simp⟩, p, ns.length, rfl, rfl, ?_⟩
      by_cases hp : p < ns.length
      · refine ⟨true, congrArg V.bl (decide_eq_true hp), iteT ?_⟩
        refine ⟨_, rfl, Ad.S, _, 0, .ref Ad.C, rfl, rfl, .inl (.inl hS), rfl, ?_⟩
        refine ⟨_, rfl, Ad.S, _, 1, .int p, rfl, rfl, .inl (.inl hS), rfl, ?_⟩
        have hpl : p.toNat < ns.length := by omega
        have hat : atI (ns.map V.int) p = some (.int ns[p.toNat]) := by
          have hx := ixN_at b1 (show p < ((ns.map V.int).length : Int) by simpa using hp)
          unfold atI
          rw [hx]
          show (ns.map V.int)[p.toNat]? = _
          rw [List.getElem?_map, List.getElem?_eq_getElem hpl]
          rfl
        refine ⟨Ad.C, _, p, .int ns[p.toNat], rfl, rfl, hq.sq, hat, .inl ⟨_, rfl, ns[p.toNat], rfl, ?_⟩⟩
        generalize hc : (if ns[p.toNat] < 0 then -ns[p.toNat] else ns[p.toNat]) = c
        have c0 : 0 ≤ c := by rw [← hc]; split <;> omega
        refine ⟨_, rfl, Ad.S, _, 1, .int p, rfl, rfl, .inl (.inl hS), rfl, p, 1, rfl, rfl, _, rfl, Ad.S, _, 1, 1, rfl, rfl, hS, rfl, ?_⟩
        refine mid (p' := p + 1) (fun a ha => upd_ne ha) ?_ (by omega) c0
        rw [upd_same]; rfl
      · exact ⟨false, congrArg V.bl (decide_eq_false hp), iteF (mid (fun _ _ => rfl) hS b1 (by decide))⟩
    · exact ⟨false, congrArg V.bl (decide_eq_false fun z => hr0 (V.int.inj z)), iteF (tail (fun _ _ => rfl) hS b1 b3 b4 b2)⟩
  · unfold m_next at h
    split at h
    · rfl
    · exact False.elim h
end

section
variable {K : PySem.W.Frag} {P : Program} {w : World} {mg : Str → Option Value} {base : Heap} {f : Addr} {fd : FuncData}
theorem chk_xor_bits : chkB N_xor_bits T_xor_bits (defScope st_xor_bits) c_xor_bits (defBody st_xor_bits) = true := by decide +kernel
theorem impl_xor_bits (F : FunD K "xor_bits" "xor_bits" (defArgs st_xor_bits) (defBody st_xor_bits) (defScope st_xor_bits) [] [] f fd) (hg : mg "xor_bits" = some (.ref f)) (hf : ∀ z ∈ bnames, mg z = none) : Impl ⟨K, false⟩ P w mg base 1 "xor_bits" m_xor_bits :=
  impl_def (N := N_xor_bits) (ar := 2) F hg (show Binds K fd ["first", "second"] [] from FunD.bindsN F fun _ _ _ _ _ _ us hl => match us, hl with | [_, _], _ => rfl) (by decide +kernel) chk_xor_bits (Impls.mono (j := 0) .nil (by decide)) hf rfl
theorem chk_dot_bits : chkB N_dot_bits T_dot_bits (defScope st_dot_bits) c_dot_bits (defBody st_dot_bits) = true := by decide +kernel
theorem impl_dot_bits (F : FunD K "dot_bits" "dot_bits" (defArgs st_dot_bits) (defBody st_dot_bits) (defScope st_dot_bits) [] [] f fd) (hg : mg "dot_bits" = some (.ref f)) (hf : ∀ z ∈ bnames, mg z = none) : Impl ⟨K, false⟩ P w mg base 1 "dot_bits" m_dot_bits :=
  impl_def (N := N_dot_bits) (ar := 2) F hg (show Binds K fd ["first", "second"] [] from FunD.bindsN F fun _ _ _ _ _ _ us hl => match us, hl with | [_, _], _ => rfl) (by decide +kernel) chk_dot_bits (Impls.mono (j := 0) .nil (by decide)) hf rfl
theorem chk_all_bits : chkB N_all_bits T_all_bits (defScope st_all_bits) c_all_bits (defBody st_all_bits) = true := by decide +kernel
theorem impl_all_bits (F : FunD K "all_bits" "all_bits" (defArgs st_all_bits) (defBody st_all_bits) (defScope st_all_bits) [] [] f fd) (hg : mg "all_bits" = some (.ref f)) (hf : ∀ z ∈ bnames, mg z = none) : Impl ⟨K, false⟩ P w mg base 1 "all_bits" m_all_bits :=
  impl_def (N := N_all_bits) (ar := 1) F hg (show Binds K fd ["many"] [] from FunD.bindsN F fun _ _ _ _ _ _ us hl => match us, hl with | [_], _ => rfl) (by decide +kernel) chk_all_bits (Impls.mono (j := 0) .nil (by decide)) hf rfl
theorem chk_twist : chkB N_twist T_twist (defScope st_twist) c_twist (defBody st_twist) = true := by decide +kernel
theorem impl_twist (F : FunD K "twist" "twist" (defArgs st_twist) (defBody st_twist) (defScope st_twist) [] [] f fd) (hg : mg "twist" = some (.ref f)) (hf : ∀ z ∈ bnames, mg z = none) (h_dot_bits : Impl ⟨K, false⟩ P w mg base 1 "dot_bits" m_dot_bits) : Impl ⟨K, false⟩ P w mg base 2 "twist" m_twist :=
  impl_def (N := N_twist) (ar := 2) F hg (show Binds K fd ["first", "second"] [] from FunD.bindsN F fun _ _ _ _ _ _ us hl => match us, hl with | [_, _], _ => rfl) (by decide +kernel) chk_twist (Impls.mono (j := 1) (.cons h_dot_bits (by decide) .nil) (by decide)) hf rfl
theorem chk_bit_turn : chkB N_bit_turn T_bit_turn (defScope st_bit_turn) c_bit_turn (defBody st_bit_turn) = true := by decide +kernel
theorem impl_bit_turn (F : FunD K "bit_turn" "bit_turn" (defArgs st_bit_turn) (defBody st_bit_turn) (defScope st_bit_turn) [] [] f fd) (hg : mg "bit_turn" = some (.ref f)) (hf : ∀ z ∈ bnames, mg z = none) (h_twist : Impl ⟨K, false⟩ P w mg base 2 "twist" m_twist) (h_xor_bits : Impl ⟨K, false⟩ P w mg base 1 "xor_bits" m_xor_bits) : Impl ⟨K, false⟩ P w mg base 3 "bit_turn" m_bit_turn :=
  impl_def (N := N_bit_turn) (ar := 2) F hg (show Binds K fd ["direction", "row"] [] from FunD.bindsN F fun _ _ _ _ _ _ us hl => match us, hl with | [_, _], _ => rfl) (by decide +kernel) chk_bit_turn (Impls.mono (j := 2) (.cons h_twist (by decide) (.cons h_xor_bits (by decide) .nil)) (by decide)) hf rfl
theorem chk_form_at : chkB N_form_at T_form_at (defScope st_form_at) c_form_at (defBody st_form_at) = true := by decide +kernel
theorem impl_form_at (F : FunD K "form_at" "form_at" (defArgs st_form_at) (defBody st_form_at) (defScope st_form_at) [] [] f fd) (hg : mg "form_at" = some (.ref f)) (hf : ∀ z ∈ bnames, mg z = none) (h_dot_bits : Impl ⟨K, false⟩ P w mg base 1 "dot_bits" m_dot_bits) : Impl ⟨K, false⟩ P w mg base 2 "form_at" m_form_at :=
  impl_def (N := N_form_at) (ar := 2) F hg (show Binds K fd ["form", "row"] [] from FunD.bindsN F fun _ _ _ _ _ _ us hl => match us, hl with | [_, _], _ => rfl) (by decide +kernel) chk_form_at (Impls.mono (j := 1) (.cons h_dot_bits (by decide) .nil) (by decide)) hf rfl
theorem chk_form_zeros : chkB N_form_zeros T_form_zeros (defScope st_form_zeros) c_form_zeros (defBody st_form_zeros) = true := by decide +kernel
theorem impl_form_zeros (F : FunD K "form_zeros" "form_zeros" (defArgs st_form_zeros) (defBody st_form_zeros) (defScope st_form_zeros) [] [] f fd) (hg : mg "form_zeros" = some (.ref f)) (hf : ∀ z ∈ bnames, mg z = none) (h_all_bits : Impl ⟨K, false⟩ P w mg base 1 "all_bits" m_all_bits) (h_form_at : Impl ⟨K, false⟩ P w mg base 2 "form_at" m_form_at) : Impl ⟨K, false⟩ P w mg base 3 "form_zeros" m_form_zeros :=
  impl_def (N := N_form_zeros) (ar := 1) F hg (show Binds K fd ["form"] [] from FunD.bindsN F fun _ _ _ _ _ _ us hl => match us, hl with | [_], _ => rfl) (by decide +kernel) chk_form_zeros (Impls.mono (j := 2) (.cons h_all_bits (by decide) (.cons h_form_at (by decide) .nil)) (by decide)) hf rfl
theorem chk_form_kind : chkB N_form_kind T_form_kind (defScope st_form_kind) c_form_kind (defBody st_form_kind) = true := by decide +kernel
theorem impl_form_kind (F : FunD K "form_kind" "form_kind" (defArgs st_form_kind) (defBody st_form_kind) (defScope st_form_kind) [] [] f fd) (hg : mg "form_kind" = some (.ref f)) (hf : ∀ z ∈ bnames, mg z = none) (h_dot_bits : Impl ⟨K, false⟩ P w mg base 1 "dot_bits" m_dot_bits) : Impl ⟨K, false⟩ P w mg base 2 "form_kind" m_form_kind :=
  impl_def (N := N_form_kind) (ar := 1) F hg (show Binds K fd ["form"] [] from FunD.bindsN F fun _ _ _ _ _ _ us hl => match us, hl with | [_], _ => rfl) (by decide +kernel) chk_form_kind (Impls.mono (j := 1) (.cons h_dot_bits (by decide) .nil) (by decide)) hf rfl
theorem chk_moved_form : chkB N_moved_form T_moved_form (defScope st_moved_form) c_moved_form (defBody st_moved_form) = true := by decide +kernel
theorem impl_moved_form (F : FunD K "moved_form" "moved_form" (defArgs st_moved_form) (defBody st_moved_form) (defScope st_moved_form) [] [] f fd) (hg : mg "moved_form" = some (.ref f)) (hf : ∀ z ∈ bnames, mg z = none) (h_xor_bits : Impl ⟨K, false⟩ P w mg base 1 "xor_bits" m_xor_bits) (h_form_at : Impl ⟨K, false⟩ P w mg base 2 "form_at" m_form_at) : Impl ⟨K, false⟩ P w mg base 3 "moved_form" m_moved_form :=
  impl_def (N := N_moved_form) (ar := 2) F hg (show Binds K fd ["form", "direction"] [] from FunD.bindsN F fun _ _ _ _ _ _ us hl => match us, hl with | [_, _], _ => rfl) (by decide +kernel) chk_moved_form (Impls.mono (j := 2) (.cons h_xor_bits (by decide) (.cons h_form_at (by decide) .nil)) (by decide)) hf rfl
theorem chk_common_form : chkB N_common_form T_common_form (defScope st_common_form) c_common_form (defBody st_common_form) = true := by decide +kernel
theorem impl_common_form (F : FunD K "common_form" "common_form" (defArgs st_common_form) (defBody st_common_form) (defScope st_common_form) [] [] f fd) (hg : mg "common_form" = some (.ref f)) (hf : ∀ z ∈ bnames, mg z = none) (h_xor_bits : Impl ⟨K, false⟩ P w mg base 1 "xor_bits" m_xor_bits) : Impl ⟨K, false⟩ P w mg base 2 "common_form" m_common_form :=
  impl_def (N := N_common_form) (ar := 2) F hg (show Binds K fd ["first", "second"] [] from FunD.bindsN F fun _ _ _ _ _ _ us hl => match us, hl with | [_, _], _ => rfl) (by decide +kernel) chk_common_form (Impls.mono (j := 1) (.cons h_xor_bits (by decide) .nil) (by decide)) hf rfl
theorem chk__law_same (n : Nat) : chkB N__law_same [("_law_same", m__law_same n)] (defScope st__law_same) c__law_same (defBody st__law_same) = true := by kernel_rfl
theorem impl__law_same (F : FunD K "_law_same" "_law_same" (defArgs st__law_same) (defBody st__law_same) (defScope st__law_same) [] [] f fd) (hg : mg "_law_same" = some (.ref f)) (hf : ∀ z ∈ bnames, mg z = none) : ∀ n : Nat, Impl ⟨K, false⟩ P w mg base (0 + n + 1) "_law_same" (m__law_same n)
  | 0 => impl_zero (N := N__law_same) (ar := 2) F hg (show Binds K fd ["told", "due"] [] from FunD.bindsN F fun _ _ _ _ _ _ us hl => match us, hl with | [_, _], _ => rfl) (by decide +kernel)
  | n + 1 => by
    have ih := impl__law_same F hg hf n
    exact impl_def (N := N__law_same) (ar := 2) F hg (show Binds K fd ["told", "due"] [] from FunD.bindsN F fun _ _ _ _ _ _ us hl => match us, hl with | [_, _], _ => rfl) (by decide +kernel) (chk__law_same n) (.cons ih (Nat.le_refl _) .nil) hf rfl
theorem chk__law_twist : chkB N__law_twist T__law_twist (defScope st__law_twist) c__law_twist (defBody st__law_twist) = true := by decide +kernel
theorem impl__law_twist (F : FunD K "_law_twist" "_law_twist" (defArgs st__law_twist) (defBody st__law_twist) (defScope st__law_twist) [] [] f fd) (hg : mg "_law_twist" = some (.ref f)) (hf : ∀ z ∈ bnames, mg z = none) : Impl ⟨K, false⟩ P w mg base 1 "_law_twist" m__law_twist :=
  impl_def (N := N__law_twist) (ar := 2) F hg (show Binds K fd ["one", "other"] [] from FunD.bindsN F fun _ _ _ _ _ _ us hl => match us, hl with | [_, _], _ => rfl) (by decide +kernel) chk__law_twist (Impls.mono (j := 0) .nil (by decide)) hf rfl
theorem chk__law_sum : chkB N__law_sum T__law_sum (defScope st__law_sum) c__law_sum (defBody st__law_sum) = true := by decide +kernel
theorem impl__law_sum (F : FunD K "_law_sum" "_law_sum" (defArgs st__law_sum) (defBody st__law_sum) (defScope st__law_sum) [] [] f fd) (hg : mg "_law_sum" = some (.ref f)) (hf : ∀ z ∈ bnames, mg z = none) : Impl ⟨K, false⟩ P w mg base 1 "_law_sum" m__law_sum :=
  impl_def (N := N__law_sum) (ar := 2) F hg (show Binds K fd ["one", "other"] [] from FunD.bindsN F fun _ _ _ _ _ _ us hl => match us, hl with | [_, _], _ => rfl) (by decide +kernel) chk__law_sum (Impls.mono (j := 0) .nil (by decide)) hf rfl
theorem chk__law_all : chkB N__law_all T__law_all (defScope st__law_all) c__law_all (defBody st__law_all) = true := by decide +kernel
theorem impl__law_all (F : FunD K "_law_all" "_law_all" (defArgs st__law_all) (defBody st__law_all) (defScope st__law_all) [] [] f fd) (hg : mg "_law_all" = some (.ref f)) (hf : ∀ z ∈ bnames, mg z = none) : Impl ⟨K, false⟩ P w mg base 1 "_law_all" m__law_all :=
  impl_def (N := N__law_all) (ar := 1) F hg (show Binds K fd ["many"] [] from FunD.bindsN F fun _ _ _ _ _ _ us hl => match us, hl with | [_], _ => rfl) (by decide +kernel) chk__law_all (Impls.mono (j := 0) .nil (by decide)) hf rfl
theorem chk__law_at : chkB N__law_at T__law_at (defScope st__law_at) c__law_at (defBody st__law_at) = true := by decide +kernel
theorem impl__law_at (F : FunD K "_law_at" "_law_at" (defArgs st__law_at) (defBody st__law_at) (defScope st__law_at) [] [] f fd) (hg : mg "_law_at" = some (.ref f)) (hf : ∀ z ∈ bnames, mg z = none) : Impl ⟨K, false⟩ P w mg base 1 "_law_at" m__law_at :=
  impl_def (N := N__law_at) (ar := 2) F hg (show Binds K fd ["form", "row"] [] from FunD.bindsN F fun _ _ _ _ _ _ us hl => match us, hl with | [_, _], _ => rfl) (by decide +kernel) chk__law_at (Impls.mono (j := 0) .nil (by decide)) hf rfl
theorem chk_law : chkB N_law T_law (defScope st_law) c_law ((defBody st_law).drop 1) = true := by decide +kernel
def LawOk : Prop := evS T_law c_law (env0 18) fun r => r = .ok (.rt (.bl true))
def spL (K : PySem.W.Frag) : Sp := fun vs H Q _ => ∃ (a : Addr) (ns : List Int), vs = [.ref a] ∧ SqL K H a (ns.map V.int) ∧ ns.length ≤ 63 ∧ ∀ H', Q (.bl true) H'
theorem ok_law (hlaw : LawOk) (F : FunD K "law" "law" (defArgs st_law) (defBody st_law) (defScope st_law) [] [] f fd) (hf : ∀ z ∈ bnames, mg z = none) (h_form_kind : Impl ⟨K, false⟩ P w mg base 2 "form_kind" m_form_kind) (h__law_at : Impl ⟨K, false⟩ P w mg base 1 "_law_at" m__law_at) (h_moved_form : Impl ⟨K, false⟩ P w mg base 3 "moved_form" m_moved_form) (h__law_twist : Impl ⟨K, false⟩ P w mg base 1 "_law_twist" m__law_twist) (h_common_form : Impl ⟨K, false⟩ P w mg base 2 "common_form" m_common_form) (h_bit_turn : Impl ⟨K, false⟩ P w mg base 3 "bit_turn" m_bit_turn) (h__law_same : Impl ⟨K, false⟩ P w mg base 13 "_law_same" (m__law_same 12)) (h_form_zeros : Impl ⟨K, false⟩ P w mg base 3 "form_zeros" m_form_zeros) (h_form_at : Impl ⟨K, false⟩ P w mg base 2 "form_at" m_form_at) (h__law_sum : Impl ⟨K, false⟩ P w mg base 1 "_law_sum" m__law_sum) (h__law_next : Impl ⟨K, false⟩ P w mg base 2 "_law_next" m_next) (h__law_all : Impl ⟨K, false⟩ P w mg base 1 "_law_all" m__law_all) :
    FnOk P w K mg base (L2.CX P w) 14 f fd ["script"] (spL K) := by
  have S : FnScope N_law ["script"] (defScope st_law) := ⟨rfl, rfl, rfl, by decide +kernel, rfl, by decide +kernel, by decide +kernel⟩
  refine F.ok S (fun vs H Q E h => ?_) fun cdv A outer s H vs Q E hr h => ?_
  · obtain ⟨a, ns, rfl, _⟩ := h
    rfl
  · obtain ⟨a, ns, rfl, hS, hl, hQ⟩ := h
    have cx : SCx ⟨K, false⟩ 13 T_law (cxOf (L2.CX P w) P w K mg base N_law "law" (defScope st_law) f cdv A outer s H E).nox := ⟨⟨rfl, rfl, S.nd, hr, hf, Impls.mono (j := 13) (.cons h_form_kind (by decide) (.cons h__law_at (by decide) (.cons h_moved_form (by decide) (.cons h__law_twist (by decide) (.cons h_common_form (by decide) (.cons h_bit_turn (by decide) (.cons h__law_same (by decide) (.cons h_form_zeros (by decide) (.cons h_form_at (by decide) (.cons h__law_sum (by decide) (.cons h__law_next (by decide) (.cons h__law_all (by decide) .nil)))))))))))) (by decide)⟩, fun _ => rfl, PassesOwn.never, blk_fn S.kind⟩
    refine ⟨_, PSs.nox (pss_cons (ps_set (i := 1) S.nd rfl (.inl rfl) (pe_lst (pa_cons (pe_callTy call_list_of rfl (hf _ (by decide +kernel)) boot_list (pa_cons (pv 0) pa_nil)) (pa_cons pe_int (pa_cons pe_int (pa_cons pe_int pa_nil)))))) ((ms_all cx c_law).2 _ chk_law)), ?_⟩
    exact law_from (N := N_law) rfl (by decide) (by decide) hlaw hS hl hQ
end
/-! ### the head -/
def d_xor_bits : He.DefD := ⟨("xor_bits", none), "xor_bits", "xor_bits", defArgs st_xor_bits, defBody st_xor_bits, defScope st_xor_bits, [], []⟩
def d_dot_bits : He.DefD := ⟨("dot_bits", none), "dot_bits", "dot_bits", defArgs st_dot_bits, defBody st_dot_bits, defScope st_dot_bits, [], []⟩
def d_all_bits : He.DefD := ⟨("all_bits", none), "all_bits", "all_bits", defArgs st_all_bits, defBody st_all_bits, defScope st_all_bits, [], []⟩
def d_twist : He.DefD := ⟨("twist", none), "twist", "twist", defArgs st_twist, defBody st_twist, defScope st_twist, [], []⟩
def d_bit_turn : He.DefD := ⟨("bit_turn", none), "bit_turn", "bit_turn", defArgs st_bit_turn, defBody st_bit_turn, defScope st_bit_turn, [], []⟩
def d_form_at : He.DefD := ⟨("form_at", none), "form_at", "form_at", defArgs st_form_at, defBody st_form_at, defScope st_form_at, [], []⟩
def d_form_zeros : He.DefD := ⟨("form_zeros", none), "form_zeros", "form_zeros", defArgs st_form_zeros, defBody st_form_zeros, defScope st_form_zeros, [], []⟩
def d_form_kind : He.DefD := ⟨("form_kind", none), "form_kind", "form_kind", defArgs st_form_kind, defBody st_form_kind, defScope st_form_kind, [], []⟩
def d_moved_form : He.DefD := ⟨("moved_form", none), "moved_form", "moved_form", defArgs st_moved_form, defBody st_moved_form, defScope st_moved_form, [], []⟩
def d_common_form : He.DefD := ⟨("common_form", none), "common_form", "common_form", defArgs st_common_form, defBody st_common_form, defScope st_common_form, [], []⟩
def d__law_next : He.DefD := ⟨("_law_next", none), "_law_next", "_law_next", defArgs st__law_next, defBody st__law_next, defScope st__law_next, [], []⟩
def d__law_same : He.DefD := ⟨("_law_same", none), "_law_same", "_law_same", defArgs st__law_same, defBody st__law_same, defScope st__law_same, [], []⟩
def d__law_twist : He.DefD := ⟨("_law_twist", none), "_law_twist", "_law_twist", defArgs st__law_twist, defBody st__law_twist, defScope st__law_twist, [], []⟩
def d__law_sum : He.DefD := ⟨("_law_sum", none), "_law_sum", "_law_sum", defArgs st__law_sum, defBody st__law_sum, defScope st__law_sum, [], []⟩
def d__law_all : He.DefD := ⟨("_law_all", none), "_law_all", "_law_all", defArgs st__law_all, defBody st__law_all, defScope st__law_all, [], []⟩
def d__law_at : He.DefD := ⟨("_law_at", none), "_law_at", "_law_at", defArgs st__law_at, defBody st__law_at, defScope st__law_at, [], []⟩
def d_law : He.DefD := ⟨("law", none), "law", "law", defArgs st_law, defBody st_law, defScope st_law, [], []⟩
def fnT : List He.DefD := [d_xor_bits, d_dot_bits, d_all_bits, d_twist, d_bit_turn, d_form_at, d_form_zeros, d_form_kind, d_moved_form, d_common_form, d__law_next, d__law_same, d__law_twist, d__law_sum, d__law_all, d__law_at, d_law]
def faT : List He.Fa := [.glo "xor_bits", .glo "dot_bits", .glo "all_bits", .glo "twist", .glo "bit_turn", .glo "form_at", .glo "form_zeros", .glo "form_kind", .glo "moved_form", .glo "common_form", .glo "_law_next", .glo "_law_same", .glo "_law_twist", .glo "_law_sum", .glo "_law_all", .glo "_law_at", .glo "law", .free "len", .free "tuple", .free "list", .free "sum", .free "int", .free "abs", .free "all", .free "any", .free "isinstance", .free "range", .free "zip", .free "enumerate", .free "bool", .free "str"]
abbrev R : PySem.W.OpenRow := PySem.W.OpenLaw.row PySem.Challenge.rw_swapsigns_k75_whole_forms_of_signs
abbrev hk : PySem.W.Hook := He.hookD 4 faT fnT
def ob (s : PySem.W.SharedT) : He.AlD := He.obsDG 4 faT fnT (HandSHeadRun.getT s)
theorem ob_eq (s : PySem.W.SharedT) : ob s = hk.obs s.abs := He.obsDG_eq (HandSHeadRun.getT_eq s)
theorem run (w : World) : HandSHeadRun.RunEq R (PySem.W.view R.prog [21]) hk ob 4000 ["xor_bits", "dot_bits", "all_bits", "twist", "bit_turn", "form_at", "form_zeros", "form_kind", "moved_form", "common_form", "_law_next", "_law_same", "_law_twist", "_law_sum", "_law_span", "_law_all", "_law_at"] w := by
  intro os
  kernel_rfl
theorem free_all {K : PySem.W.Frag} {h : Heap} {mg : Str → Option Value} (X : K.In h) (G : h.Ns mainGlobals mg) (c : He.SaysD faT fnT K) : ∀ z ∈ bnames, mg z = none := by
  intro z hz
  unfold bnames at hz
  simp only [List.mem_cons, List.not_mem_nil, or_false] at hz
  rcases hz with rfl | rfl | rfl | rfl | rfl | rfl | rfl | rfl | rfl | rfl | rfl | rfl | rfl | rfl
  · exact He.free_ok X G (c.fact 17 (f := .free "len") rfl)
  · exact He.free_ok X G (c.fact 18 (f := .free "tuple") rfl)
  · exact He.free_ok X G (c.fact 19 (f := .free "list") rfl)
  · exact He.free_ok X G (c.fact 20 (f := .free "sum") rfl)
  · exact He.free_ok X G (c.fact 21 (f := .free "int") rfl)
  · exact He.free_ok X G (c.fact 22 (f := .free "abs") rfl)
  · exact He.free_ok X G (c.fact 23 (f := .free "all") rfl)
  · exact He.free_ok X G (c.fact 24 (f := .free "any") rfl)
  · exact He.free_ok X G (c.fact 25 (f := .free "isinstance") rfl)
  · exact He.free_ok X G (c.fact 26 (f := .free "range") rfl)
  · exact He.free_ok X G (c.fact 27 (f := .free "zip") rfl)
  · exact He.free_ok X G (c.fact 28 (f := .free "enumerate") rfl)
  · exact He.free_ok X G (c.fact 29 (f := .free "bool") rfl)
  · exact He.free_ok X G (c.fact 30 (f := .free "str") rfl)
theorem facts (hlaw : LawOk) {P : Program} {w : World} {K : PySem.W.Frag} {h : Heap} {mg : Str → Option Value} {f : Addr} (X : K.In h) (G : h.Ns mainGlobals mg) (hfa : mg ("law" : Str) = some (.ref f)) (c : He.SaysD faT fnT K) :
    ∃ fd : FuncData, (∀ (s : Shared) (v : Value), BindsTo s fd ⟨[v], []⟩ [("script", v)]) ∧ ∀ base : Heap, K.In base → base.Ns mainGlobals mg → FnOk P w K mg base L2.CX0 14 f fd ["script"] (spL K) := by
  obtain ⟨fd_xor_bits, F_xor_bits⟩ := c.def_ 0 (d := d_xor_bits) rfl
  have g_xor_bits := He.glo_ok X G (c.fact 0 (f := .glo "xor_bits") rfl)
  obtain ⟨fd_dot_bits, F_dot_bits⟩ := c.def_ 1 (d := d_dot_bits) rfl
  have g_dot_bits := He.glo_ok X G (c.fact 1 (f := .glo "dot_bits") rfl)
  obtain ⟨fd_all_bits, F_all_bits⟩ := c.def_ 2 (d := d_all_bits) rfl
  have g_all_bits := He.glo_ok X G (c.fact 2 (f := .glo "all_bits") rfl)
  obtain ⟨fd_twist, F_twist⟩ := c.def_ 3 (d := d_twist) rfl
  have g_twist := He.glo_ok X G (c.fact 3 (f := .glo "twist") rfl)
  obtain ⟨fd_bit_turn, F_bit_turn⟩ := c.def_ 4 (d := d_bit_turn) rfl
  have g_bit_turn := He.glo_ok X G (c.fact 4 (f := .glo "bit_turn") rfl)
  obtain ⟨fd_form_at, F_form_at⟩ := c.def_ 5 (d := d_form_at) rfl
  have g_form_at := He.glo_ok X G (c.fact 5 (f := .glo "form_at") rfl)
  obtain ⟨fd_form_zeros, F_form_zeros⟩ := c.def_ 6 (d := d_form_zeros) rfl
  have g_form_zeros := He.glo_ok X G (c.fact 6 (f := .glo "form_zeros") rfl)
  obtain ⟨fd_form_kind, F_form_kind⟩ := c.def_ 7 (d := d_form_kind) rfl
  have g_form_kind := He.glo_ok X G (c.fact 7 (f := .glo "form_kind") rfl)
  obtain ⟨fd_moved_form, F_moved_form⟩ := c.def_ 8 (d := d_moved_form) rfl
  have g_moved_form := He.glo_ok X G (c.fact 8 (f := .glo "moved_form") rfl)
  obtain ⟨fd_common_form, F_common_form⟩ := c.def_ 9 (d := d_common_form) rfl
  have g_common_form := He.glo_ok X G (c.fact 9 (f := .glo "common_form") rfl)
  obtain ⟨fd__law_next, F__law_next⟩ := c.def_ 10 (d := d__law_next) rfl
  have g__law_next := He.glo_ok X G (c.fact 10 (f := .glo "_law_next") rfl)
  obtain ⟨fd__law_same, F__law_same⟩ := c.def_ 11 (d := d__law_same) rfl
  have g__law_same := He.glo_ok X G (c.fact 11 (f := .glo "_law_same") rfl)
  obtain ⟨fd__law_twist, F__law_twist⟩ := c.def_ 12 (d := d__law_twist) rfl
  have g__law_twist := He.glo_ok X G (c.fact 12 (f := .glo "_law_twist") rfl)
  obtain ⟨fd__law_sum, F__law_sum⟩ := c.def_ 13 (d := d__law_sum) rfl
  have g__law_sum := He.glo_ok X G (c.fact 13 (f := .glo "_law_sum") rfl)
  obtain ⟨fd__law_all, F__law_all⟩ := c.def_ 14 (d := d__law_all) rfl
  have g__law_all := He.glo_ok X G (c.fact 14 (f := .glo "_law_all") rfl)
  obtain ⟨fd__law_at, F__law_at⟩ := c.def_ 15 (d := d__law_at) rfl
  have g__law_at := He.glo_ok X G (c.fact 15 (f := .glo "_law_at") rfl)
  obtain ⟨fd, F⟩ := c.def_ 16 (d := d_law) rfl
  have e := hfa.symm.trans (He.glo_ok X G (c.fact 16 (f := .glo "law") rfl))
  cases e
  have hf := free_all X G c
  have b := FunD.bindsA (ps := ["script"]) F fun _ _ _ _ _ _ us hl => match us, hl with | [_], _ => rfl
  refine ⟨fd, fun s v => b s [v] rfl, fun base _ _ => ?_⟩
  have h__law_next : Impl ⟨K, false⟩ P w mg base 2 "_law_next" m_next := impl_next F__law_next g__law_next hf
  have h_xor_bits := impl_xor_bits (P := P) (w := w) (base := base) F_xor_bits g_xor_bits hf
  have h_dot_bits := impl_dot_bits (P := P) (w := w) (base := base) F_dot_bits g_dot_bits hf
  have h_all_bits := impl_all_bits (P := P) (w := w) (base := base) F_all_bits g_all_bits hf
  have h_twist := impl_twist (P := P) (w := w) (base := base) F_twist g_twist hf h_dot_bits
  have h_bit_turn := impl_bit_turn (P := P) (w := w) (base := base) F_bit_turn g_bit_turn hf h_twist h_xor_bits
  have h_form_at := impl_form_at (P := P) (w := w) (base := base) F_form_at g_form_at hf h_dot_bits
  have h_form_zeros := impl_form_zeros (P := P) (w := w) (base := base) F_form_zeros g_form_zeros hf h_all_bits h_form_at
  have h_form_kind := impl_form_kind (P := P) (w := w) (base := base) F_form_kind g_form_kind hf h_dot_bits
  have h_moved_form := impl_moved_form (P := P) (w := w) (base := base) F_moved_form g_moved_form hf h_xor_bits h_form_at
  have h_common_form := impl_common_form (P := P) (w := w) (base := base) F_common_form g_common_form hf h_xor_bits
  have h__law_same := impl__law_same (P := P) (w := w) (base := base) F__law_same g__law_same hf 12
  have h__law_twist := impl__law_twist (P := P) (w := w) (base := base) F__law_twist g__law_twist hf
  have h__law_sum := impl__law_sum (P := P) (w := w) (base := base) F__law_sum g__law_sum hf
  have h__law_all := impl__law_all (P := P) (w := w) (base := base) F__law_all g__law_all hf
  have h__law_at := impl__law_at (P := P) (w := w) (base := base) F__law_at g__law_at hf
  exact quiet (ok_law hlaw F hf h_form_kind h__law_at h_moved_form h__law_twist h_common_form h_bit_turn h__law_same h_form_zeros h_form_at h__law_sum h__law_next h__law_all) fun vs H Q E h => h
open PySem.W PySem.Calls in
theorem holds_of (hlaw : LawOk) : PySem.Challenge.rw_swapsigns_k75_whole_forms_of_signs.Holds := by
  w_on; o_law
  refine HandSHeadRun.head_any (r := OpenLaw.row PySem.Challenge.rw_swapsigns_k75_whole_forms_of_signs) (q := view (OpenLaw.row PySem.Challenge.rw_swapsigns_k75_whole_forms_of_signs).prog [21]) (H := hk) (ob := ob) (M := 4000) (loose := ["xor_bits", "dot_bits", "all_bits", "twist", "bit_turn", "form_at", "form_zeros", "form_kind", "moved_form", "common_form", "_law_next", "_law_same", "_law_twist", "_law_sum", "_law_span", "_law_all", "_law_at"]) (d := HandSHeadRun.topDef (OpenLaw.row PySem.Challenge.rw_swapsigns_k75_whole_forms_of_signs).prog 21) (kwd := []) ob_eq
    (by kernel_rfl) (fun s => by kernel_rfl) run (by kernel_rfl) (by kernel_rfl) (by kernel_rfl) (by rfl) (by first | assumption | decide +kernel) (by decide +kernel) ⟨rfl, rfl, rfl, rfl, rfl, by decide +kernel⟩ ?hw ?hc
  case hw => w_witness2
  case hc =>
    refine L2.walk_ofE (l := PySem.Challenge.rw_swapsigns_k75_whole_forms_of_signs) (n := 63) (k := 14) (x := "script") (CX := L2.CX0) rfl (by decide) (by kernel_rfl) ⟨rfl, by decide, by decide⟩ ?F (fun _ _ _ _ z => z)
    · intro w mg fa h Y G hmg0
      obtain ⟨K, KX, c⟩ := Y
      have hmg : mg ("law" : PySem.Str) = some (.ref fa) := by
        have e : (HandSHeadRun.topDef (OpenLaw.row PySem.Challenge.rw_swapsigns_k75_whole_forms_of_signs).prog 21).name = ("law" : PySem.Str) := by kernel_rfl
        rw [← e]
        exact hmg0
      obtain ⟨fd, hb, hF⟩ := facts hlaw (P := (PySem.Challenge.rw_swapsigns_k75_whole_forms_of_signs).prog) (w := w) KX G hmg c
      exact ⟨K, fd, spL K, KX, hb, fun H a ns hl _ hS => ⟨a, ns, rfl, hS, hl, fun _ => rfl⟩, hF⟩
end K75
namespace K75
open PySem PV

theorem zipD_map (a b : List Bool) : zipD (a.map eb) (b.map eb) = (List.zip a b).map fun p => .tup [eb p.1, eb p.2] := by
  unfold zipD
  rw [List.zipWith_map, List.zip, List.map_zipWith]
theorem zip_map (f : Bool → Bool → Bool) (a b : List Bool) : ((List.zip a b).map fun p => eb (f p.1 p.2)) = (List.zipWith f a b).map eb := by
  rw [List.zip, List.map_zipWith, List.map_zipWith]

theorem xor_ok (a b : List Bool) : m_xor_bits [er a, er b] = W.ret (er (xorR a b)) := by
  have h : flatW (compF (.tp [2, 3]) [2, 3] (evE T_xor_bits (.bl true)) (evE T_xor_bits (.bin .BitXor (.var 2) (.var 3))) [some (er a), some (er b), none, none]) (zipD (a.map eb) (b.map eb))
      = W.ret ((xorR a b).map eb) := by
    unfold xorR
    rw [zipD_map, ← zip_map]
    refine flatW_map fun p _ => ?_
    show W.ret [D.int (Builtin.bitXor (b1 p.1) (b1 p.2))] = _
    rw [b1_xor]
    rfl
  exact e_def rfl (e_seqR (e_ret (c_bi (c_cons (c_comp (v := .lst (zipD (a.map eb) (b.map eb))) rfl rfl h) c_nil))))
theorem and_b1 (n : Int) : binD .BitAnd (.int n) (.int 1) = W.ret (.int (n % 2)) := by
  show W.ret (D.int (Builtin.bitAnd n 1)) = _
  rw [PyProof.Rows.bitAnd_m1]
theorem sum_eb (r : List Bool) : biD .sum [.lst (r.map eb)] = W.ret (.int (r.map b1).sum) := by
  show (match intsOf (r.map eb) with
    | some ns => W.ret (D.int ns.sum)
    | none => W.fail) = _
  rw [intsOf_eb]
theorem dot_ok (a b : List Bool) : m_dot_bits [er a, er b] = W.ret (eb (dot a b)) := by
  have h : flatW (compF (.tp [2, 3]) [2, 3] (evE T_dot_bits (.bl true)) (evE T_dot_bits (.bin .BitAnd (.var 2) (.var 3))) [some (er a), some (er b), none, none]) (zipD (a.map eb) (b.map eb))
      = W.ret ((List.zipWith (· && ·) a b).map eb) := by
    rw [zipD_map, ← zip_map]
    refine flatW_map fun p _ => ?_
    show W.ret [D.int (Builtin.bitAnd (b1 p.1) (b1 p.2))] = _
    rw [b1_and]
    rfl
  refine e_def rfl (e_seqR (e_ret (c_binT (c_biT (c_cons (c_comp (v := .lst (zipD (a.map eb) (b.map eb))) rfl rfl h) c_nil) (sum_eb _)) rfl ?_)))
  rw [and_b1, sum_mod2]
  rfl
def hf (r : List Bool) : Nat := r.length / 2
def lo (r : List Bool) : List Bool := r.take (hf r)
def hi (r : List Bool) : List Bool := r.drop (hf r)
def tw (a b : List Bool) : Bool := dot (a.take (hf a)) (b.drop (hf a)) ^^ dot (a.drop (hf a)) (b.take (hf a))
theorem half_er (r : List Bool) {T : Tab} {env : PV.Env} {i : Nat} (h : evE T (.var i) env = W.ret (er r)) : evE T (.bin .FloorDiv (.bi .len (.cons (.var i) .nil)) (.int 2)) env = W.ret (.int (hf r : Nat)) :=
  c_binT (c_biT (c_cons h c_nil) (len_er r)) rfl (half_nat r.length)
theorem twist_ok (a b : List Bool) : m_twist [er a, er b] = W.ret (eb (tw a b)) :=
  e_def rfl ((e_seq (e_asg (half_er a rfl))).trans (e_seqR (e_ret (c_binT
    (c_callT (c_cons (c_sloT rfl rfl (sl_lo a (hf a))) (c_cons (c_shiT rfl rfl (sl_hi b (hf a))) c_nil)) rfl (dot_ok _ _))
    (c_callT (c_cons (c_shiT rfl rfl (sl_hi a (hf a))) (c_cons (c_sloT rfl rfl (sl_lo b (hf a))) c_nil)) rfl (dot_ok _ _)) (xor_eb _ _)))))
theorem is_one (b : Bool) : cmpD .Eq (eb b) (.int 1) = W.ret (.bl b) := by
  rw [cmp_eq (k := 0) (.eb b) (.int 1) (by decide)]
  cases b <;> rfl
theorem is_zero (b : Bool) : cmpD .Eq (eb b) (.int 0) = W.ret (.bl (!b)) := by
  rw [cmp_eq (k := 0) (.eb b) (.int 0) (by decide)]
  cases b <;> rfl
def bt (d r : List Bool) : List Bool := if tw d r = true then xorR r d else r
theorem turn_ok (d r : List Bool) : m_bit_turn [er d, er r] = W.ret (er (bt d r)) := by
  refine e_def rfl (e_seqR (e_ret ?_))
  rw [c_ite (p := tw d r) (c_cmpT (c_callT (c_cons rfl (c_cons rfl c_nil)) rfl (twist_ok d r)) rfl (is_one _))]
  unfold bt
  split
  · exact c_callT (c_cons rfl (c_cons rfl c_nil)) rfl (xor_ok r d)
  · rfl
def qf (f r : List Bool) : Bool := dot (lo r) (hi r) ^^ dot f r
theorem at_ok (f r : List Bool) : m_form_at [er f, er r] = W.ret (eb (qf f r)) :=
  e_def rfl ((e_seq (e_asg (half_er r rfl))).trans (e_seqR (e_ret (c_binT
    (c_callT (c_cons (c_sloT rfl rfl (sl_lo r (hf r))) (c_cons (c_shiT rfl rfl (sl_hi r (hf r))) c_nil)) rfl (dot_ok _ _))
    (c_callT (c_cons rfl (c_cons rfl c_nil)) rfl (dot_ok f r)) (xor_eb _ _)))))
def kd (f : List Bool) : Bool := dot (lo f) (hi f)
theorem kind_ok (f : List Bool) : m_form_kind [er f] = W.ret (eb (kd f)) :=
  e_def rfl ((e_seq (e_asg (half_er f rfl))).trans (e_seqR (e_ret
    (c_callT (c_cons (c_sloT rfl rfl (sl_lo f (hf f))) (c_cons (c_shiT rfl rfl (sl_hi f (hf f))) c_nil)) rfl (dot_ok _ _)))))
/-- the halves exchanged -/
def sw (h : Nat) (r : List Bool) : List Bool := r.drop h ++ r.take h
theorem add_er (a b : List Bool) (h : a.length + b.length ≤ 1000) : binD .Add (er a) (er b) = W.ret (er (a ++ b)) := by
  unfold er
  rw [add_tup (by rw [sizeLine_eq, List.length_map, List.length_map]; omega), List.map_append]
theorem sw_ok (d : List Bool) (h : Nat) (hl : d.length ≤ 1000) {T : Tab} {env : PV.Env} {i j : Nat} (h1 : evE T (.var i) env = W.ret (er d)) (h2 : evE T (.var j) env = W.ret (.int (h : Nat))) :
    evE T (.bin .Add (.sl (.var i) (.var j) .nil) (.sl (.var i) .nil (.var j))) env = W.ret (er (sw h d)) :=
  c_binT (c_shiT h1 h2 (sl_hi d h)) (c_sloT h1 h2 (sl_lo d h)) (add_er _ _ (by rw [List.length_drop, List.length_take]; omega))
def mv (f d : List Bool) : List Bool := if qf f d = true then f else xorR f (sw (hf f) d)
theorem moved_ok (f d : List Bool) (hl : d.length ≤ 1000) : m_moved_form [er f, er d] = W.ret (er (mv f d)) := by
  have hc : evE T_moved_form (.cmp .Eq (.call 1 (.cons (.var 0) (.cons (.var 1) .nil))) (.int 1)) (opnAll (PV.start 3 [er f, er d])) = W.ret (.bl (qf f d)) :=
    c_cmpT (c_callT (c_cons rfl (c_cons rfl c_nil)) rfl (at_ok f d)) rfl (is_one _)
  refine e_def rfl ?_
  unfold mv
  cases e : qf f d with
  | true =>
    rw [e] at hc
    exact e_seqR ((e_if hc).trans (e_seqR (e_ret rfl)))
  | false =>
    rw [e] at hc
    exact (e_seq (e_no hc)).trans ((e_seq (e_asg (half_er f rfl))).trans (e_seqR (e_ret (c_callT (c_cons rfl (c_cons (sw_ok d (hf f) hl rfl rfl) c_nil)) rfl (xor_ok _ _)))))
theorem xorR_length (a b : List Bool) : (xorR a b).length = min a.length b.length := by unfold xorR; rw [List.length_zipWith]
def cf (f g : List Bool) : List Bool := sw (hf f) (xorR f g)
theorem common_ok (f g : List Bool) (hl : f.length ≤ 1000) : m_common_form [er f, er g] = W.ret (er (cf f g)) :=
  e_def rfl ((e_seq (e_asg (half_er f rfl))).trans ((e_seq (e_asg (c_callT (c_cons rfl (c_cons rfl c_nil)) rfl (xor_ok f g)))).trans (e_seqR (e_ret
    (sw_ok _ _ (by rw [xorR_length]; omega) rfl rfl)))))
end K75
namespace K75
open PySem PV

def ext (r : List Bool) : List (List Bool) := [r ++ [false], r ++ [true]]
def allR : Nat → List (List Bool)
  | 0 => [[]]
  | n + 1 => (allR n).flatMap ext
theorem ext_length (rs : List (List Bool)) : (rs.flatMap ext).length = 2 * rs.length := by
  induction rs with
  | nil => rfl
  | cons r rs ih => rw [List.flatMap_cons, List.length_append, ih, List.length_cons]; show 2 + _ = _; omega
theorem allR_length (n : Nat) : (allR n).length = 2 ^ n := by
  induction n with
  | zero => rfl
  | succ n ih => rw [allR, ext_length, ih, Nat.pow_succ]; omega
theorem allR_mem {n : Nat} {r : List Bool} : r ∈ allR n ↔ r.length = n := by
  induction n generalizing r with
  | zero =>
    rw [allR, List.mem_singleton]
    exact List.length_eq_zero_iff.symm
  | succ n ih =>
    rw [allR, List.mem_flatMap]
    constructor
    · rintro ⟨s, hs, hr⟩
      have := ih.mp hs
      unfold ext at hr
      simp only [List.mem_cons, List.not_mem_nil, or_false] at hr
      rcases hr with rfl | rfl <;> simp [this]
    · intro h
      refine ⟨r.dropLast, ih.mpr (by rw [List.length_dropLast, h]; rfl), ?_⟩
      have hne : r ≠ [] := fun e => by rw [e] at h; cases h
      have := List.dropLast_concat_getLast hne
      unfold ext
      simp only [List.mem_cons, List.not_mem_nil, or_false]
      cases e : r.getLast hne with
      | false => left; rw [e] at this; exact this.symm
      | true => right; rw [e] at this; exact this.symm
theorem two_bits : itemsD (.tup [.int 0, .int 1]) = W.ret ([false, true].map eb) := rfl
theorem pow_le {n : Nat} (h : n ≤ 10) : 2 ^ n ≤ 1024 := Nat.pow_le_pow_right (by decide) h
theorem add_bit (r : List Bool) (b : Bool) (h : r.length ≤ 900) : binD .Add (er r) (.tup [eb b]) = W.ret (er (r ++ [b])) := add_er r [b] (by simp; omega)
theorem all_ok (n : Nat) (hn : n ≤ 10) : m_all_bits [.int (n : Int)] = W.ret (ers (allR n)) := by
  have hfor : forW (fun x e => W.bind (bindTS (.nm 2) x e) fun e1 => evS T_all_bits (.seq (.asg 1 (.comp2 [3, 4] (.nm 3) (.var 1) [4] (.nm 4) (.tup (.cons (.int 0) (.cons (.int 1) .nil))) (.bl true) (.bin .Add (.var 3) (.tup (.cons (.var 4) .nil)))) []) .nil) e1)
      (intsR 0 n) [some (false, .int (n : Int)), some (false, ers (allR 0)), none, none, none] = W.ret (.nx [some (false, .int (n : Int)), some (false, ers (allR n)), none, none, none]) := by
    refine for_rng (fun i => [some (false, .int (n : Int)), some (false, ers (allR i)), none, none, none]) fun i hi => ⟨[some (false, .int (n : Int)), some (false, ers (allR (i + 1))), some (false, .int (i : Int)), none, none], ?_, rfl⟩
    refine (e_seq (e_asg (d := ers (allR (i + 1))) ?_)).trans rfl
    have hf : flatW (compF2 ((allR i).map er).length (.nm 3) [3, 4] (evE T_all_bits (.tup (.cons (.int 0) (.cons (.int 1) .nil)))) (.nm 4) [4] (evE T_all_bits (.bl true)) (evE T_all_bits (.bin .Add (.var 3) (.tup (.cons (.var 4) .nil))))
        (opn [] [some (false, .int (n : Int)), some (false, ers (allR i)), some (false, .int (i : Int)), none, none])) ((allR i).map er) = W.ret ((allR i).flatMap fun r => [false, true].map fun b => er (r ++ [b])) := by
      refine flatW_flat fun r hr => ?_
      have hl := allR_mem.mp hr
      refine compF2_of (env1 := [some (.int (n : Int)), some (ers (allR i)), some (.int (i : Int)), some (er r), none]) rfl rfl two_bits ?_ (flatW_map fun b _ => compF_of (env1 := [some (.int (n : Int)), some (ers (allR i)), some (.int (i : Int)), some (er r), some (eb b)]) rfl rfl (c_binT rfl rfl (add_bit r b (by omega))))
      have := pow_le (n := i) (by omega)
      rw [sizeLine_eq, List.length_map, allR_length, List.length_map]
      show 2 ^ i * 2 ≤ _
      omega
    have e : ((allR i).flatMap fun r => [false, true].map fun b => er (r ++ [b])) = (allR (i + 1)).map er := by
      rw [allR, List.map_flatMap]
      rfl
    rw [e] at hf
    exact c_comp2 (v := ers (allR i)) rfl rfl hf
  exact e_def rfl ((e_seq (e_asg rfl)).trans ((e_seq (e_for (c_rng (n := n) rfl (by rw [sizeLine_eq]; omega)) rfl hfor)).trans (e_seqR (e_ret rfl))))
theorem zeros_ok (f : List Bool) (hn : f.length ≤ 10) : m_form_zeros [er f] = W.ret (.int (((allR f.length).filter fun r => !qf f r).length : Nat)) := by
  have hf : flatW (compF (.nm 1) [1] (evE T_form_zeros (.cmp .Eq (.call 1 (.cons (.var 0) (.cons (.var 1) .nil))) (.int 0))) (evE T_form_zeros (.var 1)) (opnAll (PV.start 2 [er f]))) ((allR f.length).map er) = W.ret (((allR f.length).filter fun r => !qf f r).map er) :=
    flatW_filter (p := fun r => !qf f r) fun r _ => compF_if (env1 := [some (er f), some (er r)]) rfl (c_cmpT (c_callT (c_cons rfl (c_cons rfl c_nil)) rfl (at_ok f r)) rfl (is_zero _)) fun _ => rfl
  refine e_def rfl (e_seqR (e_ret (c_biT (c_cons (c_comp (v := ers (allR f.length)) (c_callT (c_cons (c_biT (c_cons rfl c_nil) (len_er f)) c_nil) rfl (all_ok f.length hn)) rfl hf) c_nil) ?_)))
  rw [len_lst, List.length_map]
/-! ### the law's own -/
def lb_in : CS := .seq (.asg 3 (.bin .Add (.var 3) (.comp [5] (.nm 5) (.tup (.cons (.int 0) (.cons (.int 1) .nil))) (.bl true) (.bin .Add (.var 4) (.tup (.cons (.var 5) .nil))))) []) .nil
def lb_out : CS := .seq (.asg 3 (.lst .nil) []) (.seq (.for (.nm 4) (.var 1) lb_in []) (.seq (.asg 1 (.var 3) []) .nil))
def envL (n i : Nat) (fs la : List (List Bool)) (row : Option (Bool × D)) : SEnv := [some (false, .int (n : Int)), some (false, ers fs), some (false, .int (i : Int)), some (false, ers la), row, none]
theorem lall_add (la : List (List Bool)) (r : List Bool) (h : la.length ≤ 100000) : binD .Add (ers la) (.lst ([false, true].map fun b => er (r ++ [b]))) = W.ret (ers (la ++ ext r)) := by
  unfold ers
  rw [add_lst, List.map_append]
  · rfl
  · rw [sizeLine_eq, List.length_map, List.length_map]
    show la.length + 2 ≤ _
    omega
theorem lall_comp (n i : Nat) (fs la : List (List Bool)) (r : List Bool) (h : r.length ≤ 900) :
    evE T__law_all (.comp [5] (.nm 5) (.tup (.cons (.int 0) (.cons (.int 1) .nil))) (.bl true) (.bin .Add (.var 4) (.tup (.cons (.var 5) .nil)))) (opn [] (envL n i fs la (some (false, er r)))) = W.ret (.lst ([false, true].map fun b => er (r ++ [b]))) :=
  c_comp rfl two_bits (flatW_map fun b _ => compF_of (env1 := [some (.int (n : Int)), some (ers fs), some (.int (i : Int)), some (ers la), some (er r), some (eb b)]) rfl rfl (c_binT rfl rfl (add_bit r b h)))
theorem lall_step (n i : Nat) (fs la : List (List Bool)) (r : List Bool) (h : r.length ≤ 900) (hl : la.length ≤ 100000) :
    evS T__law_all lb_in (envL n i fs la (some (false, er r))) = W.ret (.nx (envL n i fs (la ++ ext r) (some (false, er r)))) := by
  unfold lb_in
  rw [e_seq (e_asg (c_binT (v := ers la) rfl (lall_comp n i fs la r h) (lall_add la r hl)))]
  rfl
theorem lall_in (n i : Nat) (hn : n ≤ 10) (hi : i < n) : evS T__law_all (.for (.nm 4) (.var 1) lb_in []) (envL n i (allR i) [] none) = W.ret (.nx (envL n i (allR i) ((allR i).flatMap ext) none)) := by
  refine e_for (v := ers (allR i)) rfl rfl ?_
  refine for_list (fun pre => envL n i (allR i) (pre.flatMap ext) none) fun pre r post e => ⟨envL n i (allR i) ((pre ++ [r]).flatMap ext) (some (false, er r)), ?_, rfl⟩
  have hr : r ∈ allR i := by rw [e]; simp
  have hl := allR_mem.mp hr
  have hlen : (pre.flatMap ext).length ≤ 100000 := by
    have h1 := allR_length i
    have h2 := pow_le (n := i) (by omega)
    rw [ext_length]
    rw [e, List.length_append] at h1
    omega
  rw [List.flatMap_append, show [r].flatMap ext = ext r from List.append_nil _]
  exact turn_nm (lall_step n i (allR i) (pre.flatMap ext) r (by omega) hlen)
theorem lall_turn (n i : Nat) (hn : n ≤ 10) (hi : i < n) : evS T__law_all lb_out [some (false, .int (n : Int)), some (false, ers (allR i)), some (false, .int (i : Int)), none, none, none] = W.ret (.nx [some (false, .int (n : Int)), some (false, ers (allR (i + 1))), some (false, .int (i : Int)), some (false, ers (allR (i + 1))), none, none]) := by
  exact (e_seq (e_asg (d := .lst []) rfl)).trans ((e_seq (e := envL n i (allR i) ((allR i).flatMap ext) none) (lall_in n i hn hi)).trans ((e_seq (e_asg (d := ers ((allR i).flatMap ext)) rfl)).trans rfl))
theorem lall_ok (n : Nat) (hn : n ≤ 10) : m__law_all [.int (n : Int)] = W.ret (ers (allR n)) := by
  have hfor : forW (fun x e => W.bind (bindTS (.nm 2) x e) fun e1 => evS T__law_all lb_out e1) (intsR 0 n) [some (false, .int (n : Int)), some (false, ers (allR 0)), none, none, none, none] = W.ret (.nx [some (false, .int (n : Int)), some (false, ers (allR n)), none, none, none, none]) :=
    for_rng (fun i => [some (false, .int (n : Int)), some (false, ers (allR i)), none, none, none, none]) fun i hi => ⟨_, turn_nm (lall_turn n i hn hi), rfl⟩
  exact e_def rfl ((e_seq (e_asg rfl)).trans ((e_seq (e_for (c_rng (n := n) rfl (by rw [sizeLine_eq]; omega)) rfl hfor)).trans (e_seqR (e_ret rfl))))
theorem ltw_len (a b : List Bool) (h : b.length = a.length) {k : Nat} (hk : k < hf a) : k < a.length ∧ k + hf a < a.length ∧ k < b.length ∧ k + hf a < b.length := by
  unfold hf at *
  omega
theorem list_getD (r : List Bool) {k : Nat} (h : k < r.length) : ixD (er r) (.int (k : Int)) = W.ret (eb (r.getD k false)) := by
  rw [ix_er r k h]
  congr 2
  simp [List.getD, List.getElem?_eq_getElem h]
theorem lsum_ok (a b : List Bool) (h : b.length = a.length) (hl : a.length ≤ 1000) : m__law_sum [er a, er b] = W.ret (er (xorR a b)) := by
  have hfl : flatW (compF (.nm 2) [2] (evE T__law_sum (.bl true)) (evE T__law_sum (.bin .BitXor (.ix (.var 0) (.var 2)) (.ix (.var 1) (.var 2)))) (opnAll (PV.start 3 [er a, er b]))) (intsR 0 a.length) = W.ret ((List.range a.length).map fun k => eb (a.getD k false ^^ b.getD k false)) :=
    flat_rng fun k hk => compF_of (env1 := [some (er a), some (er b), some (.int (k : Int))]) rfl rfl (c_binT (c_ixT rfl rfl (list_getD a hk)) (c_ixT rfl rfl (list_getD b (by omega))) (xor_eb _ _))
  have e : ((List.range a.length).map fun k => eb (a.getD k false ^^ b.getD k false)) = (xorR a b).map eb := by
    unfold xorR
    refine List.ext_getElem (by simp [h]) fun k h1 h2 => ?_
    simp only [List.length_map, List.length_range] at h1
    simp [List.getD, List.getElem?_eq_getElem h1, List.getElem?_eq_getElem (show k < b.length by omega)]
  rw [e] at hfl
  exact e_def rfl (e_seqR (e_ret (c_biT (c_cons (c_comp (c_rng (n := a.length) (c_biT (c_cons rfl c_nil) (len_er a)) (by rw [sizeLine_eq]; omega)) rfl hfl) c_nil) rfl)))
end K75
namespace K75
open PySem PV

theorem sum_par {α : Type} {f : α → Int} {g : α → Bool} : ∀ {xs : List α}, (∀ x ∈ xs, f x % 2 = b1 (g x)) → (xs.map f).sum % 2 = b1 (xorL (xs.map g))
  | [], _ => rfl
  | x :: xs, h => by
    have h1 := h x List.mem_cons_self
    have h2 := sum_par (xs := xs) fun y hy => h y (List.mem_cons_of_mem _ hy)
    rw [List.map_cons, List.sum_cons, List.map_cons, xorL_cons]
    cases e1 : g x <;> cases e2 : xorL (xs.map g) <;> rw [e1] at h1 <;> rw [e2] at h2 <;> simp only [b1] at h1 h2 ⊢ <;> simp at h1 h2 ⊢ <;> omega
theorem xorL_xor {α : Type} (p q : α → Bool) : ∀ xs : List α, xorL (xs.map fun k => p k ^^ q k) = (xorL (xs.map p) ^^ xorL (xs.map q))
  | [] => rfl
  | x :: xs => by
    rw [List.map_cons, List.map_cons, List.map_cons, xorL_cons, xorL_cons, xorL_cons, xorL_xor p q xs]
    cases p x <;> cases q x <;> cases xorL (xs.map p) <;> cases xorL (xs.map q) <;> rfl
theorem sum_ints {α : Type} (f : α → Int) (xs : List α) : biD .sum [.lst (xs.map fun k => .int (f k))] = W.ret (.int (xs.map f).sum) := by
  show (match intsOf (xs.map fun k => .int (f k)) with
    | some ns => W.ret (D.int ns.sum)
    | none => W.fail) = _
  rw [intsOf_map]
theorem getD_lt (r : List Bool) {k : Nat} (h : k < r.length) : r.getD k false = r[k] := by simp [List.getD, List.getElem?_eq_getElem h]
/-- a place's sum over range -/
theorem dot_range (a b : List Bool) (i j n : Nat) (ha : i + n ≤ a.length) (hb : j + n ≤ b.length) (hm : (a.drop i).length = n ∨ (b.drop j).length = n ∨ True) :
    xorL ((List.range n).map fun k => a.getD (k + i) false && b.getD (k + j) false) = dot ((a.drop i).take n) ((b.drop j).take n) := by
  unfold dot
  congr 1
  refine List.ext_getElem (by simp; omega) fun k h1 h2 => ?_
  simp only [List.length_map, List.length_range] at h1
  rw [List.getElem_map, List.getElem_range, List.getElem_zipWith, List.getElem_take, List.getElem_take, List.getElem_drop, List.getElem_drop, getD_lt a (by omega), getD_lt b (by omega)]
  congr 2 <;> omega
theorem mod2 (n : Int) : binD .Mod (.int n) (.int 2) = W.ret (.int (n % 2)) := by
  show (if (0 : Int) < 2 then W.ret (D.int (n % 2)) else W.fail) = _
  rw [if_pos (by decide)]
theorem idx_add (k h : Nat) : binD .Add (.int (k : Int)) (.int (h : Int)) = W.ret (.int ((k + h : Nat) : Int)) := by
  show W.ret (D.int ((k : Int) + (h : Int))) = _
  rw [Int.natCast_add]
theorem bi_int (i : Int) : biD .int [.int i] = W.ret (.int i) := rfl
theorem ltwist_ok (a b : List Bool) (h : Nat) (ha : a.length = 2 * h) (hb : b.length = 2 * h) (hh : h ≤ 1000) : m__law_twist [er a, er b] = W.ret (eb (tw a b)) := by
  have hf' : hf a = h := by unfold hf; omega
  have hfl : flatW (compF (.nm 3) [3] (evE T__law_twist (.bl true)) (evE T__law_twist (.bin .Add (.bin .Mult (.ix (.var 0) (.var 3)) (.ix (.var 1) (.bin .Add (.var 3) (.var 2)))) (.bin .Mult (.ix (.var 0) (.bin .Add (.var 3) (.var 2))) (.ix (.var 1) (.var 3))))) (opnAll [some (false, er a), some (false, er b), some (false, .int (h : Int)), none])) (intsR 0 h)
      = W.ret ((List.range h).map fun k => .int (b1 (a.getD k false && b.getD (k + h) false) + b1 (a.getD (k + h) false && b.getD k false))) :=
    flat_rng fun k hk => compF_of (env1 := [some (er a), some (er b), some (.int (h : Int)), some (.int (k : Int))]) rfl rfl
      (c_binT (c_binT (c_ixT rfl rfl (list_getD a (by omega))) (c_ixT rfl (c_binT rfl rfl (idx_add k h)) (list_getD b (by omega))) (mul_eb _ _))
        (c_binT (c_ixT rfl (c_binT rfl rfl (idx_add k h)) (list_getD a (by omega))) (c_ixT rfl rfl (list_getD b (by omega))) (mul_eb _ _)) rfl)
  have e1 : evE T__law_twist (.bin .FloorDiv (.bi .len (.cons (.var 0) .nil)) (.int 2)) (opn [] (PV.start 4 [er a, er b])) = W.ret (.int (h : Int)) := by
    have := half_er a (T := T__law_twist) (env := opn [] (PV.start 4 [er a, er b])) (i := 0) rfl
    rw [hf'] at this
    exact this
  refine e_def rfl ((e_seq (e_asg e1)).trans (e_seqR (e_ret (c_binT (c_biT (c_cons (c_biT (c_cons (c_comp (c_rng (n := h) rfl (by rw [sizeLine_eq]; omega)) rfl hfl) c_nil) (sum_ints _ _)) c_nil) (bi_int _)) rfl ?_))))
  rw [mod2, sum_par (g := fun k => (a.getD k false && b.getD (k + h) false) ^^ (a.getD (k + h) false && b.getD k false)) fun k _ => by
    cases (a.getD k false && b.getD (k + h) false) <;> cases (a.getD (k + h) false && b.getD k false) <;> rfl]
  rw [xorL_xor]
  have d1 := dot_range a b 0 h h (by omega) (by omega) (.inr (.inr trivial))
  have d2 := dot_range a b h 0 h (by omega) (by omega) (.inr (.inr trivial))
  simp only [Nat.add_zero, List.drop_zero] at d1 d2
  rw [d1, d2, List.take_of_length_le (l := b.drop h) (by rw [List.length_drop]; omega), List.take_of_length_le (l := a.drop h) (by rw [List.length_drop]; omega)]
  unfold tw
  rw [hf']
  rfl
theorem lat_ok (f r : List Bool) (h : Nat) (hf1 : f.length = 2 * h) (hr : r.length = 2 * h) (hh : h ≤ 1000) : m__law_at [er f, er r] = W.ret (eb (qf f r)) := by
  have hf' : hf r = h := by unfold hf; omega
  have fl1 : flatW (compF (.nm 3) [3] (evE T__law_at (.bl true)) (evE T__law_at (.bin .Mult (.ix (.var 1) (.var 3)) (.ix (.var 1) (.bin .Add (.var 3) (.var 2))))) (opnAll [some (false, er f), some (false, er r), some (false, .int (h : Int)), none])) (intsR 0 h)
      = W.ret ((List.range h).map fun k => .int (b1 (r.getD k false && r.getD (k + h) false))) :=
    flat_rng fun k hk => compF_of (env1 := [some (er f), some (er r), some (.int (h : Int)), some (.int (k : Int))]) rfl rfl (c_binT (c_ixT rfl rfl (list_getD r (by omega))) (c_ixT rfl (c_binT rfl rfl (idx_add k h)) (list_getD r (by omega))) (mul_eb _ _))
  have fl2 : flatW (compF (.nm 3) [3] (evE T__law_at (.bl true)) (evE T__law_at (.bin .Mult (.ix (.var 0) (.var 3)) (.ix (.var 1) (.var 3)))) (opnAll [some (false, er f), some (false, er r), some (false, .int (h : Int)), none])) (intsR 0 r.length)
      = W.ret ((List.range r.length).map fun k => .int (b1 (f.getD k false && r.getD k false))) :=
    flat_rng fun k hk => compF_of (env1 := [some (er f), some (er r), some (.int (h : Int)), some (.int (k : Int))]) rfl rfl (c_binT (c_ixT rfl rfl (list_getD f (by omega))) (c_ixT rfl rfl (list_getD r (by omega))) (mul_eb _ _))
  have e1 : evE T__law_at (.bin .FloorDiv (.bi .len (.cons (.var 1) .nil)) (.int 2)) (opn [] (PV.start 4 [er f, er r])) = W.ret (.int (h : Int)) := by
    have := half_er r (T := T__law_at) (env := opn [] (PV.start 4 [er f, er r])) (i := 1) rfl
    rw [hf'] at this
    exact this
  refine e_def rfl ((e_seq (e_asg e1)).trans (e_seqR (e_ret (c_binT (c_biT (c_cons (c_binT (c_biT (c_cons (c_comp (c_rng (n := h) rfl (by rw [sizeLine_eq]; omega)) rfl fl1) c_nil) (sum_ints _ _))
    (c_biT (c_cons (c_comp (c_rng (n := r.length) (c_biT (c_cons rfl c_nil) (len_er r)) (by rw [sizeLine_eq]; omega)) rfl fl2) c_nil) (sum_ints _ _)) rfl) c_nil) (bi_int _)) rfl ?_))))
  have s1 := sum_par (xs := List.range h) (f := fun k => b1 (r.getD k false && r.getD (k + h) false)) (g := fun k => r.getD k false && r.getD (k + h) false) fun k _ => by
    cases (r.getD k false && r.getD (k + h) false) <;> rfl
  have s2 := sum_par (xs := List.range r.length) (f := fun k => b1 (f.getD k false && r.getD k false)) (g := fun k => f.getD k false && r.getD k false) fun k _ => by
    cases (f.getD k false && r.getD k false) <;> rfl
  have d1 := dot_range r r 0 h h (by omega) (by omega) (.inr (.inr trivial))
  have d2 := dot_range f r 0 0 r.length (by omega) (by omega) (.inr (.inr trivial))
  simp only [Nat.add_zero, List.drop_zero] at d1 d2
  rw [d1, List.take_of_length_le (l := r.drop h) (by rw [List.length_drop]; omega)] at s1
  rw [d2, List.take_of_length_le (l := r) (Nat.le_refl _), List.take_of_length_le (l := f) (by omega)] at s2
  rw [mod2]
  unfold qf lo hi
  rw [hf']
  congr 2
  rw [Int.add_emod, s1, s2]
  cases dot (r.take h) (r.drop h) <;> cases dot f r <;> rfl
end K75
namespace K75
open PV

/-! ### the algebra of dot -/
theorem dot_cons (a b : Bool) (x y : List Bool) : dot (a :: x) (b :: y) = ((a && b) ^^ dot x y) := rfl
theorem dot_nil (y : List Bool) : dot [] y = false := rfl
theorem dot_nil' (y : List Bool) : dot y [] = false := by cases y <;> rfl
theorem dot_comm : ∀ a b : List Bool, dot a b = dot b a
  | [], b => by rw [dot_nil, dot_nil']
  | a :: x, [] => by rw [dot_nil, dot_nil']
  | a :: x, b :: y => by rw [dot_cons, dot_cons, dot_comm x y, Bool.and_comm]
theorem xorR_cons (a b : Bool) (x y : List Bool) : xorR (a :: x) (b :: y) = (a ^^ b) :: xorR x y := rfl
theorem dot_xor : ∀ a b c : List Bool, a.length = b.length → dot (xorR a b) c = (dot a c ^^ dot b c)
  | [], [], c, _ => rfl
  | a :: x, b :: y, [], _ => by rw [dot_nil', dot_nil', dot_nil']; rfl
  | a :: x, b :: y, c :: z, h => by
    rw [xorR_cons, dot_cons, dot_cons, dot_cons, dot_xor x y z (by simpa using h)]
    cases a <;> cases b <;> cases c <;> cases dot x z <;> cases dot y z <;> rfl
theorem dot_xor' (a b c : List Bool) (h : a.length = b.length) : dot c (xorR a b) = (dot c a ^^ dot c b) := by rw [dot_comm, dot_xor a b c h, dot_comm a, dot_comm b]
theorem dot_append : ∀ a c b d : List Bool, a.length = c.length → dot (a ++ b) (c ++ d) = (dot a c ^^ dot b d)
  | [], [], b, d, _ => by rw [dot_nil]; simp
  | a :: x, c :: y, b, d, h => by
    rw [List.cons_append, List.cons_append, dot_cons, dot_cons, dot_append x y b d (by simpa using h)]
    cases (a && c) <;> cases dot x y <;> cases dot b d <;> rfl
theorem xorR_take (a b : List Bool) (h : Nat) : (xorR a b).take h = xorR (a.take h) (b.take h) := by unfold xorR; rw [List.take_zipWith]
theorem xorR_drop (a b : List Bool) (h : Nat) : (xorR a b).drop h = xorR (a.drop h) (b.drop h) := by unfold xorR; rw [List.drop_zipWith]
theorem xorR_assoc : ∀ a b c : List Bool, xorR (xorR a b) c = xorR a (xorR b c)
  | [], b, c => by unfold xorR; simp
  | a :: x, [], c => by unfold xorR; simp
  | a :: x, b :: y, [] => by unfold xorR; simp
  | a :: x, b :: y, c :: z => by rw [xorR_cons, xorR_cons, xorR_cons, xorR_cons, xorR_assoc, Bool.xor_assoc]
theorem xorR_self : ∀ a : List Bool, xorR a a = List.replicate a.length false
  | [] => rfl
  | a :: x => by rw [xorR_cons, xorR_self x, Bool.xor_self]; rfl
theorem xorR_zero : ∀ a : List Bool, xorR a (List.replicate a.length false) = a
  | [] => rfl
  | a :: x => by
    show (a ^^ false) :: xorR x (List.replicate x.length false) = _
    rw [xorR_zero x, Bool.xor_false]
theorem xorR_back (a b : List Bool) (h : a.length = b.length) : xorR (xorR a b) b = a := by
  rw [xorR_assoc, xorR_self, ← h, xorR_zero]
theorem xorR_comm : ∀ a b : List Bool, xorR a b = xorR b a
  | [], b => by unfold xorR; simp
  | a :: x, [] => by unfold xorR; simp
  | a :: x, b :: y => by rw [xorR_cons, xorR_cons, xorR_comm x y, Bool.xor_comm]
/-- f + v = g only for v = f + g -/
theorem xorR_eq {f v g : List Bool} (h1 : f.length = v.length) (h2 : f.length = g.length) : xorR f v = g ↔ v = xorR f g := by
  constructor
  · intro e
    rw [← e, ← xorR_assoc, xorR_self, xorR_comm, h1, xorR_zero]
  · intro e
    rw [e, ← xorR_assoc, xorR_self, xorR_comm, h2, xorR_zero]

section
variable {h : Nat} {f g r v : List Bool}
theorem hf_of (e : r.length = 2 * h) : hf r = h := by unfold hf; omega
theorem len2 (e : f.length = 2 * h) (e' : g.length = 2 * h) : (xorR f g).length = 2 * h := by rw [xorR_length]; omega
theorem tl (e : r.length = 2 * h) : (r.take h).length = h := by rw [List.length_take]; omega
theorem dl (e : r.length = 2 * h) : (r.drop h).length = h := by rw [List.length_drop]; omega
theorem sw_length (e : r.length = 2 * h) : (sw h r).length = 2 * h := by unfold sw; rw [List.length_append, tl e, dl e]; omega
theorem sw_take (e : r.length = 2 * h) : (sw h r).take h = r.drop h := by
  unfold sw
  have hd := dl e
  exact (List.take_append_of_le_length (by omega)).trans (List.take_of_length_le (by omega))
theorem sw_drop (e : r.length = 2 * h) : (sw h r).drop h = r.take h := by
  unfold sw
  have hd := dl e
  rw [List.drop_append_of_le_length (by omega), List.drop_of_length_le (by omega)]
  rfl
theorem sw_sw (e : r.length = 2 * h) : sw h (sw h r) = r := by
  show (sw h r).drop h ++ (sw h r).take h = r
  rw [sw_take e, sw_drop e, List.take_append_drop]
/-- a row by its halves -/
theorem dot_halves (e : f.length = 2 * h) (e' : r.length = 2 * h) : dot f r = (dot (f.take h) (r.take h) ^^ dot (f.drop h) (r.drop h)) := by
  conv => lhs; rw [← List.take_append_drop h f, ← List.take_append_drop h r]
  exact dot_append _ _ _ _ (by rw [tl e, tl e'])
theorem tw_eq (e : f.length = 2 * h) : tw f r = (dot (f.take h) (r.drop h) ^^ dot (f.drop h) (r.take h)) := by unfold tw; rw [hf_of e]
theorem dot_sw (e : f.length = 2 * h) (e' : r.length = 2 * h) : dot (sw h f) r = tw f r := by
  rw [dot_halves (sw_length e) e', sw_take e, sw_drop e, tw_eq e, Bool.xor_comm]
theorem qf_eq (e : r.length = 2 * h) : qf f r = (dot (r.take h) (r.drop h) ^^ dot f r) := by unfold qf lo hi; rw [hf_of e]
theorem kd_eq (e : f.length = 2 * h) : kd f = dot (f.take h) (f.drop h) := by unfold kd lo hi; rw [hf_of e]
theorem qf_add (ef : f.length = 2 * h) (e : r.length = 2 * h) (e' : v.length = 2 * h) : qf f (xorR r v) = (qf f r ^^ qf f v ^^ tw r v) := by
  rw [qf_eq (len2 e e'), qf_eq e, qf_eq e', tw_eq e, xorR_take, xorR_drop, dot_xor _ _ _ (by rw [tl e, tl e']), dot_xor' _ _ _ (by rw [dl e, dl e']), dot_xor' _ _ _ (by rw [dl e, dl e']), dot_xor' _ _ _ (by omega), dot_comm (v.take h) (r.drop h)]
  cases dot (r.take h) (r.drop h) <;> cases dot (r.take h) (v.drop h) <;> cases dot (r.drop h) (v.take h) <;> cases dot (v.take h) (v.drop h) <;> cases dot f r <;> cases dot f v <;> rfl
theorem tw_comm (e : r.length = 2 * h) (e' : v.length = 2 * h) : tw r v = tw v r := by
  rw [tw_eq e, tw_eq e', dot_comm (v.take h), dot_comm (v.drop h), Bool.xor_comm]
theorem tw_self (e : r.length = 2 * h) : tw r r = false := by
  rw [tw_eq e, dot_comm (r.drop h), Bool.xor_self]
theorem qf_form (ef : f.length = 2 * h) (eg : g.length = 2 * h) : qf (xorR f g) r = (qf f r ^^ dot g r) := by
  unfold qf
  rw [dot_xor _ _ _ (by omega)]
  cases dot (lo r) (hi r) <;> cases dot f r <;> cases dot g r <;> rfl
theorem qf_sum (ef : f.length = 2 * h) (eg : g.length = 2 * h) : (qf f r ^^ qf g r) = dot (xorR f g) r := by
  unfold qf
  rw [dot_xor _ _ _ (by omega)]
  cases dot (lo r) (hi r) <;> cases dot f r <;> cases dot g r <;> rfl
theorem mv_length (ef : f.length = 2 * h) (ev : v.length = 2 * h) : (mv f v).length = 2 * h := by
  unfold mv
  split
  · exact ef
  · rw [hf_of ef]; exact len2 ef (sw_length ev)
theorem bt_length (er : r.length = 2 * h) (ev : v.length = 2 * h) : (bt v r).length = 2 * h := by
  unfold bt
  split
  · exact len2 er ev
  · exact er
/-- the moved form has at turned rows what the form has -/
theorem moved_at (ef : f.length = 2 * h) (ev : v.length = 2 * h) (er : r.length = 2 * h) : qf (mv f v) (bt v r) = qf f r := by
  have hs := dot_sw ev er
  have key : ∀ x : List Bool, x.length = 2 * h → qf (mv f v) x = (qf f x ^^ (!qf f v && tw v x)) := by
    intro x ex
    unfold mv
    cases e : qf f v with
    | true => rw [if_pos rfl]; simp
    | false => rw [if_neg (by decide), hf_of ef, qf_form ef (sw_length ev), dot_sw ev ex]; simp
  unfold bt
  cases e : tw v r with
  | true =>
    rw [if_pos rfl, key _ (len2 er ev), qf_add ef er ev]
    have h1 : tw v (xorR r v) = true := by
      rw [← dot_sw ev (len2 er ev), dot_xor' _ _ _ (by omega), hs, e, dot_sw ev ev, tw_self ev]; rfl
    rw [h1, tw_comm er ev, e]
    cases qf f r <;> cases qf f v <;> rfl
  | false =>
    rw [if_neg (by decide), key _ er, e]
    cases qf f r <;> cases qf f v <;> rfl
/-- its kind -/
theorem kd_sw (ef : f.length = 2 * h) (ev : v.length = 2 * h) : kd (xorR f (sw h v)) = (kd f ^^ qf f v) := by
  rw [kd_eq (len2 ef (sw_length ev)), kd_eq ef, qf_eq ev, xorR_take, xorR_drop, sw_take ev, sw_drop ev, dot_xor _ _ _ (by rw [tl ef, dl ev]), dot_xor' _ _ _ (by rw [dl ef, tl ev]), dot_xor' _ _ _ (by rw [dl ef, tl ev]), dot_halves ef ev, dot_comm (v.drop h) (f.drop h), dot_comm (v.drop h) (v.take h)]
  cases dot (f.take h) (f.drop h) <;> cases dot (f.take h) (v.take h) <;> cases dot (f.drop h) (v.drop h) <;> cases dot (v.take h) (v.drop h) <;> rfl
theorem kd_moved (ef : f.length = 2 * h) (ev : v.length = 2 * h) : kd (mv f v) = kd f := by
  unfold mv
  cases e : qf f v with
  | true => rw [if_pos rfl]
  | false =>
    rw [if_neg (by decide), hf_of ef, kd_sw ef ev, e]
    simp
theorem zero_iff : ∀ r : List Bool, true ∉ r ↔ r = List.replicate r.length false
  | [] => by simp
  | b :: r => by
    have ih := zero_iff r
    rw [List.length_cons, List.replicate_succ, List.cons.injEq, ← ih, List.mem_cons, not_or]
    cases b <;> simp
theorem qf_zero (ef : f.length = 2 * h) : qf f (List.replicate (2 * h) false) = false := by
  have d0 : ∀ (x : List Bool) (n : Nat), dot x (List.replicate n false) = false := by
    intro x
    induction x with
    | nil => intro n; rfl
    | cons a x ih =>
      intro n
      cases n with
      | zero => exact dot_nil' _
      | succ n => rw [List.replicate_succ, dot_cons, ih]; simp
  unfold qf hi
  rw [d0, List.drop_replicate, d0]
  rfl
/-- it is the form itself only if .. -/
theorem moved_same (ef : f.length = 2 * h) (ev : v.length = 2 * h) : (mv f v = f) ↔ (qf f v = true ∨ true ∉ v) := by
  unfold mv
  cases e : qf f v with
  | true => rw [if_pos rfl]; simp
  | false =>
    rw [if_neg (by decide), hf_of ef, xorR_eq (by rw [sw_length ev, ef]) rfl, xorR_self, zero_iff, ef, ev]
    constructor
    · intro z
      refine .inr ?_
      have := congrArg (sw h) z
      rw [sw_sw ev] at this
      rw [this]
      unfold sw
      rw [List.drop_replicate, List.take_replicate, List.replicate_append_replicate]
      congr 1
      omega
    · rintro (z | z)
      · cases z
      · rw [z]
        unfold sw
        rw [List.drop_replicate, List.take_replicate, List.replicate_append_replicate]
        congr 1
        omega
theorem cf_length (ef : f.length = 2 * h) (eg : g.length = 2 * h) : (cf f g).length = 2 * h := by
  unfold cf
  rw [hf_of ef]
  exact sw_length (len2 ef eg)
theorem cf_tw (ef : f.length = 2 * h) (eg : g.length = 2 * h) (er : r.length = 2 * h) : tw (cf f g) r = (qf f r ^^ qf g r) := by
  rw [qf_sum ef eg, ← dot_sw (cf_length ef eg) er]
  unfold cf
  rw [hf_of ef, sw_sw (len2 ef eg)]
theorem mv_cf (ef : f.length = 2 * h) (eg : g.length = 2 * h) : (mv f (cf f g) = g) ↔ (qf f (cf f g) = false ∨ f = g) := by
  have hs : sw h (cf f g) = xorR f g := by
    unfold cf
    rw [hf_of ef, sw_sw (len2 ef eg)]
  unfold mv
  cases e : qf f (cf f g) with
  | true => rw [if_pos rfl]; simp
  | false =>
    rw [if_neg (by decide), hf_of ef, hs, xorR_eq (by rw [len2 ef eg, ef]) (by omega)]
    simp
theorem kd_cf (ef : f.length = 2 * h) (eg : g.length = 2 * h) : kd g = (kd f ^^ qf f (cf f g)) := by
  have hs : sw h (cf f g) = xorR f g := by
    unfold cf
    rw [hf_of ef, sw_sw (len2 ef eg)]
  rw [← kd_sw ef (cf_length ef eg), hs]
  congr 1
  exact ((xorR_eq (by rw [len2 ef eg, ef]) (by omega)).mpr rfl).symm
end

/-! ### zeros counted -/
def sg (b : Bool) : Int := if b then -1 else 1
def sm (rs : List (List Bool)) (F : List Bool → Int) : Int := (rs.map F).sum
theorem sm_append (a b : List (List Bool)) (F : List Bool → Int) : sm (a ++ b) F = sm a F + sm b F := by unfold sm; rw [List.map_append, List.sum_append]
theorem sm_map (g : List Bool → List Bool) (a : List (List Bool)) (F : List Bool → Int) : sm (a.map g) F = sm a fun x => F (g x) := by unfold sm; rw [List.map_map]; rfl
theorem sm_mul (c : Int) (F : List Bool → Int) : ∀ a : List (List Bool), sm a (fun x => c * F x) = c * sm a F
  | [] => by simp [sm]
  | x :: a => by
    have := sm_mul c F a
    unfold sm at this ⊢
    rw [List.map_cons, List.sum_cons, this, List.map_cons, List.sum_cons, Int.mul_add]
theorem sm_add (F G : List Bool → Int) : ∀ a : List (List Bool), sm a (fun x => F x + G x) = sm a F + sm a G
  | [] => by simp [sm]
  | x :: a => by
    have := sm_add F G a
    unfold sm at this ⊢
    rw [List.map_cons, List.sum_cons, this, List.map_cons, List.sum_cons, List.map_cons, List.sum_cons]
    omega
theorem sm_congr {F G : List Bool → Int} {a : List (List Bool)} (h : ∀ x ∈ a, F x = G x) : sm a F = sm a G := by unfold sm; rw [List.map_congr_left h]
theorem allR_add (a : Nat) : ∀ b : Nat, allR (a + b) = (allR a).flatMap fun x => (allR b).map (x ++ ·)
  | 0 => by
    show allR a = (allR a).flatMap fun x => [x ++ []]
    induction allR a with
    | nil => rfl
    | cons x xs ih => rw [List.flatMap_cons, ← ih, List.append_nil]; rfl
  | b + 1 => by
    show (allR (a + b)).flatMap ext = _
    rw [allR_add a b, List.flatMap_assoc]
    congr 1
    funext x
    show ((allR b).map (x ++ ·)).flatMap ext = ((allR b).flatMap ext).map (x ++ ·)
    rw [List.flatMap_map, List.map_flatMap]
    congr 1
    funext y
    unfold ext
    simp
theorem allR_succ (n : Nat) : allR (n + 1) = (allR n).map (false :: ·) ++ (allR n).map (true :: ·) := by
  rw [Nat.add_comm, allR_add 1 n]
  show (([[]] : List (List Bool)).flatMap ext).flatMap _ = _
  simp [ext]
theorem sm_succ (n : Nat) (F : List Bool → Int) : sm (allR (n + 1)) F = sm (allR n) (fun x => F (false :: x)) + sm (allR n) (fun x => F (true :: x)) := by
  rw [allR_succ, sm_append, sm_map, sm_map]
theorem sm_flat (G : List Bool → List (List Bool)) (F : List Bool → Int) : ∀ a : List (List Bool), sm (a.flatMap G) F = sm a fun x => sm (G x) F
  | [] => rfl
  | x :: a => by
    have := sm_flat G F a
    rw [List.flatMap_cons, sm_append, this]
    unfold sm
    rw [List.map_cons, List.sum_cons]
theorem sg_xor (a b : Bool) : sg (a ^^ b) = sg a * sg b := by cases a <;> cases b <;> rfl
/-- the sum over both halves -/
theorem two_sum : ∀ p q : List Bool, p.length = q.length → (sm (allR p.length) fun x => sm (allR p.length) fun z => sg (dot x z ^^ dot p x ^^ dot q z)) = sg (dot p q) * 2 ^ p.length
  | [], [], _ => by rfl
  | b :: p, c :: q, h => by
    have ih := two_sum p q (by simpa using h)
    rw [List.length_cons]
    have e : ∀ (s t : Bool) (x z : List Bool), sg (dot (s :: x) (t :: z) ^^ dot (b :: p) (s :: x) ^^ dot (c :: q) (t :: z)) = sg ((s && t) ^^ (b && s) ^^ (c && t)) * sg (dot x z ^^ dot p x ^^ dot q z) := by
      intro s t x z
      rw [← sg_xor, dot_cons, dot_cons, dot_cons]
      congr 1
      cases (s && t) <;> cases (b && s) <;> cases (c && t) <;> cases dot x z <;> cases dot p x <;> cases dot q z <;> rfl
    have inner : ∀ (s : Bool) (x : List Bool), (sm (allR (p.length + 1)) fun z => sg (dot (s :: x) z ^^ dot (b :: p) (s :: x) ^^ dot (c :: q) z)) = (sg ((s && false) ^^ (b && s) ^^ (c && false)) + sg ((s && true) ^^ (b && s) ^^ (c && true))) * sm (allR p.length) fun z => sg (dot x z ^^ dot p x ^^ dot q z) := by
      intro s x
      rw [sm_succ, sm_congr (fun z _ => e s false x z), sm_congr (fun z _ => e s true x z), sm_mul, sm_mul, Int.add_mul]
    have er : sg ((b && c) ^^ dot p q) * (2 ^ p.length * 2) = sg (b && c) * (sg (dot p q) * 2 ^ p.length) * 2 := by rw [sg_xor]; simp only [Int.mul_assoc]
    rw [sm_succ, sm_congr (fun x _ => inner false x), sm_congr (fun x _ => inner true x), sm_mul, sm_mul, ih, dot_cons, Int.pow_succ, er]
    generalize sg (dot p q) * (2 : Int) ^ p.length = u
    cases b <;> cases c <;> simp [sg] <;> omega
theorem sg_sum (f : List Bool) (h : Nat) (ef : f.length = 2 * h) : (sm (allR (2 * h)) fun r => sg (qf f r)) = sg (kd f) * 2 ^ h := by
  have e2 : 2 * h = h + h := by omega
  have h1 := two_sum (f.take h) (f.drop h) (by rw [tl ef, dl ef])
  rw [tl ef] at h1
  rw [kd_eq ef, ← h1, e2, allR_add, sm_flat]
  refine sm_congr fun x hx => ?_
  rw [sm_map]
  refine sm_congr fun z hz => ?_
  have lx := allR_mem.mp hx
  have lz := allR_mem.mp hz
  have er : (x ++ z).length = 2 * h := by rw [List.length_append]; omega
  have t1 : (x ++ z).take h = x := by rw [← lx]; simp
  have t2 : (x ++ z).drop h = z := by rw [← lx]; simp
  rw [qf_eq er, t1, t2, dot_halves ef er, t1, t2]
  congr 1
  cases dot x z <;> cases dot (f.take h) x <;> cases dot (f.drop h) z <;> rfl
theorem count_sg (g : List Bool → Bool) : ∀ a : List (List Bool), 2 * ((a.filter fun r => !g r).length : Int) = a.length + sm a fun r => sg (g r)
  | [] => rfl
  | x :: a => by
    have := count_sg g a
    rw [List.filter_cons]
    unfold sm at this ⊢
    rw [List.map_cons, List.sum_cons, List.length_cons]
    cases e : g x <;> simp [sg] at this ⊢ <;> omega
theorem zeros_count (f : List Bool) (h : Nat) (ef : f.length = 2 * h) (h1 : 1 ≤ h) (h4 : h ≤ 4) : (((allR (2 * h)).filter fun r => !qf f r).length : Int) = 2 ^ (h - 1) * (2 ^ h + sg (kd f)) := by
  have e := count_sg (qf f) (allR (2 * h))
  rw [sg_sum f h ef, allR_length] at e
  have : h = 1 ∨ h = 2 ∨ h = 3 ∨ h = 4 := by omega
  cases hk : kd f <;> rw [hk] at e <;> rcases this with rfl | rfl | rfl | rfl <;> simp [sg] at e ⊢ <;> omega
theorem kinds_count (h : Nat) (h1 : 1 ≤ h) (h4 : h ≤ 4) : (((allR (2 * h)).filter fun r => !kd r).length : Int) = 2 ^ (h - 1) * (2 ^ h + 1) := by
  have ef : (List.replicate (2 * h) false).length = 2 * h := List.length_replicate
  have e := zeros_count (List.replicate (2 * h) false) h ef h1 h4
  have k0 : kd (List.replicate (2 * h) false) = false := by
    have := qf_zero (f := List.replicate (2 * h) false) (h := h) ef
    have d0 : ∀ (x : List Bool) (n : Nat), dot (List.replicate n false) x = false := by
      intro x
      induction x with
      | nil => intro n; exact dot_nil' _
      | cons a x ih =>
        intro n
        cases n with
        | zero => rfl
        | succ n => rw [List.replicate_succ, dot_cons, ih]; simp
    unfold kd lo
    rw [List.take_replicate, d0]
  rw [k0] at e
  rw [← show sg false = 1 from rfl, ← e]
  congr 2
  refine List.filter_congr fun r hr => ?_
  have er := allR_mem.mp hr
  have d0 : ∀ (x : List Bool) (n : Nat), dot (List.replicate n false) x = false := by
    intro x
    induction x with
    | nil => intro n; exact dot_nil' _
    | cons a x ih =>
      intro n
      cases n with
      | zero => rfl
      | succ n => rw [List.replicate_succ, dot_cons, ih]; simp
  rw [kd_eq er, qf_eq er, d0, Bool.xor_false]
end K75
namespace K75
open PySem PV

theorem same_eq : ∀ n : Nat, m__law_same n = m_same n
  | 0 => rfl
  | n + 1 => by
    have := same_eq n
    unfold m__law_same m_same
    rw [this]
    rfl
theorem same_ok {d : D} (h : Dat 3 d) : m__law_same 12 [d, d] = W.ret (.bl true) := by
  rw [same_eq]
  exact same_refl (h.succ.succ.succ.succ.succ.succ.succ.succ)
theorem st_asgP {T : Tab} {i : Nat} {c : CE} {env : SEnv} {w : W D} {Q : Except Exn Fl → Prop} (h : evE T c (opn [] env) = w) (q : W.bind w (fun d => W.ret (.nx (env.set i (some (false, d))))) Q) : evS T (.asg i c []) env Q := by
  show W.bind (evE T c (opn [] env)) _ Q
  rw [h]
  have e : ∀ d, (keepF [] (noL d) env) = env := fun d => by
    unfold keepF
    rw [if_pos (.inl rfl)]
  simp only [e]
  exact q
theorem v_opn {T : Tab} {fz : List Nat} {env : SEnv} {i : Nat} {d : D} (h : env[i]? = some (some (false, d))) : evE T (.var i) (opn fz env) = W.ret d := by
  have e : (opn fz env)[i]? = some (some d) := by
    unfold opn
    rw [List.getElem?_mapIdx, h]; rfl
  unfold evE getV
  rw [e]
theorem v_all {T : Tab} {env : SEnv} {i : Nat} {d : D} {b : Bool} (h : env[i]? = some (some (b, d))) : evE T (.var i) (opnAll env) = W.ret d := by
  have e : (opnAll env)[i]? = some (some d) := by
    unfold opnAll
    rw [List.getElem?_map, h]; rfl
  unfold evE getV
  rw [e]
theorem v_ne {T : Tab} {env : PV.Env} {i j : Nat} {d : D} {x : Option D} (h : evE T (.var i) env = W.ret d) (hij : j ≠ i := by decide) : evE T (.var i) ((env.set j none).set j x) = W.ret d := by
  unfold evE getV at *
  rw [List.getElem?_set_ne hij, List.getElem?_set_ne hij]
  exact h
theorem v_eq {T : Tab} {env : PV.Env} {j : Nat} {d : D} (hl : j < env.length) : evE T (.var j) ((env.set j none).set j (some d)) = W.ret d := by
  unfold evE getV
  rw [List.getElem?_set_self (by rw [List.length_set]; exact hl)]
abbrev S (d : D) : Option (Bool × D) := some (false, d)
def LE (half wide rows form other one two told row kind k zeros value more kinds moved : Option (Bool × D)) : SEnv :=
  [none, S .tape, half, wide, rows, form, other, one, two, told, row, kind, k, zeros, value, more, kinds, moved]
def Win : Except Exn Fl → Prop := fun r => r = .ok (.rt (.bl true))
abbrev dr : CE := .ix (.var 4) (.call 10 (.cons (.var 1) (.cons (.bi .len (.cons (.var 4) .nil)) .nil)))
theorem dr_eq {env : PV.Env} {rs : List (List Bool)} (h1 : evE T_law (.var 1) env = W.ret .tape) (h4 : evE T_law (.var 4) env = W.ret (ers rs)) : evE T_law dr env = W.bind (pick (rs.length : Int)) fun d => ixD (ers rs) d := by
  have e : evE T_law (.call 10 (.cons (.var 1) (.cons (.bi .len (.cons (.var 4) .nil)) .nil))) env = pick (rs.length : Int) := by
    rw [c_call (ds := [.tape, .int (rs.length : Int)]) (c_cons h1 (c_cons ((c_bi (c_cons h4 c_nil)).trans ((len_lst _).trans (by rw [List.length_map]))) c_nil))]
    rfl
  show W.bind (evE T_law (.var 4) env) (fun x => W.bind (evE T_law (.call 10 (.cons (.var 1) (.cons (.bi .len (.cons (.var 4) .nil)) .nil))) env) fun y => ixD x y) = _
  rw [h4, W.ret_bind, e]
theorem ev_cons {T : Tab} {a b : CE} {env : PV.Env} : evE T (.cons a b) env = W.bind (evE T a env) fun x => W.bind (evE T b env) fun r => W.bind (itemsD r) fun ds => W.ret (.tup (x :: ds)) := rfl
theorem ev_tup {T : Tab} {a : CE} {env : PV.Env} : evE T (.tup a) env = evE T a env := rfl
theorem items_tup (ds : List D) : itemsD (.tup ds) = W.ret ds := rfl
theorem bind_two {i j : Nat} {x y : D} {env : SEnv} : bindTS (.tp [i, j]) (.tup [x, y]) env = W.ret ((env.set i (S x)).set j (S y)) := rfl
theorem st_unpP {T : Tab} {is : List Nat} {c : CE} {env : SEnv} {w : W D} {Q : Except Exn Fl → Prop} (h : evE T c (opn [] env) = w) (q : W.bind w (fun d => W.bind (bindTS (.tp is) d env) fun e => W.ret (.nx e)) Q) : evS T (.unp is c []) env Q := by
  show W.bind (evE T c (opn [] env)) _ Q
  rw [h]
  have e : ∀ d, (keepF [] (noL d) env) = env := fun d => by
    unfold keepF
    rw [if_pos (.inl rfl)]
  simp only [e]
  exact q
theorem two_rows {i j : Nat} {env : SEnv} {rs : List (List Bool)} {Q : Except Exn Fl → Prop} (h1 : evE T_law (.var 1) (opn [] env) = W.ret .tape) (h4 : evE T_law (.var 4) (opn [] env) = W.ret (ers rs)) (n0 : 0 < rs.length) (n1 : rs.length < 1073741824)
    (h : ∀ a b, a ∈ rs → b ∈ rs → Q (.ok (.nx ((env.set i (S (er a))).set j (S (er b)))))) : evS T_law (.unp [i, j] (.tup (.cons dr (.cons dr .nil))) []) env Q := by
  have e : evE T_law (.tup (.cons dr (.cons dr .nil))) (opn [] env) = W.bind (pick (rs.length : Int)) fun d => W.bind (ixD (ers rs) d) fun x => W.bind (pick (rs.length : Int)) fun d2 => W.bind (ixD (ers rs) d2) fun y => W.ret (.tup [x, y]) := by
    rw [ev_tup, ev_cons, ev_cons, c_nil, dr_eq h1 h4]
    simp only [W.bind_assoc, W.ret_bind, items_tup]
  refine st_unpP e ?_
  simp only [W.bind_assoc, W.ret_bind, bind_two]
  refine draw n0 n1 fun k hk => ?_
  have i1 : ixD (ers rs) (.int (k : Int)) = W.ret (er rs[k]) := ix_lst er rs k hk
  rw [i1, W.ret_bind]
  refine draw n0 n1 fun k2 hk2 => ?_
  have i2 : ixD (ers rs) (.int (k2 : Int)) = W.ret (er rs[k2]) := ix_lst er rs k2 hk2
  rw [i2, W.ret_bind]
  exact h _ _ (List.getElem_mem hk) (List.getElem_mem hk2)
/-- rows walked, a bit for each -/
theorem LE_length {a b c d e f g h i j k l m n o p : Option (Bool × D)} {x : Nat} (hx : x < 18 := by decide) : x < (opnAll (LE a b c d e f g h i j k l m n o p)).length := by
  unfold opnAll LE
  rw [List.length_map]
  exact hx
theorem comp_bits {T : Tab} {env : PV.Env} {rs : List (List Bool)} {c : CE} {g : List Bool → Bool} (hl : env.length = 18) (h4 : evE T (.var 4) env = W.ret (ers rs)) (h : ∀ r ∈ rs, evE T c ((env.set 10 none).set 10 (some (er r))) = W.ret (eb (g r))) :
    evE T (.comp [10] (.nm 10) (.var 4) (.bl true) c) env = W.ret (.lst ((rs.map g).map eb)) := by
  refine c_comp h4 rfl ?_
  rw [List.map_map]
  exact flatW_map fun r hr => compF_of rfl rfl (h r hr)
theorem dat_bits {n : Nat} {bs : List Bool} (h : bs.length ≤ 1000000) : Dat (n + 1) (.lst (bs.map eb)) := .lsts h fun _ _ => .eb _
theorem ne_refl {k : Nat} {x y : D} (hx : Pl k x) (hy : Pl k y) (hk : k ≤ 64) (h : eqv x y = true) : cmpD .NotEq x y = W.ret (.bl false) := by
  rw [cmp_ne hx hy hk, h]; rfl
theorem eqv_bb (a b : Bool) : eqv (.bl a) (.bl b) = decide (a = b) := eqv_bl a b
end K75
namespace K75
open PySem PV

/-- sealed: the elaborator shall not run the law -/
structure Ev (T : Tab) (c : CS) (env : SEnv) (Q : Except Exn Fl → Prop) : Prop where
  h : evS T c env Q
def Cont (T : Tab) (b : CS) (Q : Except Exn Fl → Prop) : Except Exn Fl → Prop := fun r => match r with
  | .ok (.nx e) => Ev T b e Q
  | r => Q r
section
variable {T : Tab} {i : Nat} {c : CE} {env e' : SEnv} {d : D} {a b : CS} {Q : Except Exn Fl → Prop}
theorem seqC (h : evS T a env (Cont T b Q)) : Ev T (.seq a b) env Q := ⟨by
  refine st_seq ((congrArg (evS T a env) (funext fun r => ?_)).mp h)
  cases r with
  | error e => rfl
  | ok a => cases a <;> first | rfl | exact propext ⟨fun z => z.h, fun z => ⟨z⟩⟩⟩
theorem s_asg (h : evE T c (opn [] env) = W.ret d) (he : env.set i (S d) = e') (q : Ev T b e' Q) : Ev T (.seq (.asg i c []) b) env Q := seqC (st_asg h (by rw [he]; exact q))
theorem s_no (h : evE T c (opnAll env) = W.ret (.bl false)) (q : Ev T b env Q) : Ev T (.seq (.ite c a .nil) b) env Q := seqC (st_no h q)
theorem s_ite {x : Bool} (h : evE T c (opnAll env) = W.ret (.bl x)) (q1 : x = true → Ev T a env (Cont T b Q)) (q2 : x = false → Ev T b env Q) : Ev T (.seq (.ite c a .nil) b) env Q := by
  refine seqC (st_ite h ?_)
  cases x with
  | true => rw [if_pos rfl]; exact (q1 rfl).h
  | false => rw [if_neg (by decide)]; exact q2 rfl
theorem s_ret (h : evE T c (opnAll env) = W.ret d) (q : Q (.ok (.rt d))) : Ev T (.seq (.ret c) b) env Q := seqC (st_ret h q)
theorem s_nil (q : Ev T b env Q) : Ev T .nil env (Cont T b Q) := ⟨q⟩
theorem s_draw {n : Nat} {f : D → W D} (h : evE T c (opn [] env) = W.bind (pick (n : Int)) f) (n0 : 0 < n) (n1 : n < 1073741824) (q : ∀ k, k < n → ∃ d, f (.int (k : Int)) = W.ret d ∧ Ev T b (env.set i (S d)) Q) : Ev T (.seq (.asg i c []) b) env Q := by
  refine seqC (st_asgP h ?_)
  rw [W.bind_assoc]
  refine draw n0 n1 fun k hk => ?_
  obtain ⟨d, e, q⟩ := q k hk
  rw [e, W.ret_bind]
  exact q
end
theorem s_two {i j : Nat} {env : SEnv} {rs : List (List Bool)} {b : CS} {Q : Except Exn Fl → Prop} (h1 : evE T_law (.var 1) (opn [] env) = W.ret .tape) (h4 : evE T_law (.var 4) (opn [] env) = W.ret (ers rs)) (n0 : 0 < rs.length) (n1 : rs.length < 1073741824)
    (h : ∀ x y, x ∈ rs → y ∈ rs → Ev T_law b ((env.set i (S (er x))).set j (S (er y))) Q) : Ev T_law (.seq (.unp [i, j] (.tup (.cons dr (.cons dr .nil))) []) b) env Q :=
  seqC (two_rows h1 h4 n0 n1 fun x y hx hy => h x y hx hy)
theorem mul2 (h : Nat) : binD .Mult (.int 2) (.int (h : Int)) = W.ret (.int ((2 * h : Nat) : Int)) := by
  show (if mulOk 2 (h : Int) = true then W.ret (D.int (2 * (h : Int))) else W.fail) = _
  rw [if_pos (by unfold mulOk; simp)]
  rfl
theorem shl1 (k : Nat) (hk : k ≤ 100) : binD .LShift (.int 1) (.int (k : Int)) = W.ret (.int (2 ^ k)) := by
  show (if powOk 1 (k : Int) = true then W.ret (D.int (1 * 2 ^ (k : Int).toNat)) else W.fail) = _
  rw [if_pos (by unfold powOk; simp; omega), Int.toNat_natCast, Int.one_mul]
theorem mulI (a b : Int) (h : -1000000 < a ∧ a < 1000000) : binD .Mult (.int a) (.int b) = W.ret (.int (a * b)) := by
  show (if mulOk a b = true then W.ret (D.int (a * b)) else W.fail) = _
  rw [if_pos (by unfold mulOk; simp; omega)]
theorem subI (a b : Int) : binD .Sub (.int a) (.int b) = W.ret (.int (a - b)) := rfl
theorem addI (a b : Int) : binD .Add (.int a) (.int b) = W.ret (.int (a + b)) := rfl
theorem pow_int (k : Nat) (hk : k ≤ 4) : (0 : Int) < 2 ^ k ∧ (2 : Int) ^ k ≤ 16 := by
  have : k = 0 ∨ k = 1 ∨ k = 2 ∨ k = 3 ∨ k = 4 := by omega
  rcases this with rfl | rfl | rfl | rfl | rfl <;> decide
theorem filter_bits (bs : List Bool) {T : Tab} {env : PV.Env} {v j : Nat} (hv : evE T (.var v) env = W.ret (.lst (bs.map eb))) (hj : j < env.length) :
    evE T (.bi .len (.cons (.comp [j] (.nm j) (.var v) (.cmp .Eq (.var j) (.int 0)) (.var j)) .nil)) env = W.ret (.int ((bs.filter fun b => !b).length : Nat)) := by
  have hg : ∀ b : Bool, evE T (.var j) ((env.set j none).set j (some (eb b))) = W.ret (eb b) := fun b => by
    have e : ((env.set j none).set j (some (eb b)))[j]? = some (some (eb b)) := by
      rw [List.getElem?_set_self (by rw [List.length_set]; exact hj)]
    unfold evE getV
    rw [e]
  refine c_biT (c_cons (c_comp hv rfl (flatW_filter (p := fun b => !b) (g := eb) fun b _ => compF_if (env1 := (env.set j none).set j (some (eb b))) rfl (c_cmpT (hg b) rfl (is_zero b)) fun _ => hg b)) c_nil) ?_
  rw [len_lst, List.length_map]
theorem no_comp {T : Tab} {env : PV.Env} {rs : List (List Bool)} {c : CE} (h4 : evE T (.var 4) env = W.ret (ers rs)) (h : ∀ r ∈ rs, evE T c ((env.set 10 none).set 10 (some (er r))) = W.ret (.bl false)) :
    evE T (.cmp .NotEq (.comp [10] (.nm 10) (.var 4) c (.var 10)) (.lst .nil)) env = W.ret (.bl false) := by
  have hf : flatW (compF (.nm 10) [10] (evE T c) (evE T (.var 10)) env) (rs.map er) = W.ret [] := flatW_nil fun x hx => by
    obtain ⟨r, hr, rfl⟩ := List.mem_map.mp hx
    exact (compF_if (b := false) (y := .non) rfl (h r hr) fun z => nomatch z).trans rfl
  exact c_cmpT (c_comp h4 rfl hf) rfl (ne_refl (k := 1) (.lst .nil) (.lst .nil) (by decide) rfl)
theorem no_compR {T : Tab} {env : PV.Env} {n : Nat} {it c : CE} (hi : evE T it env = W.ret (.lst (intsR 0 n))) (h : ∀ k, k < n → evE T c ((env.set 12 none).set 12 (some (.int (k : Int)))) = W.ret (.bl false)) :
    evE T (.cmp .NotEq (.comp [12] (.nm 12) it c (.var 12)) (.lst .nil)) env = W.ret (.bl false) := by
  have hf : flatW (compF (.nm 12) [12] (evE T c) (evE T (.var 12)) env) (intsR 0 n) = W.ret [] := flatW_nil fun x hx => by
    unfold intsR at hx
    obtain ⟨k, hk, rfl⟩ := List.mem_map.mp hx
    have hk := List.mem_range.mp hk
    have e : (0 : Int) + (k : Nat) = (k : Int) := by omega
    rw [e]
    exact (compF_if (b := false) (y := .non) rfl (h k hk) fun z => nomatch z).trans rfl
  exact c_cmpT (c_comp hi rfl hf) rfl (ne_refl (k := 1) (.lst .nil) (.lst .nil) (by decide) rfl)
theorem cmp_bb {T : Tab} {x y : CE} {env : PV.Env} {p q : Bool} (h1 : evE T x env = W.ret (.bl p)) (h2 : evE T y env = W.ret (.bl q)) (h : p = q) : evE T (.cmp .NotEq x y) env = W.ret (.bl false) :=
  c_cmpT h1 h2 (ne_refl (k := 0) (.bl _) (.bl _) (by decide) (by rw [h, eqv_bl]; simp))
theorem ne_eb (a b : Bool) : cmpD .NotEq (eb a) (eb b) = W.ret (.bl (a ^^ b)) := by
  rw [cmp_ne (k := 0) (.eb a) (.eb b) (by decide), eqv_eb]
  cases a <;> cases b <;> rfl
theorem eq_er (a b : List Bool) : cmpD .Eq (er a) (er b) = W.ret (.bl (decide (a = b))) := by
  rw [cmp_eq (k := 1) (.er a) (.er b) (by decide), eqv_er]
end K75
namespace K75
open PySem PV

theorem ne_self (a : Bool) : cmpD .NotEq (eb a) (eb a) = W.ret (.bl false) := by rw [ne_eb, Bool.xor_self]
theorem eq_eb (a b : Bool) : cmpD .Eq (eb a) (eb b) = W.ret (.bl (decide (a = b))) := by rw [cmp_eq (k := 0) (.eb a) (.eb b) (by decide), eqv_eb]
theorem sum3 (a b c : Bool) : (b1 a + b1 b + b1 c) % 2 = b1 (a ^^ b ^^ c) := by cases a <;> cases b <;> cases c <;> rfl
theorem ev_bin {T : Tab} {o : Operator} {x y : CE} {env : PV.Env} : evE T (.bin o x y) env = W.bind (evE T x env) fun v => W.bind (evE T y env) fun w => binD o v w := rfl
theorem half_eq : evE T_law (.bin .Add (.int 1) (.call 10 (.cons (.var 1) (.cons (.int 4) .nil)))) (opn [] (env0 18)) = W.bind (pick ((4 : Nat) : Int)) fun d => binD .Add (.int 1) d := by
  have e : evE T_law (.call 10 (.cons (.var 1) (.cons (.int 4) .nil))) (opn [] (env0 18)) = pick ((4 : Nat) : Int) := by
    rw [c_call (ds := [.tape, .int 4]) (c_cons rfl (c_cons rfl c_nil))]
    rfl
  have e1 : evE T_law (.int 1) (opn [] (env0 18)) = W.ret (.int 1) := rfl
  rw [ev_bin, e1, e, W.ret_bind]
theorem one_in (u : List Bool) : cmpD .NotIn (.int 1) (er u) = W.ret (.bl (decide (true ∉ u))) := by
  show W.bind (memD (.int 1) (u.map eb)) _ = _
  rw [memD_of (k := 0) (.int 1) (.map fun _ _ => .eb _) (by decide), W.ret_bind]
  congr 2
  rw [List.any_map]
  have e : (fun z : D => eqv z (.int 1)) ∘ eb = fun b => b := by
    funext b
    cases b <;> rfl
  rw [e]
  induction u with
  | nil => rfl
  | cons b u ih =>
    rw [List.any_cons, Bool.not_or, ih]
    cases b <;> simp
section
variable {h : Nat} {f g u v : List Bool}
theorem law_tail (h1 : 1 ≤ h) (h4 : h ≤ 4) (ef : f.length = 2 * h) (eg : g.length = 2 * h) (eu : u.length = 2 * h) (kk half wide two k zeros value more : Option (Bool × D)) :
    Ev T_law
    (.seq (.asg 17 (.call 2 (.cons (.var 5) (.cons (.var 7) .nil))) [])
    (.seq (.ite (.or (.cmp .NotEq (.comp [10] (.nm 10) (.var 4) (.cmp .NotEq (.call 1 (.cons (.var 17) (.cons (.call 5 (.cons (.var 7) (.cons (.var 10) .nil))) .nil))) (.call 1 (.cons (.var 5) (.cons (.var 10) .nil)))) (.var 10)) (.lst .nil)) (.cmp .NotEq (.call 0 (.cons (.var 17) .nil)) (.var 11))) (.seq (.ret (.bl false)) .nil) .nil)
    (.seq (.ite (.cmp .NotEq (.cmp .Eq (.var 17) (.var 5)) (.or (.cmp .Eq (.call 1 (.cons (.var 5) (.cons (.var 7) .nil))) (.int 1)) (.cmp .NotIn (.int 1) (.var 7)))) (.seq (.ret (.bl false)) .nil) .nil)
    (.seq (.asg 10 (.call 4 (.cons (.var 5) (.cons (.var 6) .nil))) [])
    (.seq (.ite (.cmp .NotEq (.comp [12] (.nm 12) (.rng1 (.bi .len (.cons (.var 4) .nil))) (.cmp .NotEq (.cmp .NotEq (.ix (.var 9) (.var 12)) (.call 1 (.cons (.var 6) (.cons (.ix (.var 4) (.var 12)) .nil)))) (.cmp .Eq (.call 3 (.cons (.var 10) (.cons (.ix (.var 4) (.var 12)) .nil))) (.int 1))) (.var 12)) (.lst .nil)) (.seq (.ret (.bl false)) .nil) .nil)
    (.seq (.ite (.cmp .NotEq (.cmp .Eq (.call 2 (.cons (.var 5) (.cons (.var 10) .nil))) (.var 6)) (.or (.cmp .Eq (.call 1 (.cons (.var 5) (.cons (.var 10) .nil))) (.int 0)) (.cmp .Eq (.var 5) (.var 6)))) (.seq (.ret (.bl false)) .nil) .nil)
    (.seq (.ret (.cmp .Eq (.cmp .Eq (.call 0 (.cons (.var 6) .nil)) (.var 11)) (.cmp .Eq (.call 1 (.cons (.var 5) (.cons (.var 10) .nil))) (.int 0)))) .nil)))))))
    (LE half wide (S (ers (allR (2 * h)))) (S (er f)) (S (er g)) (S (er u)) two (S (.lst (((allR (2 * h)).map (qf f)).map eb))) none (S (eb (kd f))) k zeros value more kk none) Win := by
  have hcf := cf_length ef eg
  have hmv := mv_length (f := f) (v := u) ef eu
  refine s_asg (d := er (mv f u)) (c_callT (c_cons (v_opn rfl) (c_cons (v_opn rfl) c_nil)) rfl (moved_ok f u (by omega))) (e' := LE half wide (S (ers (allR (2 * h)))) (S (er f)) (S (er g)) (S (er u)) two (S (.lst (((allR (2 * h)).map (qf f)).map eb))) none (S (eb (kd f))) k zeros value more kk (S (er (mv f u)))) rfl ?_
  refine s_no (c_or (p := false) (q := false) (no_comp (rs := allR (2 * h)) (v_all rfl) fun r hr => ?_) (c_cmpT (c_callT (c_cons (v_all rfl) c_nil) rfl (kind_ok (mv f u))) (w := eb (kd f)) (v_all rfl) ?_)) ?_
  · have er' := allR_mem.mp hr
    refine c_cmpT (c_callT (c_cons (v_ne (v_all rfl)) (c_cons (c_callT (c_cons (v_ne (v_all rfl)) (c_cons (v_eq LE_length) c_nil)) rfl (turn_ok u r)) c_nil)) rfl (lat_ok (mv f u) (bt u r) h hmv (bt_length er' eu) (by omega))) (c_callT (c_cons (v_ne (v_all rfl)) (c_cons (v_eq LE_length) c_nil)) rfl (lat_ok f r h ef er' (by omega))) ?_
    rw [moved_at ef eu er', ne_self]
  · rw [kd_moved ef eu, ne_self]
  refine s_no (cmp_bb (p := decide (mv f u = f)) (q := qf f u || decide (true ∉ u)) (c_cmpT (v_all rfl) (v_all rfl) (eq_er _ _)) (c_or (c_cmpT (c_callT (c_cons (v_all rfl) (c_cons (v_all rfl) c_nil)) rfl (lat_ok f u h ef eu (by omega))) rfl (is_one _)) (c_cmpT rfl (v_all rfl) (one_in u))) ?_) ?_
  · have := moved_same ef eu
    rw [Bool.eq_iff_iff]
    simp only [decide_eq_true_eq, Bool.or_eq_true]
    exact this
  refine s_asg (d := er (cf f g)) (c_callT (c_cons (v_opn rfl) (c_cons (v_opn rfl) c_nil)) rfl (common_ok f g (by omega))) (e' := LE half wide (S (ers (allR (2 * h)))) (S (er f)) (S (er g)) (S (er u)) two (S (.lst (((allR (2 * h)).map (qf f)).map eb))) (S (er (cf f g))) (S (eb (kd f))) k zeros value more kk (S (er (mv f u)))) rfl ?_
  refine s_no (no_compR (n := (allR (2 * h)).length) (c_rng (n := (allR (2 * h)).length) (c_biT (c_cons (v := ers (allR (2 * h))) (v_all rfl) c_nil) ((len_lst _).trans (by rw [List.length_map]))) ?_) fun kx hk => ?_) ?_
  · rw [allR_length, sizeLine_eq]
    have := pow_le (n := 2 * h) (by omega)
    omega
  · have er' := allR_mem.mp (List.getElem_mem hk)
    have i1 : ixD (.lst (((allR (2 * h)).map (qf f)).map eb)) (.int (kx : Int)) = W.ret (eb (qf f (allR (2 * h))[kx])) := by
      rw [ix_lst eb ((allR (2 * h)).map (qf f)) kx (by rw [List.length_map]; exact hk), List.getElem_map]
    have i2 : ixD (ers (allR (2 * h))) (.int (kx : Int)) = W.ret (er (allR (2 * h))[kx]) := ix_lst er _ kx hk
    refine cmp_bb (c_cmpT (c_ixT (v_ne (v_all rfl)) (v_eq LE_length) i1) (c_callT (c_cons (v_ne (v_all rfl)) (c_cons (c_ixT (v_ne (v_all rfl)) (v_eq LE_length) i2) c_nil)) rfl (lat_ok g _ h eg er' (by omega))) (ne_eb _ _)) (c_cmpT (c_callT (c_cons (v_ne (v_all rfl)) (c_cons (c_ixT (v_ne (v_all rfl)) (v_eq LE_length) i2) c_nil)) rfl (ltwist_ok (cf f g) _ h hcf er' (by omega))) rfl (is_one _)) ?_
    rw [cf_tw ef eg er']
  refine s_no (cmp_bb (p := decide (mv f (cf f g) = g)) (q := (!qf f (cf f g)) || decide (f = g)) (c_cmpT (c_callT (c_cons (v_all rfl) (c_cons (v_all rfl) c_nil)) rfl (moved_ok f (cf f g) (by omega))) (v_all rfl) (eq_er _ _)) (c_or (c_cmpT (c_callT (c_cons (v_all rfl) (c_cons (v_all rfl) c_nil)) rfl (lat_ok f (cf f g) h ef hcf (by omega))) rfl (is_zero _)) (c_cmpT (v_all rfl) (v_all rfl) (eq_er f g))) ?_) ?_
  · have := mv_cf ef eg
    rw [Bool.eq_iff_iff]
    simp only [decide_eq_true_eq, Bool.or_eq_true, Bool.not_eq_true']
    exact this
  refine s_ret (d := .bl true) (c_cmpT (v := .bl (decide (kd g = kd f))) (w := .bl (!qf f (cf f g))) (c_cmpT (c_callT (c_cons (v_all rfl) c_nil) rfl (kind_ok g)) (v_all rfl) (eq_eb _ _)) (c_cmpT (c_callT (c_cons (v_all rfl) (c_cons (v_all rfl) c_nil)) rfl (lat_ok f (cf f g) h ef hcf (by omega))) rfl (is_zero _)) ?_) rfl
  rw [cmp_eq (k := 0) (.bl _) (.bl _) (by decide), eqv_bl, kd_cf ef eg]
  cases kd f <;> cases qf f (cf f g) <;> rfl
end
end K75
namespace K75
open PySem PV

theorem eqv_self_eb (b : Bool) : eqv (eb b) (eb b) = true := by rw [eqv_eb]; simp
theorem zeros_len (f : List Bool) (rs : List (List Bool)) : ((rs.map (qf f)).filter fun b => !b).length = (rs.filter fun r => !qf f r).length := by
  rw [List.filter_map, List.length_map]; rfl
theorem kinds_len (rs : List (List Bool)) : ((rs.map kd).filter fun b => !b).length = (rs.filter fun r => !kd r).length := by
  rw [List.filter_map, List.length_map]; rfl
section
variable {h : Nat} {f g u v : List Bool}
theorem more_ok {T : Tab} {env : PV.Env} (h1 : 1 ≤ h) (h4 : h ≤ 4) (hh : evE T (.var 2) env = W.ret (.int (h : Int))) (b : Bool) (hk : evE T (.var 11) env = W.ret (eb b)) :
    evE T (.bin .Mult (.bin .LShift (.int 1) (.bin .Sub (.var 2) (.int 1))) (.bin .Add (.bin .LShift (.int 1) (.var 2)) (.ite (.cmp .Eq (.var 11) (.int 0)) (.int 1) (.neg (.int 1))))) env = W.ret (.int (2 ^ (h - 1) * (2 ^ h + sg b))) := by
  have e1 : ((h : Int) - 1) = ((h - 1 : Nat) : Int) := by omega
  have e2 : evE T (.ite (.cmp .Eq (.var 11) (.int 0)) (.int 1) (.neg (.int 1))) env = W.ret (.int (sg b)) := by
    rw [c_ite (c_cmpT hk rfl (is_zero b))]
    cases b <;> rfl
  refine c_binT (c_binT rfl (c_binT hh rfl (by rw [subI, e1])) (shl1 (h - 1) (by omega))) (c_binT (c_binT rfl hh (shl1 h (by omega))) e2 (addI _ _)) (mulI _ _ ?_)
  have := pow_int (h - 1) (by omega)
  omega
theorem more2_ok {T : Tab} {env : PV.Env} (h1 : 1 ≤ h) (h4 : h ≤ 4) (hh : evE T (.var 2) env = W.ret (.int (h : Int))) :
    evE T (.bin .Mult (.bin .LShift (.int 1) (.bin .Sub (.var 2) (.int 1))) (.bin .Add (.bin .LShift (.int 1) (.var 2)) (.int 1))) env = W.ret (.int (2 ^ (h - 1) * (2 ^ h + 1))) := by
  have e1 : ((h : Int) - 1) = ((h - 1 : Nat) : Int) := by omega
  refine c_binT (c_binT rfl (c_binT hh rfl (by rw [subI, e1])) (shl1 (h - 1) (by omega))) (c_binT (c_binT rfl hh (shl1 h (by omega))) rfl (addI _ _)) (mulI _ _ ?_)
  have := pow_int (h - 1) (by omega)
  omega
theorem ne_int (a b : Int) (e : a = b) : cmpD .NotEq (.int a) (.int b) = W.ret (.bl false) := ne_refl (k := 0) (.int _) (.int _) (by decide) (by rw [e, eqv_int]; simp)
theorem kind_expr {T : Tab} {env : PV.Env} (h1 : 1 ≤ h) (h4 : h ≤ 4) (ef : f.length = 2 * h) (hl : 12 < env.length) (hh : evE T (.var 2) env = W.ret (.int (h : Int))) (hf5 : evE T (.var 5) env = W.ret (er f)) :
    evE T (.bin .Mod (.bi .int (.cons (.bi .sum (.cons (.comp [12] (.nm 12) (.rng1 (.var 2)) (.bl true) (.bin .Mult (.ix (.var 5) (.var 12)) (.ix (.var 5) (.bin .Add (.var 12) (.var 2))))) .nil)) .nil)) (.int 2)) env = W.ret (eb (kd f)) := by
  have hfl : flatW (compF (.nm 12) [12] (evE T (.bl true)) (evE T (.bin .Mult (.ix (.var 5) (.var 12)) (.ix (.var 5) (.bin .Add (.var 12) (.var 2))))) env) (intsR 0 h)
      = W.ret ((List.range h).map fun k => .int (b1 (f.getD k false && f.getD (k + h) false))) :=
    flat_rng fun k hk => compF_of (env1 := (env.set 12 none).set 12 (some (.int (k : Int)))) rfl rfl (c_binT (c_ixT (v_ne hf5) (v_eq hl) (list_getD f (by omega))) (c_ixT (v_ne hf5) (c_binT (v_eq hl) (v_ne hh) (idx_add k h)) (list_getD f (by omega))) (mul_eb _ _))
  refine c_binT (c_biT (c_cons (c_biT (c_cons (c_comp (c_rng (n := h) hh (by rw [sizeLine_eq]; omega)) rfl hfl) c_nil) (sum_ints _ _)) c_nil) (bi_int _)) rfl ?_
  have s1 := sum_par (xs := List.range h) (f := fun k => b1 (f.getD k false && f.getD (k + h) false)) (g := fun k => f.getD k false && f.getD (k + h) false) fun k _ => by
    cases (f.getD k false && f.getD (k + h) false) <;> rfl
  have d1 := dot_range f f 0 h h (by omega) (by omega) (.inr (.inr trivial))
  simp only [Nat.add_zero, List.drop_zero] at d1
  rw [d1, List.take_of_length_le (l := f.drop h) (by rw [List.length_drop]; omega)] at s1
  rw [mod2, s1, kd_eq ef]
  rfl
end
theorem law_true : LawOk := by
  have main : Ev T_law c_law (env0 18) Win := by
    unfold c_law
    refine s_draw half_eq (by decide) (by decide) fun k hk => ⟨.int ((k + 1 : Nat) : Int), ?_, ?_⟩
    · show W.ret (D.int (1 + (k : Int))) = _
      congr 2
      omega
    generalize hh : k + 1 = h
    have h1 : 1 ≤ h := by omega
    have h4 : h ≤ 4 := by omega
    clear hh hk k
    have e1 : (env0 18).set 2 (S (.int (h : Int))) = LE (S (.int (h : Int))) none none none none none none none none none none none none none none none := rfl
    rw [e1]
    refine s_asg (d := .int ((2 * h : Nat) : Int)) (c_binT rfl (v_opn rfl) (mul2 h)) (e' := LE (S (.int (h : Int))) (S (.int ((2 * h : Nat) : Int))) none none none none none none none none none none none none none none) rfl ?_
    refine s_asg (d := ers (allR (2 * h))) (c_callT (c_cons (v_opn rfl) c_nil) rfl (lall_ok (2 * h) (by omega))) (e' := LE (S (.int (h : Int))) (S (.int ((2 * h : Nat) : Int))) (S (ers (allR (2 * h)))) none none none none none none none none none none none none none) rfl ?_
    have n0 : 0 < (allR (2 * h)).length := by rw [allR_length]; exact Nat.pow_pos (by decide)
    have n2 : (allR (2 * h)).length ≤ 1024 := by rw [allR_length]; exact pow_le (by omega)
    refine s_two (v_opn rfl) (v_opn rfl) n0 (by omega) fun f g hf hg => ?_
    have ef := allR_mem.mp hf
    have eg := allR_mem.mp hg
    refine s_two (v_opn rfl) (v_opn rfl) n0 (by omega) fun u v hu hv => ?_
    have eu := allR_mem.mp hu
    have ev := allR_mem.mp hv
    have e2 : ((((LE (S (.int (h : Int))) (S (.int ((2 * h : Nat) : Int))) (S (ers (allR (2 * h)))) none none none none none none none none none none none none none).set 5 (S (er f))).set 6 (S (er g))).set 7 (S (er u))).set 8 (S (er v)) = LE (S (.int (h : Int))) (S (.int ((2 * h : Nat) : Int))) (S (ers (allR (2 * h)))) (S (er f)) (S (er g)) (S (er u)) (S (er v)) none none none none none none none none none := rfl
    rw [e2]
    refine s_asg (d := .lst (((allR (2 * h)).map (qf f)).map eb)) (comp_bits (by unfold opn LE; simp) (v_opn rfl) fun r hr => c_callT (c_cons (v_ne (v_opn rfl)) (c_cons (v_eq (by unfold opn LE; simp)) c_nil)) rfl (lat_ok f r h ef (allR_mem.mp hr) (by omega))) (e' := LE (S (.int (h : Int))) (S (.int ((2 * h : Nat) : Int))) (S (ers (allR (2 * h)))) (S (er f)) (S (er g)) (S (er u)) (S (er v)) (S (.lst (((allR (2 * h)).map (qf f)).map eb))) none none none none none none none none) rfl ?_
    refine s_no (c_not (p := true) (c_callT (c_cons (comp_bits (g := qf f) (by unfold opnAll LE; simp) (v_all rfl) fun r hr => c_callT (c_cons (v_ne (v_all rfl)) (c_cons (v_eq LE_length) c_nil)) rfl (at_ok f r)) (c_cons (v_all rfl) c_nil)) rfl (same_ok (dat_bits (by rw [List.length_map]; omega))))) ?_
    refine s_no (c_cmpT (v := eb (qf f u ^^ qf f v ^^ tw u v)) (w := eb (qf f u ^^ qf f v ^^ tw u v)) (c_callT (c_cons (v_all rfl) (c_cons (c_callT (c_cons (v_all rfl) (c_cons (v_all rfl) c_nil)) rfl (lsum_ok u v (by omega) (by omega))) c_nil)) rfl ?_)
      (c_binT (c_biT (c_cons (c_binT (c_binT (c_callT (c_cons (v_all rfl) (c_cons (v_all rfl) c_nil)) rfl (lat_ok f u h ef eu (by omega))) (c_callT (c_cons (v_all rfl) (c_cons (v_all rfl) c_nil)) rfl (lat_ok f v h ef ev (by omega))) (addI _ _)) (c_callT (c_cons (v_all rfl) (c_cons (v_all rfl) c_nil)) rfl (ltwist_ok u v h eu ev (by omega))) (addI _ _)) c_nil) (bi_int _)) rfl ?_) (ne_self _)) ?_
    · rw [at_ok, qf_add ef eu ev]
    · rw [mod2, sum3]
      rfl
    refine s_asg (d := eb (kd f)) (kind_expr h1 h4 ef (by unfold opn LE; simp) (v_opn rfl) (v_opn rfl)) (e' := LE (S (.int (h : Int))) (S (.int ((2 * h : Nat) : Int))) (S (ers (allR (2 * h)))) (S (er f)) (S (er g)) (S (er u)) (S (er v)) (S (.lst (((allR (2 * h)).map (qf f)).map eb))) none (S (eb (kd f))) none none none none none none) rfl ?_
    have hz := zeros_count f h ef h1 h4
    refine s_asg (d := .int (((allR (2 * h)).filter fun r => !qf f r).length : Nat)) ((filter_bits ((allR (2 * h)).map (qf f)) (v_opn rfl) (by unfold opn LE; simp)).trans (by rw [zeros_len])) (e' := LE (S (.int (h : Int))) (S (.int ((2 * h : Nat) : Int))) (S (ers (allR (2 * h)))) (S (er f)) (S (er g)) (S (er u)) (S (er v)) (S (.lst (((allR (2 * h)).map (qf f)).map eb))) none (S (eb (kd f))) none (S (.int (((allR (2 * h)).filter fun r => !qf f r).length : Nat))) none none none none) rfl ?_
    refine s_asg (d := .int (2 ^ (h - 1) * (2 ^ h + sg (kd f)))) (more_ok h1 h4 (v_opn rfl) (kd f) (v_opn rfl)) (e' := LE (S (.int (h : Int))) (S (.int ((2 * h : Nat) : Int))) (S (ers (allR (2 * h)))) (S (er f)) (S (er g)) (S (er u)) (S (er v)) (S (.lst (((allR (2 * h)).map (qf f)).map eb))) none (S (eb (kd f))) none (S (.int (((allR (2 * h)).filter fun r => !qf f r).length : Nat))) none (S (.int (2 ^ (h - 1) * (2 ^ h + sg (kd f))))) none none) rfl ?_
    have hzf : m_form_zeros [er f] = W.ret (.int (((allR (2 * h)).filter fun r => !qf f r).length : Nat)) := by
      have := zeros_ok f (by omega)
      rw [ef] at this
      exact this
    refine s_no (c_or (p := false) (q := false) (c_not (p := true) (c_callT (ds := [.lst [eb (kd f), .int (((allR (2 * h)).filter fun r => !qf f r).length : Nat)], .lst [eb (kd f), .int (((allR (2 * h)).filter fun r => !qf f r).length : Nat)]]) (c_cons (c_lst (c_cons (c_callT (c_cons (v_all rfl) c_nil) rfl (kind_ok f)) (c_cons (c_callT (c_cons (v_all rfl) c_nil) rfl hzf) c_nil))) (c_cons (c_lst (c_cons (v_all rfl) (c_cons (v_all rfl) c_nil))) c_nil)) rfl (same_ok (.lst (show 2 ≤ 1000000 by decide) fun x hx => ?_)))) (c_cmpT (v_all rfl) (v_all rfl) (ne_int _ _ hz))) ?_
    · simp only [List.mem_cons, List.not_mem_nil, or_false] at hx
      rcases hx with rfl | rfl
      · exact .eb _
      · exact .int _
    refine s_ite (x := decide ((h : Int) < 4)) (c_cmpT (v_all rfl) rfl rfl) (fun _ => ?_) fun _ => law_tail h1 h4 ef eg eu none _ _ _ _ _ _ _
    refine s_asg (d := .lst (((allR (2 * h)).map kd).map eb)) (comp_bits (by unfold opn LE; simp) (v_opn rfl) fun r hr => c_callT (c_cons (v_eq (by unfold opn LE; simp)) c_nil) rfl (kind_ok r)) (e' := LE (S (.int (h : Int))) (S (.int ((2 * h : Nat) : Int))) (S (ers (allR (2 * h)))) (S (er f)) (S (er g)) (S (er u)) (S (er v)) (S (.lst (((allR (2 * h)).map (qf f)).map eb))) none (S (eb (kd f))) none (S (.int (((allR (2 * h)).filter fun r => !qf f r).length : Nat))) none (S (.int (2 ^ (h - 1) * (2 ^ h + sg (kd f))))) (S (.lst (((allR (2 * h)).map kd).map eb))) none) rfl ?_
    refine s_no (c_cmpT (filter_bits ((allR (2 * h)).map kd) (v_all rfl) LE_length) (more2_ok h1 h4 (v_all rfl)) (ne_int _ _ ?_)) (s_nil (law_tail h1 h4 ef eg eu _ _ _ _ _ _ _ _))
    rw [kinds_len]
    exact kinds_count h h1 h4
  exact main.h
end K75
theorem PySem.Challenge.cw_swapsigns_k75_whole_forms_of_signs_holds : PySem.Challenge.rw_swapsigns_k75_whole_forms_of_signs.Holds := by
  exact K75.holds_of K75.law_true
