import PyProof.Rows.All
import PyProof.P3Statements
import PyProof.EqLayable
import PyProof.ReprReads
import HandS.ForMost
import HandS.Exc
import HandS.Style
import HandS.Wide
import HandS.Zip
import HandS.Gcd
import HandS.Star
import HandS.HeadHook2
import HandS.HeadEnd
import HandS.Head2
import HandS.TupAny
import HandS.Codes
import HandS.IsInst
import PyProof.ReprLen
import PyProof.Rows.RegStrFacts
import HandS.Head3
import PySem.Challenge.RW_platelights_k29_whole_halves_linear_roun
section
set_option linter.all false
/-! A small language over plain data and its runs: what the laws' texts are made of. -/
namespace Mini
open PySem

/-- a value: plain data, the one list that is handed on and stored to (the draws' state), a def -/
inductive Val where
  | d (x : PyData) | cel | fn (i : Nat) | scr (xs : List PyData)
/-- a slot: empty, a value, a list of one's own that is still grown or stored to -/
inductive Sl where
  | non | v (x : Val) | own (xs : List PyData)
abbrev Env := List Sl
abbrev Tap := List PyData
abbrev M (α : Type) := Tap → Option (α × Tap)
def ret {α : Type} (a : α) : M α := fun t => some (a, t)
def fail {α : Type} : M α := fun _ => none
def bnd {α β : Type} (m : M α) (f : α → M β) : M β := fun t => match m t with
  | none => none
  | some (a, t1) => f a t1
def lft {α : Type} (o : Option α) : M α := fun t => match o with
  | none => none
  | some a => some (a, t)
def grd (b : Bool) : M Unit := fun t => if b = true then some ((), t) else none

inductive BOp where | add | sub | mul | fdiv | mod | pow
inductive COp where | lt | le | gt | ge | eq | ne | isN | notN | isT | isF | notT | notF | mem | nmem
inductive Bi where | len | abs | int | tuple | list | max2 | min2 | sum | all | gcd | repr | divmod | max1 | min1 | isqrt | lcm | str1
inductive Ty where | int | bool | tuple | str | list deriving DecidableEq

mutual
inductive ME where
  | nm (i : Nat) | gl (k : Nat) | fnv (k : Nat) | int (i : Int) | str (s : Str) | bl (b : Bool) | non
  | bin (o : BOp) (a b : ME) | neg (a : ME) | notv (a : ME) | cmp (o : COp) (a b : ME) | boolv (isAnd : Bool) (es : MEs)
  | ife (t : MT) (a b : ME) | tup (es : MEs) | lst (es : MEs)
  | idx (a i : ME) | slLo (a lo : ME) | slHi (a hi : ME) | slLH (a lo hi : ME) | slRev (a : ME)
  | call (k : Nat) (es : MEs) (ks : List Str) (kw : MEs) | callT (k : Nat) (e : ME) (es : MEs) | callv (i : Nat) (es : MEs)
  | bi (b : Bi) (es : MEs) | isin (e : ME) (t : Ty)
  | comp (elt : ME) (g : MG) (it : MI) | compIf (elt : ME) (g : MG) (it : MI) (t : MT)
inductive MEs where
  | nil | cons (e : ME) (es : MEs) | star (e : ME) (es : MEs)
inductive MT where
  | val (e : ME) | cmp (o : COp) (a b : ME) | not (t : MT) | all (isAnd : Bool) (ts : MTs)
inductive MTs where
  | nil | cons (t : MT) (ts : MTs)
inductive MI where
  | seq (e : ME) | rng1 (a : ME) | rng2 (a b : ME) | zip (a b : ME) | enum (a : ME)
inductive MG where
  | nm (i : Nat) | tup (gs : MGs) | sub (i : Nat) (e : ME)
inductive MGs where
  | nil | cons (g : MG) (gs : MGs)
end

mutual
inductive MS where
  | asg (g : MG) (e : ME) | own (i : Nat) (e : ME) | par2 (i j : Nat) (a b : ME) | par3 (i j k : Nat) (a b c : ME)
  | app (i : Nat) (e : ME) | retn (e : ME) | retN | ifs (t : MT) (a b : MSs) | forr (g : MG) (it : MI) (b : MSs) | whil (t : MT) (b : MSs)
  | pass | brk | cont | freeze (i : Nat) (s : MS) | never | expr (e : ME)
inductive MSs where
  | nil | cons (s : MS) (ss : MSs)
end

structure Def where
  name : Str
  params : List Str
  slots : List Str
  body : MSs
  fresh : Bool
  forms : List (Nat × List Str)
structure Sig where
  defs : List Def
  consts : List (Str × PyData)
  imps : List (Str × String)

/-! ### operations on data -/
/-- the bits of a number -/
def bits (i : Int) : Nat := i.natAbs.log2
def mulOk (a b : Int) : Bool := decide (bits a + bits b < 1000000)
def divOk (b : Int) : Bool := decide (b ≠ 0) && decide (bits b < 9000)
def powOk (a b : Int) : Bool := decide (0 ≤ b) && (decide (b ≤ 100000) && decide (bits a < 60))
def line : Nat := 16777216
def b2i (b : Bool) : Int := if b then 1 else 0

def bop : BOp → PyData → PyData → Option PyData
  | .add, .int a, .int b => some (.int (a + b))
  | .sub, .int a, .int b => some (.int (a - b))
  | .mul, .int a, .int b => if mulOk a b = true then some (.int (a * b)) else none
  | .fdiv, .int a, .int b => if divOk b = true then some (.int (a.fdiv b)) else none
  | .mod, .int a, .int b => if b ≠ 0 then some (.int (a.fmod b)) else none
  | .pow, .int a, .int b => if powOk a b = true then some (.int (a ^ b.toNat)) else none
  | .add, .tuple xs, .tuple ys => if xs.length + ys.length ≤ line then some (.tuple (xs ++ ys)) else none
  | .add, .list xs, .list ys => if xs.length + ys.length ≤ line then some (.list (xs ++ ys)) else none
  | .mul, .list xs, .int n => if (-1000000 ≤ n ∧ n ≤ 1000000) ∧ xs.length * n.toNat ≤ line then some (.list (List.replicate n.toNat xs).flatten) else none
  | _, _, _ => none

def isNon : PyData → Bool
  | .none => true
  | _ => false
def cop : COp → PyData → PyData → Option Bool
  | .lt, .int a, .int b => some (decide (a < b))
  | .le, .int a, .int b => some (decide (a ≤ b))
  | .gt, .int a, .int b => some (decide (b < a))
  | .ge, .int a, .int b => some (decide (b ≤ a))
  | .eq, .int a, .int b => some (decide (a = b))
  | .ne, .int a, .int b => some (!decide (a = b))
  | .eq, .str a, .str b => some (decide (a = b))
  | .ne, .str a, .str b => some (!decide (a = b))
  | .eq, x, y => if (SeqAt.shaped x && SeqAt.shaped y) = true then some (PyData.eqv x y) else none
  | .ne, x, y => if (SeqAt.shaped x && SeqAt.shaped y) = true then some (!PyData.eqv x y) else none
  | .isN, x, .none => some (isNon x)
  | .notN, x, .none => some (!isNon x)
  | .isT, .bool a, .bool true => some a
  | .isF, .bool a, .bool false => some (!a)
  | .notT, .bool a, .bool true => some (!a)
  | .notF, .bool a, .bool false => some a
  | _, _, _ => none

def truth : PyData → Option Bool
  | .bool b => some b
  | .int i => some (i != 0)
  | .none => some false
  | .list xs => some (!xs.isEmpty)
  | .tuple xs => some (!xs.isEmpty)
  | _ => none

def isTy : Ty → PyData → Bool
  | .int, .int _ => true
  | .int, .bool _ => true
  | .bool, .bool _ => true
  | .tuple, .tuple _ => true
  | .str, .str _ => true
  | .list, .list _ => true
  | _, _ => false

def ints? : List PyData → Option (List Int)
  | [] => some []
  | .int i :: r => match ints? r with | some l => some (i :: l) | none => none
  | _ => none
def bools? : List PyData → Option (List Bool)
  | [] => some []
  | .bool i :: r => match bools? r with | some l => some (i :: l) | none => none
  | _ => none
def sumI : List Int → Int
  | [] => 0
  | i :: r => i + sumI r

def bfun : Bi → List PyData → Option PyData
  | .len, [.list xs] => some (.int xs.length)
  | .len, [.tuple xs] => some (.int xs.length)
  | .abs, [.int i] => some (.int (if i < 0 then -i else i))
  | .int, [.int i] => some (.int i)
  | .int, [.bool b] => some (.int (if b then 1 else 0))
  | .tuple, [.list xs] => some (.tuple xs)
  | .tuple, [.tuple xs] => some (.tuple xs)
  | .list, [.list xs] => some (.list xs)
  | .list, [.tuple xs] => some (.list xs)
  | .max2, [.int a, .int b] => some (.int (if b > a then b else a))
  | .min2, [.int a, .int b] => some (.int (if b < a then b else a))
  | .gcd, [.int a, .int b] => some (.int (Nat.gcd a.natAbs b.natAbs : Nat))
  | .repr, [x] => if (PyData.showable x && (decide (x.shown.length ≤ line) && SeqAt.shaped x)) = true then some (.str x.shown) else none
  | .divmod, [.int a, .int b] => if (decide (0 < b) && decide (b < 1073741824)) = true then some (.tuple [.int (a / b), .int (a % b)]) else none
  | .sum, [.list xs] => match ints? xs with | some l => some (.int (sumI l)) | none => none
  | .all, [.list xs] => match bools? xs with | some l => some (.bool (l.all id)) | none => none
  | _, _ => none

def dat : Val → Option PyData
  | .d x => some x
  | _ => none
def dats : List Val → Option (List PyData)
  | [] => some []
  | .d x :: r => match dats r with | some l => some (x :: l) | none => none
  | _ => none

/-- the item at a place; a place below nought counts from the end -/
def pyAt (xs : List PyData) (i : Int) : Option PyData :=
  if 0 ≤ i then xs[i.toNat]? else if 0 ≤ i + xs.length then xs[(i + xs.length).toNat]? else none
/-- a bound of a slice of n items, d where it is left out -/
def clampI (n d : Nat) : Option Int → Nat
  | none => d
  | some i => if i < 0 then (i + n).toNat else min i.toNat n
def cutL (xs : List PyData) (lo hi : Option Int) : List PyData :=
  (xs.drop (clampI xs.length 0 lo)).take (clampI xs.length xs.length hi - clampI xs.length 0 lo)
def cutD (x : PyData) (lo hi : Option Int) : Option PyData := match x with
  | .list xs => some (.list (cutL xs lo hi))
  | .tuple xs => some (.tuple (cutL xs lo hi))
  | _ => none
def revD : PyData → Option PyData
  | .list xs => some (.list xs.reverse)
  | _ => none
def seq? : PyData → Option (List PyData)
  | .list xs => some xs
  | .tuple xs => some xs
  | _ => none
def int? : PyData → Option Int
  | .int i => some i
  | _ => none
def zipD : List PyData → List PyData → List PyData
  | x :: xs, y :: ys => .tuple [x, y] :: zipD xs ys
  | _, _ => []
def enumD : Nat → List PyData → List PyData
  | _, [] => []
  | n, x :: xs => .tuple [.int n, x] :: enumD (n + 1) xs
def rngD : Int → Nat → List PyData
  | _, 0 => []
  | a, n + 1 => .int a :: rngD (a + 1) n
def slot (env : Env) (i : Nat) : Option Val := match env[i]? with
  | some (.v x) => some x
  | _ => none
/-- the slot read by what only reads: a list of one's own, too -/
def peek (e : ME) (env : Env) (m : M Val) : M Val := match e with
  | .nm i => (match env[i]? with
    | some (.own xs) => ret (.d (.list xs))
    | _ => m)
  | _ => m
/-- the same, the script too -/
def look (e : ME) (env : Env) (m : M Val) : M Val := match e with
  | .nm i => (match env[i]? with
    | some (.own xs) => ret (.d (.list xs))
    | some (.v (.scr xs)) => ret (.d (.list xs))
    | _ => m)
  | _ => m
/-- what is read at last: the handed list as it stands now -/
def res (x : Val) : M Val := fun t => match x with
  | .cel => some (.d (.list t), t)
  | y => some (y, t)
def pk (strict : Bool) (e : ME) (env : Env) (m : M Val) : M Val := match strict with
  | true => m
  | false => look e env m
def wipeE (env : Env) : List Nat → Env
  | [] => env
  | v :: vs => (wipeE env vs).set v .non
mutual
def gslots : MG → List Nat
  | .nm i => [i]
  | .tup gs => gsslots gs
  | .sub _ _ => []
def gsslots : MGs → List Nat
  | .nil => []
  | .cons g gs => gslots g ++ gsslots gs
end
/-- the keywords' values among the positional ones, in the parameters' order -/
def bindKw {α : Type} (ps ks : List Str) (vs ws : List α) : Option (List α) :=
  match ps, vs with
  | [], [] => some []
  | _ :: pr, v :: vr => match bindKw pr ks vr ws with | some l => some (v :: l) | none => none
  | p :: pr, [] => match (ks.zip ws).lookup p, bindKw pr ks [] ws with
    | some v, some l => some (v :: l)
    | _, _ => none
  | [], _ :: _ => none

def cond {α : Type} (c : Bool) (a b : M α) : M α := fun t => if c = true then a t else b t
/-- a comprehension's turns -/
def evC (as : PyData → M Env) (t : Env → M Bool) (e : Env → M Val) : List PyData → M (List PyData)
  | [] => ret []
  | x :: xs => bnd (as x) fun env => bnd (t env) fun c => cond c
      (bnd (e env) fun y => match y with
        | .d y => bnd (evC as t e xs) fun ys => ret (y :: ys)
        | _ => fail)
      (evC as t e xs)
/-- no list is handed on here -/
def emp : M Unit := fun t => match t with
  | [] => some ((), [])
  | _ => none
/-- numbers alone on the list that is handed on -/
def nums : M Unit := fun t => match ints? t with
  | some _ => some ((), t)
  | none => none
abbrev Call := Nat → List Val → M Val

mutual
def ev (S : Sig) (C : Call) : ME → Env → M Val
  | .nm i, env => lft (slot env i)
  | .gl k, _ => lft (match S.consts[k]? with | some p => some (.d p.2) | none => none)
  | .fnv k, _ => ret (.fn k)
  | .int i, _ => ret (.d (.int i))
  | .str x, _ => ret (.d (.str x))
  | .bl b, _ => ret (.d (.bool b))
  | .non, _ => ret (.d .none)
  | .bin o a b, env => bnd (peek a env (ev S C a env)) fun x => bnd (peek b env (ev S C b env)) fun y =>
      lft (match x, y with | .d x, .d y => (match bop o x y with | some z => some (.d z) | none => none) | _, _ => none)
  | .neg a, env => bnd (ev S C a env) fun x => lft (match x with | .d (.int i) => some (.d (.int (-i))) | _ => none)
  | .notv a, env => bnd (ev S C a env) fun x => lft (match x with | .d (.bool b) => some (.d (.bool (!b))) | _ => none)
  | .cmp o a b, env => bnd (peek a env (ev S C a env)) fun x => bnd (peek b env (ev S C b env)) fun y =>
      lft (match x, y with | .d x, .d y => (match cop o x y with | some z => some (.d (.bool z)) | none => none) | _, _ => none)
  | .boolv isAnd es, env => evB S C isAnd es env
  | .ife t a b, env => bnd (tst S C t env) fun c => cond c (ev S C a env) (ev S C b env)
  | .tup es, env => bnd (evs S C es env) fun vs => lft (match dats vs with | some l => some (.d (.tuple l)) | none => none)
  | .lst es, env => bnd (evs S C es env) fun vs => lft (match dats vs with | some l => some (.d (.list l)) | none => none)
  | .idx a i, env => bnd (look a env (ev S C a env)) fun x0 => bnd (ev S C i env) fun y => bnd (res x0) fun x =>
      lft (match x, y with | .d x, .d (.int j) => (match seq? x with | some xs => (match pyAt xs j with | some z => some (.d z) | none => none) | none => none) | _, _ => none)
  | .slLo a lo, env => bnd (look a env (ev S C a env)) fun x => bnd (ev S C lo env) fun y =>
      lft (match x, y with | .d x, .d (.int j) => (match cutD x (some j) none with | some z => some (.d z) | none => none) | _, _ => none)
  | .slHi a hi, env => bnd (look a env (ev S C a env)) fun x => bnd (ev S C hi env) fun y =>
      lft (match x, y with | .d x, .d (.int j) => (match cutD x none (some j) with | some z => some (.d z) | none => none) | _, _ => none)
  | .slLH a lo hi, env => bnd (look a env (ev S C a env)) fun x => bnd (ev S C lo env) fun y => bnd (ev S C hi env) fun z =>
      lft (match x, y, z with | .d x, .d (.int j), .d (.int k) => (match cutD x (some j) (some k) with | some z => some (.d z) | none => none) | _, _, _ => none)
  | .slRev a, env => bnd (look a env (ev S C a env)) fun x => lft (match x with | .d x => (match revD x with | some z => some (.d z) | none => none) | _ => none)
  | .call k es ks kw, env => bnd (evs S C es env) fun vs => bnd (evs S C kw env) fun ws =>
      bnd (lft (match S.defs[k]? with | some d => bindKw d.params ks vs ws | none => none)) fun us => C k us
  | .callT k e es, env => bnd (ev S C e env) fun x => bnd emp fun _ => bnd (evs S C es env) fun vs => bnd emp fun _ =>
      lft (match x, dats vs with
      | .d (.list ds), some l => (match C k (.cel :: l.map Val.d) ds with | some (.d r, _) => some (.d r) | _ => none)
      | _, _ => none)
  | .callv i es, env => bnd (evs S C es env) fun vs => bnd (lft (slot env i)) fun f => match f with | .fn k => C k vs | _ => fail
  | .bi b es, env => bnd (evP S C es env) fun vs => lft (match dats vs with | some l => (match bfun b l with | some z => some (.d z) | none => none) | none => none)
  | .isin e t, env => bnd (peek e env (ev S C e env)) fun x => lft (match x with | .d x => some (.d (.bool (isTy t x))) | _ => none)
  | .comp elt g it, env => bnd (evI S C false it env) fun xs => bnd (evC (fun x => asgn S C g (.d x) (wipeE env (gslots g))) (fun env => ret true) (fun env => ev S C elt env) xs) fun ys => ret (.d (.list ys))
  | .compIf elt g it t, env => bnd (evI S C false it env) fun xs => bnd (evC (fun x => asgn S C g (.d x) (wipeE env (gslots g))) (fun env => tst S C t env) (fun env => ev S C elt env) xs) fun ys => ret (.d (.list ys))
def evs (S : Sig) (C : Call) : MEs → Env → M (List Val)
  | .nil, _ => ret []
  | .cons e es, env => bnd (ev S C e env) fun x => bnd (evs S C es env) fun xs => ret (x :: xs)
  | .star e es, env => bnd (peek e env (ev S C e env)) fun x => bnd (evs S C es env) fun xs =>
      lft (match x with | .d x => (match seq? x with | some l => if l.length + xs.length ≤ 1000000 then some (l.map Val.d ++ xs) else none | none => none) | _ => none)
/-- arguments that are only read -/
def evP (S : Sig) (C : Call) : MEs → Env → M (List Val)
  | .nil, _ => ret []
  | .cons e es, env => bnd (look e env (ev S C e env)) fun x => bnd (evP S C es env) fun xs => ret (x :: xs)
  | .star _ _, _ => fail
/-- and, or as values: truth values all -/
def evB (S : Sig) (C : Call) (isAnd : Bool) : MEs → Env → M Val
  | .nil, _ => fail
  | .cons e .nil, env => ev S C e env
  | .cons e es, env => bnd (ev S C e env) fun x => match x with
    | .d (.bool b) => cond (b == isAnd) (evB S C isAnd es env) (ret (.d (.bool b)))
    | _ => fail
  | .star _ _, _ => fail
def tst (S : Sig) (C : Call) : MT → Env → M Bool
  | .val e, env => bnd (peek e env (ev S C e env)) fun x => lft (match x with | .d x => truth x | _ => none)
  | .cmp o a b, env => bnd (peek a env (ev S C a env)) fun x => bnd (peek b env (ev S C b env)) fun y =>
      lft (match x, y with | .d x, .d y => cop o x y | _, _ => none)
  | .not t, env => bnd (tst S C t env) fun c => ret (!c)
  | .all isAnd ts, env => tsts S C isAnd ts env
def tsts (S : Sig) (C : Call) (isAnd : Bool) : MTs → Env → M Bool
  | .nil, _ => ret isAnd
  | .cons t ts, env => bnd (tst S C t env) fun c => cond (c == isAnd) (tsts S C isAnd ts env) (ret c)
def evI (S : Sig) (C : Call) (strict : Bool) : MI → Env → M (List PyData)
  | .seq e, env => bnd (pk strict e env (ev S C e env)) fun x => lft (match x with | .d x => seq? x | _ => none)
  | .rng1 a, env => bnd (ev S C a env) fun x => lft (match x with | .d (.int n) => if -line ≤ n ∧ n ≤ line then some (rngD 0 n.toNat) else none | _ => none)
  | .rng2 a b, env => bnd (ev S C a env) fun x => bnd (ev S C b env) fun y =>
      lft (match x, y with | .d (.int m), .d (.int n) => if ((n - m ≤ line ∧ -line ≤ m) ∧ m ≤ line) ∧ -line ≤ n then some (rngD m (n - m).toNat) else none | _, _ => none)
  | .zip a b, env => bnd (pk strict a env (ev S C a env)) fun x => bnd (pk strict b env (ev S C b env)) fun y =>
      lft (match x, y with | .d x, .d y => (match x, y with | .list xs, .list ys => some (zipD xs ys) | .tuple xs, .tuple ys => some (zipD xs ys) | _, _ => none) | _, _ => none)
  | .enum a, env => bnd (pk strict a env (ev S C a env)) fun x => lft (match x with | .d x => (match x with | .list xs => some (enumD 0 xs) | _ => none) | _ => none)
/-- a value comes to its target -/
def asgn (S : Sig) (C : Call) : MG → Val → Env → M Env
  | .nm i, v, env => ret (env.set i (.v v))
  | .tup gs, v, env => match v with
    | .d (.tuple xs) => asgns S C gs xs env
    | _ => fail
  | .sub i e, v, env => bnd (ev S C e env) fun j => match j, v with
    | .d (.int j), .d x => (match env[i]? with
      | some (.own xs) => if 0 ≤ j ∧ j < xs.length then ret (env.set i (.own (xs.set j.toNat x)))
          else if 0 ≤ j + xs.length ∧ j < 0 then ret (env.set i (.own (xs.set (j + xs.length).toNat x))) else fail
      | some (.v .cel) => fun t => if 0 ≤ j ∧ j < t.length then some (env, t.set j.toNat x) else none
      | _ => fail)
    | _, _ => fail
def asgns (S : Sig) (C : Call) : MGs → List PyData → Env → M Env
  | .nil, xs, env => match xs with
    | [] => ret env
    | _ => fail
  | .cons g gs, xs, env => match xs with
    | x :: r => bnd (asgn S C g (.d x) env) fun env1 => asgns S C gs r env1
    | [] => fail
end


/-- what a statement ends in -/
inductive Fl where | nx | bk | ct | rt (v : Val)
def forL (as : PyData → Env → M Env) (b : Env → M (Fl × Env)) : List PyData → Env → M (Fl × Env)
  | [], env => ret (.nx, env)
  | x :: xs, env => bnd (as x env) fun env1 => bnd (b env1) fun r => match r.1 with
    | .nx => forL as b xs r.2
    | .ct => forL as b xs r.2
    | .bk => ret (.nx, r.2)
    | .rt v => ret (.rt v, r.2)
def whileL (t : Env → M Bool) (b : Env → M (Fl × Env)) : Nat → Env → M (Fl × Env)
  | 0, _ => fail
  | n + 1, env => bnd (t env) fun c => cond c
      (bnd (b env) fun r => match r.1 with
        | .nx => whileL t b n r.2
        | .ct => whileL t b n r.2
        | .bk => ret (.nx, r.2)
        | .rt v => ret (.rt v, r.2))
      (ret (.nx, env))
@[irreducible] def turns : Nat := 1000000000000
mutual
def exec (S : Sig) (C : Call) : MS → Env → M (Fl × Env)
  | .asg g e, env => bnd (ev S C e env) fun x => bnd (asgn S C g x env) fun env1 => ret (.nx, env1)
  | .own i e, env => bnd (ev S C e env) fun x => bnd nums fun _ => match x with
    | .d (.list xs) => ret (.nx, env.set i (.own xs))
    | _ => fail
  | .par2 i j a b, env => bnd (ev S C a env) fun x => bnd (ev S C b env) fun y => ret (.nx, (env.set i (.v x)).set j (.v y))
  | .par3 i j k a b c, env => bnd (ev S C a env) fun x => bnd (ev S C b env) fun y => bnd (ev S C c env) fun z =>
      ret (.nx, ((env.set i (.v x)).set j (.v y)).set k (.v z))
  | .app i e, env => bnd (ev S C e env) fun x => match x, env[i]? with
    | .d x, some (.own xs) => if xs.length < line then ret (.nx, env.set i (.own (xs ++ [x]))) else fail
    | _, _ => fail
  | .retn e, env => bnd (ev S C e env) fun x => ret (.rt x, env)
  | .retN, env => ret (.rt (.d .none), env)
  | .ifs t a b, env => bnd (tst S C t env) fun c => cond c (execs S C a env) (execs S C b env)
  | .forr g it b, env => bnd (evI S C true it env) fun xs => forL (fun x env => asgn S C g (.d x) env) (fun env => execs S C b env) xs env
  | .whil t b, env => whileL (fun env => tst S C t env) (fun env => execs S C b env) turns env
  | .pass, env => ret (.nx, env)
  | .brk, env => ret (.bk, env)
  | .cont, env => ret (.ct, env)
  | .freeze i s, env => (match env[i]? with
    | some (.own xs) => exec S C s (env.set i (.v (.d (.list xs))))
    | _ => exec S C s env)
  | .never, _ => fail
  | .expr e, env => bnd (ev S C e env) fun _ => ret (.nx, env)
def execs (S : Sig) (C : Call) : MSs → Env → M (Fl × Env)
  | .nil, env => ret (.nx, env)
  | .cons s ss, env => bnd (exec S C s env) fun r => match r.1 with
    | .nx => execs S C ss r.2
    | f => ret (f, r.2)
end
def start (d : Def) (vs : List Val) : Env := vs.map Sl.v ++ List.replicate (d.slots.length - vs.length) Sl.non
def run (S : Sig) (C : Call) (d : Def) (vs : List Val) : M Val := fun t =>
  if vs.length = d.params.length then
    (match execs S C d.body (start d vs) t with
      | some ((.rt v, _), t1) => some (v, t1)
      | some ((.nx, _), t1) => some (.d .none, t1)
      | _ => none)
  else none
def call (S : Sig) : Nat → Call
  | 0, _, _ => fail
  | n + 1, k, vs => match S.defs[k]? with
    | some d => run S (call S n) d vs
    | none => fail

end Mini

end

section
set_option Elab.async false
set_option linter.all false
set_option maxRecDepth 100000
set_option maxHeartbeats 2000000
/-! Readings by the mini language: data in the abstract heap. -/
namespace Snd
open PySem PySem.Spec PyProof.Rows L2
open Mini (ME MEs MT MTs MI MG MGs MS MSs Val Sl Tap Sig Def bnd ret fail lft cond peek)
abbrev MEnv := Mini.Env

mutual
/-- data that nobody changes any more: none of its lists stands in F -/
inductive Rep (K : PySem.W.Frag) (H : Hp) (F : List Addr) : V → PyData → Prop
  | non : Rep K H F .non .none
  | bl (b : Bool) : Rep K H F (.bl b) (.bool b)
  | int (i : Int) : Rep K H F (.int i) (.int i)
  | str (x : Str) : Rep K H F (.str x) (.str x)
  | lst {a : Addr} {xs : List V} {ds : List PyData} : H a = some (.lst xs) → a ∉ F → xs.length ≤ sizeLine → RepAll K H F xs ds → Rep K H F (.ref a) (.list ds)
  | tup {a : Addr} {xs : List V} {ds : List PyData} : SqT K H a xs → xs.length ≤ sizeLine → RepAll K H F xs ds → Rep K H F (.ref a) (.tuple ds)
inductive RepAll (K : PySem.W.Frag) (H : Hp) (F : List Addr) : List V → List PyData → Prop
  | nil : RepAll K H F [] []
  | cons {v : V} {vs : List V} {d : PyData} {ds : List PyData} : Rep K H F v d → RepAll K H F vs ds → RepAll K H F (v :: vs) (d :: ds)
end
section
variable {K : PySem.W.Frag} {H H' : Hp} {F F' : List Addr} {c : Option Addr}
/-- what a run may change: the handed list; nothing goes -/
structure Step (c : Option Addr) (H H' : Hp) : Prop where
  keep : ∀ a o, some a ≠ c → H a = some o → H' a = some o
  dom : ∀ a, H' a = none → H a = none
theorem Step.refl : Step c H H := ⟨fun _ _ _ h => h, fun _ h => h⟩
theorem Step.trans {H1 H2 H3 : Hp} (a : Step c H1 H2) (b : Step c H2 H3) : Step c H1 H3 := ⟨fun x o n h => b.keep x o n (a.keep x o n h), fun x h => a.dom x (b.dom x h)⟩
theorem Step.new {p : Addr} {o : HO} (hp : H p = none) : Step c H (upd H p o) := ⟨fun a u _ h => by rw [upd_ne (ne_of_none h hp)]; exact h, fun a h => by
  by_cases e : a = p
  · subst e; exact hp
  · rwa [upd_ne e] at h⟩
/-- the handed list stands there -/
def CellR (K : PySem.W.Frag) (H : Hp) (F : List Addr) (c : Option Addr) (t : Tap) : Prop := ∀ a, c = some a → a ∈ F ∧ ∃ vs, H a = some (.lst vs) ∧ vs.length ≤ sizeLine ∧ RepAll K H F vs t
/-- a list that may change stands at the handed place -/
def CellL (H : Hp) (F : List Addr) (c : Option Addr) : Prop := ∀ a, c = some a → a ∈ F ∧ ∃ vs, H a = some (.lst vs)
theorem CellR.l {t : Tap} (h : CellR K H F c t) : CellL H F c := fun a e => let ⟨h1, vs, h2, _⟩ := h a e; ⟨h1, vs, h2⟩
mutual
theorem Rep.dp : ∀ {v : V} {d : PyData}, Rep K H F v d → Dp K H v d
  | _, _, .non => .non
  | _, _, .bl b => .bl b
  | _, _, .int i => .int i
  | _, _, .str x => .str x
  | _, _, .lst h _ _ r => .lst (SqL.of h) (RepAll.dp r)
  | _, _, .tup h _ r => .tup h (RepAll.dp r)
theorem RepAll.dp : ∀ {vs : List V} {ds : List PyData}, RepAll K H F vs ds → DpAll K H vs ds
  | _, _, .nil => .nil
  | _, _, .cons r q => .cons (Rep.dp r) (RepAll.dp q)
end
mutual
theorem Rep.step (s : Step c H H') (l : CellL H F c) : ∀ {v : V} {d : PyData}, Rep K H F v d → Rep K H' F v d
  | _, _, .non => .non
  | _, _, .bl b => .bl b
  | _, _, .int i => .int i
  | _, _, .str x => .str x
  | _, _, .lst (a := a) q n z r => .lst (s.keep _ _ (fun e => n (l a e.symm).1) q) n z (RepAll.step s l r)
  | _, _, .tup (a := a) h z r => .tup (by
      have na : ∀ u, H a = some u → (∀ vs, u ≠ .lst vs) → some a ≠ c := fun u q n e => by
        obtain ⟨_, vs, q2⟩ := l a e.symm
        rw [q] at q2; exact n vs (Option.some.inj q2)
      rcases h with h | h
      · rcases h with q | ⟨o, q⟩
        · exact .inl (.inl (s.keep _ _ (na _ q fun _ z => nomatch z) q))
        · exact .inl (.inr ⟨o, s.keep _ _ (na _ q fun _ z => nomatch z) q⟩)
      · exact .inr h) z (RepAll.step s l r)
theorem RepAll.step (s : Step c H H') (l : CellL H F c) : ∀ {vs : List V} {ds : List PyData}, RepAll K H F vs ds → RepAll K H' F vs ds
  | _, _, .nil => .nil
  | _, _, .cons r q => .cons (Rep.step s l r) (RepAll.step s l q)
end
mutual
theorem Rep.weak (h : ∀ a ∈ F', a ∈ F) : ∀ {v : V} {d : PyData}, Rep K H F v d → Rep K H F' v d
  | _, _, .non => .non
  | _, _, .bl b => .bl b
  | _, _, .int i => .int i
  | _, _, .str x => .str x
  | _, _, .lst q n z r => .lst q (fun e => n (h _ e)) z (RepAll.weak h r)
  | _, _, .tup q z r => .tup q z (RepAll.weak h r)
theorem RepAll.weak (h : ∀ a ∈ F', a ∈ F) : ∀ {vs : List V} {ds : List PyData}, RepAll K H F vs ds → RepAll K H F' vs ds
  | _, _, .nil => .nil
  | _, _, .cons r q => .cons (Rep.weak h r) (RepAll.weak h q)
end
mutual
theorem Rep.add {p : Addr} (h : H p = none) : ∀ {v : V} {d : PyData}, Rep K H F v d → Rep K H (p :: F) v d
  | _, _, .non => .non
  | _, _, .bl b => .bl b
  | _, _, .int i => .int i
  | _, _, .str x => .str x
  | _, _, .lst (a := a) q n z r => .lst q (fun e => by
      rcases List.mem_cons.mp e with e | e
      · subst e
        rw [h] at q; cases q
      · exact n e) z (RepAll.add h r)
  | _, _, .tup q z r => .tup q z (RepAll.add h r)
theorem RepAll.add {p : Addr} (h : H p = none) : ∀ {vs : List V} {ds : List PyData}, RepAll K H F vs ds → RepAll K H (p :: F) vs ds
  | _, _, .nil => .nil
  | _, _, .cons r q => .cons (Rep.add h r) (RepAll.add h q)
end
theorem RepAll.length : ∀ {vs : List V} {ds : List PyData}, RepAll K H F vs ds → vs.length = ds.length
  | _, _, .nil => rfl
  | _, _, .cons _ q => by simp only [List.length_cons, RepAll.length q]
theorem RepAll.get : ∀ {vs : List V} {ds : List PyData} {i : Nat} {d : PyData}, RepAll K H F vs ds → ds[i]? = some d → ∃ v, vs[i]? = some v ∧ Rep K H F v d
  | _, _, _, _, .nil, e => by simp at e
  | _, _, 0, _, .cons r _, e => by simp at e; subst e; exact ⟨_, rfl, r⟩
  | _, _, i + 1, d, .cons _ q, e => by
    obtain ⟨v, h1, h2⟩ := RepAll.get (i := i) (d := d) q (by simpa using e)
    exact ⟨v, by simpa using h1, h2⟩
theorem RepAll.getV : ∀ {vs : List V} {ds : List PyData} {i : Nat} {v : V}, RepAll K H F vs ds → vs[i]? = some v → ∃ d, ds[i]? = some d ∧ Rep K H F v d
  | _, _, _, _, .nil, e => by simp at e
  | _, _, 0, _, .cons r _, e => by simp at e; subst e; exact ⟨_, rfl, r⟩
  | _, _, i + 1, v, .cons _ q, e => by
    obtain ⟨d, h1, h2⟩ := RepAll.getV (i := i) (v := v) q (by simpa using e)
    exact ⟨d, by simpa using h1, h2⟩
theorem RepAll.append : ∀ {vs ws : List V} {ds es : List PyData}, RepAll K H F vs ds → RepAll K H F ws es → RepAll K H F (vs ++ ws) (ds ++ es)
  | _, _, _, _, .nil, q => q
  | _, _, _, _, .cons r t, q => .cons r (RepAll.append t q)
theorem RepAll.take : ∀ {vs : List V} {ds : List PyData} (n : Nat), RepAll K H F vs ds → RepAll K H F (vs.take n) (ds.take n)
  | _, _, 0, _ => .nil
  | _, _, _ + 1, .nil => .nil
  | _, _, n + 1, .cons r t => .cons r (RepAll.take n t)
theorem RepAll.drop : ∀ {vs : List V} {ds : List PyData} (n : Nat), RepAll K H F vs ds → RepAll K H F (vs.drop n) (ds.drop n)
  | _, _, 0, r => r
  | _, _, _ + 1, .nil => .nil
  | _, _, n + 1, .cons r t => RepAll.drop n t
theorem RepAll.rev : ∀ {vs : List V} {ds : List PyData}, RepAll K H F vs ds → RepAll K H F vs.reverse ds.reverse
  | _, _, .nil => .nil
  | _, _, .cons r t => by
    rw [List.reverse_cons, List.reverse_cons]
    exact (RepAll.rev t).append (.cons r .nil)
theorem RepAll.set {v : V} {d : PyData} (r : Rep K H F v d) : ∀ {vs : List V} {ds : List PyData} (i : Nat), RepAll K H F vs ds → RepAll K H F (vs.set i v) (ds.set i d)
  | _, _, _, .nil => .nil
  | _, _, 0, .cons _ t => .cons r t
  | _, _, i + 1, .cons q t => .cons q (RepAll.set r i t)
theorem RepAll.rep {vs : List V} {ds : List PyData} (r : RepAll K H F vs ds) : ∀ n : Nat, RepAll K H F (List.replicate n vs).flatten (List.replicate n ds).flatten
  | 0 => .nil
  | n + 1 => by
    rw [List.replicate_succ, List.replicate_succ, List.flatten_cons, List.flatten_cons]
    exact r.append (RepAll.rep r n)

/-- a list that is never stored to: the script -/
def SqZ (K : PySem.W.Frag) (H : Hp) (a : Addr) (vs : List V) : Prop := (∃ o, H a = some (.frz o (.lst vs))) ∨
  ∃ (o : Obj) (its : Array Value) (n : Nat), K.lookup a = some o ∧ o.cls = .type "list" ∧ o.dict = none ∧ o.data = .seq its n ∧ its.size ≤ sizeLine ∧ Vals vs its.toList
theorem SqZ.sq {a : Addr} {vs : List V} (h : SqZ K H a vs) : SqL K H a vs := h.elim (fun h => .inl (.inr h)) .inr
theorem SqZ.keep {a : Addr} {vs : List V} (k : ∀ u, H a = some u → (∀ vs, u ≠ .lst vs) → H' a = some u) (h : SqZ K H a vs) : SqZ K H' a vs :=
  h.elim (fun ⟨o, h⟩ => .inl ⟨o, k _ h fun _ z => nomatch z⟩) .inr
/-- a value: data, the handed list, a def -/
def RepV (K : PySem.W.Frag) (fa : Nat → Addr) (H : Hp) (F : List Addr) (c : Option Addr) (x : V) : Val → Prop
  | .d p => Rep K H F x p
  | .cel => ∃ a, c = some a ∧ x = .ref a
  | .fn i => x = .ref (fa i)
  | .scr ds => ∃ a vs, x = .ref a ∧ SqZ K H a vs ∧ vs.length ≤ sizeLine ∧ RepAll K H F vs ds
/-- .. or a list of one's own, to be read -/
def RepP (K : PySem.W.Frag) (fa : Nat → Addr) (H : Hp) (F : List Addr) (c : Option Addr) (x : V) (v : Val) : Prop :=
  RepV K fa H F c x v ∨ ∃ a vs ds, x = .ref a ∧ v = .d (.list ds) ∧ H a = some (.lst vs) ∧ some a ≠ c ∧ vs.length ≤ sizeLine ∧ RepAll K H F vs ds
variable {fa : Nat → Addr}
theorem RepV.step (s : Step c H H') (l : CellL H F c) {x : V} {v : Val} (r : RepV K fa H F c x v) : RepV K fa H' F c x v := by
  cases v with
  | d p => exact Rep.step s l r
  | cel => exact r
  | fn i => exact r
  | scr ds =>
    obtain ⟨a, vs, e, h, z, q⟩ := r
    refine ⟨a, vs, e, h.keep fun u hu n => s.keep _ _ (fun e2 => ?_) hu, z, RepAll.step s l q⟩
    obtain ⟨_, ws, h2⟩ := l a e2.symm
    rw [hu] at h2; exact n ws (Option.some.inj h2)
theorem RepP.step (s : Step c H H') (l : CellL H F c) {x : V} {v : Val} (r : RepP K fa H F c x v) : RepP K fa H' F c x v := by
  rcases r with r | ⟨a, vs, ds, e1, e2, h, n, z, q⟩
  · exact .inl (r.step s l)
  · exact .inr ⟨a, vs, ds, e1, e2, s.keep _ _ n h, n, z, RepAll.step s l q⟩
theorem RepP.dp {x : V} {p : PyData} (r : RepP K fa H F c x (.d p)) : Dp K H x p := by
  rcases r with r | ⟨a, vs, ds, e1, e2, h, n, z, q⟩
  · exact Rep.dp r
  · subst e1; cases e2; exact .lst (SqL.of h) q.dp
/-- a list that is read -/
theorem RepP.lst {x : V} {ds : List PyData} (r : RepP K fa H F c x (.d (.list ds))) : ∃ a vs, x = .ref a ∧ H a = some (.lst vs) ∧ vs.length ≤ sizeLine ∧ RepAll K H F vs ds := by
  rcases r with r | ⟨a, vs, ds', e1, e2, h, n, z, q⟩
  · have r : Rep K H F x (.list ds) := r
    cases r with
    | lst q n z r => exact ⟨_, _, rfl, q, z, r⟩
  · cases e2; exact ⟨a, vs, e1, h, z, q⟩
theorem RepP.tup {x : V} {ds : List PyData} (r : RepP K fa H F c x (.d (.tuple ds))) : ∃ a vs, x = .ref a ∧ SqT K H a vs ∧ vs.length ≤ sizeLine ∧ RepAll K H F vs ds := by
  rcases r with r | ⟨a, vs, ds', e1, e2, _⟩
  · have r : Rep K H F x (.tuple ds) := r
    cases r with
    | tup q z r => exact ⟨_, _, rfl, q, z, r⟩
  · cases e2
theorem RepP.int {x : V} {i : Int} (r : RepP K fa H F c x (.d (.int i))) : x = .int i := by
  rcases r with r | ⟨a, vs, ds', e1, e2, _⟩
  · have r : Rep K H F x (.int i) := r
    cases r; rfl
  · cases e2
theorem RepP.str {x : V} {i : Str} (r : RepP K fa H F c x (.d (.str i))) : x = .str i := by
  rcases r with r | ⟨a, vs, ds', e1, e2, _⟩
  · have r : Rep K H F x (.str i) := r
    cases r; rfl
  · cases e2
theorem RepP.bl {x : V} {i : Bool} (r : RepP K fa H F c x (.d (.bool i))) : x = .bl i := by
  rcases r with r | ⟨a, vs, ds', e1, e2, _⟩
  · have r : Rep K H F x (.bool i) := r
    cases r; rfl
  · cases e2
theorem RepP.non {x : V} (r : RepP K fa H F c x (.d .none)) : x = .non := by
  rcases r with r | ⟨a, vs, ds', e1, e2, _⟩
  · have r : Rep K H F x .none := r
    cases r; rfl
  · cases e2

/-- .. or the script -/
def RepS (K : PySem.W.Frag) (fa : Nat → Addr) (H : Hp) (F : List Addr) (c : Option Addr) (x : V) (v : Val) : Prop :=
  RepP K fa H F c x v ∨ ∃ a vs ds, x = .ref a ∧ v = .d (.list ds) ∧ SqZ K H a vs ∧ vs.length ≤ sizeLine ∧ RepAll K H F vs ds
theorem RepS.step (s : Step c H H') (l : CellL H F c) {x : V} {v : Val} (r : RepS K fa H F c x v) : RepS K fa H' F c x v := by
  rcases r with r | ⟨a, vs, ds, e1, e2, h, z, q⟩
  · exact .inl (r.step s l)
  · refine .inr ⟨a, vs, ds, e1, e2, h.keep fun u hu n => s.keep _ _ (fun e => ?_) hu, z, RepAll.step s l q⟩
    obtain ⟨_, ws, h2⟩ := l a e.symm
    rw [hu] at h2; exact n ws (Option.some.inj h2)
theorem RepS.dp {x : V} {p : PyData} (r : RepS K fa H F c x (.d p)) : Dp K H x p := by
  rcases r with r | ⟨a, vs, ds, e1, e2, h, z, q⟩
  · exact r.dp
  · subst e1; cases e2; exact .lst h.sq q.dp
theorem RepS.lst {x : V} {ds : List PyData} (r : RepS K fa H F c x (.d (.list ds))) : ∃ a vs, x = .ref a ∧ SqL K H a vs ∧ vs.length ≤ sizeLine ∧ RepAll K H F vs ds := by
  rcases r with r | ⟨a, vs, ds, e1, e2, h, z, q⟩
  · obtain ⟨a, vs, e, h, z, q⟩ := r.lst
    exact ⟨a, vs, e, SqL.of h, z, q⟩
  · cases e2; exact ⟨a, vs, e1, h.sq, z, q⟩
theorem RepS.tup {x : V} {ds : List PyData} (r : RepS K fa H F c x (.d (.tuple ds))) : ∃ a vs, x = .ref a ∧ SqT K H a vs ∧ vs.length ≤ sizeLine ∧ RepAll K H F vs ds := by
  rcases r with r | ⟨a, vs, ds, e1, e2, _⟩
  · exact r.tup
  · cases e2
theorem RepS.int {x : V} {i : Int} (r : RepS K fa H F c x (.d (.int i))) : x = .int i := by
  rcases r with r | ⟨a, vs, ds, e1, e2, _⟩
  · exact r.int
  · cases e2
theorem RepS.bl {x : V} {i : Bool} (r : RepS K fa H F c x (.d (.bool i))) : x = .bl i := by
  rcases r with r | ⟨a, vs, ds, e1, e2, _⟩
  · exact r.bl
  · cases e2
theorem RepS.non {x : V} (r : RepS K fa H F c x (.d .none)) : x = .non := by
  rcases r with r | ⟨a, vs, ds, e1, e2, _⟩
  · exact r.non
  · cases e2

/-- from H on, what stood outside Z stands -/
structure Lat (Z : List Addr) (H H' : Hp) : Prop where
  keep : ∀ a o, a ∉ Z → H a = some o → H' a = some o
  dom : ∀ a, H' a = none → H a = none
theorem Lat.refl {Z : List Addr} : Lat Z H H := ⟨fun _ _ _ h => h, fun _ h => h⟩
theorem Lat.step {Z : List Addr} {H1 : Hp} (l : Lat Z H1 H) (s : Step c H H') (hc : ∀ a, c = some a → a ∈ Z) : Lat Z H1 H' := ⟨fun a o n h => s.keep a o (fun e => n (hc a e.symm)) (l.keep a o n h), fun a h => l.dom a (s.dom a h)⟩
theorem Lat.write {Z : List Addr} {H1 : Hp} {p : Addr} {o u : HO} (l : Lat Z H1 H) (hp : H p = some u) (h : p ∈ Z ∨ H1 p = none) : Lat Z H1 (upd H p o) := by
  refine ⟨fun a v n e => ?_, fun a e => ?_⟩
  · rw [upd_ne]
    · exact l.keep a v n e
    · rintro rfl
      rcases h with h | h
      · exact n h
      · rw [h] at e; cases e
  · by_cases q : a = p
    · subst q; rw [upd_same] at e; cases e
    · rw [upd_ne q] at e; exact l.dom a e
/-- a ghost: where the run stood, and what may change since -/
abbrev Gh := List (List Addr × Hp)
/-- the slots -/
structure EnvR (K : PySem.W.Frag) (fa : Nat → Addr) (G : Gh) (H : Hp) (F F0 : List Addr) (c : Option Addr) (σ : L2.St) (env : MEnv) : Prop where
  len : env.length = σ.length
  val : ∀ (i : Nat) (x : Val), env[i]? = some (.v x) → ∃ v, σ[i]? = some (some v) ∧ RepV K fa H F c v x
  own : ∀ (i : Nat) (xs : List PyData), env[i]? = some (.own xs) → ∃ a vs, σ[i]? = some (some (.ref a)) ∧ H a = some (.lst vs) ∧ vs.length ≤ sizeLine ∧ RepAll K H F vs xs ∧ a ∈ F ∧ a ∉ F0 ∧ some a ≠ c ∧ ∀ g ∈ G, a ∈ g.1 ∨ g.2 a = none
  dis : ∀ (i j : Nat) (xs ys : List PyData) (a : Addr), i ≠ j → env[i]? = some (.own xs) → env[j]? = some (.own ys) → σ[i]? = some (some (.ref a)) → σ[j]? ≠ some (some (.ref a))
/-- all of it -/
structure Ok (K : PySem.W.Frag) (fa : Nat → Addr) (G : Gh) (H : Hp) (F F0 : List Addr) (c : Option Addr) (σ : L2.St) (env : MEnv) (t : Tap) : Prop where
  env : EnvR K fa G H F F0 c σ env
  cell : CellR K H F c t
  full : ∀ a ∈ F, ∃ vs, H a = some (.lst vs)
  sub : ∀ a ∈ F0, a ∈ F
  gh : ∀ g ∈ G, Lat g.1 g.2 H
  gc : ∀ g ∈ G, ∀ a, c = some a → a ∈ g.1
  gf : ∀ g ∈ G, ∀ a ∈ F, a ∈ F0 ∨ (a ∈ g.1 ∨ g.2 a = none)
variable {F0 : List Addr} {σ : L2.St} {env : MEnv} {t t' : Tap} {G : Gh}
theorem EnvR.step (o : EnvR K fa G H F F0 c σ env) (s : Step c H H') (l : CellL H F c) : EnvR K fa G H' F F0 c σ env :=
  ⟨o.len, fun i x e => let ⟨v, h, r⟩ := o.val i x e; ⟨v, h, r.step s l⟩,
    fun i xs e => let ⟨a, vs, h1, h2, z, r, m1, m2, m3, m4⟩ := o.own i xs e; ⟨a, vs, h1, s.keep _ _ m3 h2, z, RepAll.step s l r, m1, m2, m3, m4⟩, o.dis⟩
theorem RepV.add {p : Addr} (hp : H p = none) {x : V} {v : Val} (r : RepV K fa H F c x v) : RepV K fa H (p :: F) c x v := by
  cases v with
  | d q => exact Rep.add hp r
  | cel => exact r
  | fn i => exact r
  | scr ds =>
    obtain ⟨a, vs, e, h, z, q⟩ := r
    exact ⟨a, vs, e, h, z, RepAll.add hp q⟩
theorem RepV.weak (h : ∀ a ∈ F', a ∈ F) {x : V} {v : Val} (r : RepV K fa H F c x v) : RepV K fa H F' c x v := by
  cases v with
  | d q => exact Rep.weak h r
  | cel => exact r
  | fn i => exact r
  | scr ds =>
    obtain ⟨a, vs, e, hh, z, q⟩ := r
    exact ⟨a, vs, e, hh, z, RepAll.weak h q⟩
theorem EnvR.add {p : Addr} (hp : H p = none) (o : EnvR K fa G H F F0 c σ env) : EnvR K fa G H (p :: F) F0 c σ env :=
  ⟨o.len, fun i x e => let ⟨v, h, r⟩ := o.val i x e; ⟨v, h, r.add hp⟩,
    fun i xs e => let ⟨a, vs, h1, h2, z, r, m1, m2, m3, m4⟩ := o.own i xs e; ⟨a, vs, h1, h2, z, RepAll.add hp r, List.mem_cons_of_mem _ m1, m2, m3, m4⟩, o.dis⟩
theorem CellR.add {p : Addr} (hp : H p = none) (o : CellR K H F c t) : CellR K H (p :: F) c t := fun a e =>
  let ⟨m, vs, h, z, r⟩ := o a e; ⟨List.mem_cons_of_mem _ m, vs, h, z, RepAll.add hp r⟩
theorem CellL.add {p : Addr} (o : CellL H F c) : CellL H (p :: F) c := fun a e => let ⟨m, q⟩ := o a e; ⟨List.mem_cons_of_mem _ m, q⟩
theorem Ok.l (o : Ok K fa G H F F0 c σ env t) : CellL H F c := o.cell.l
theorem full_step (f : ∀ a ∈ F, ∃ vs, H a = some (.lst vs)) (s : Step c H H') (cl : CellR K H' F c t') : ∀ a ∈ F, ∃ vs, H' a = some (.lst vs) := fun a m => by
  by_cases e : some a = c
  · obtain ⟨_, vs, h, _⟩ := cl a e.symm
    exact ⟨vs, h⟩
  · obtain ⟨vs, h⟩ := f a m
    exact ⟨vs, s.keep a _ e h⟩
theorem Ok.step (o : Ok K fa G H F F0 c σ env t) (s : Step c H H') (cl : CellR K H' F c t') : Ok K fa G H' F F0 c σ env t' where
  env := o.env.step s o.l
  cell := cl
  full := full_step o.full s cl
  sub := o.sub
  gh := fun g m => (o.gh g m).step s (o.gc g m)
  gc := o.gc
  gf := o.gf
theorem CellR.new {p : Addr} {u : HO} (hp : H p = none) (cl : CellR K H F c t) : CellR K (upd H p u) F c t := fun a e => by
  obtain ⟨m, vs, h, z, r⟩ := cl a e
  refine ⟨m, vs, by rw [upd_ne (ne_of_none h hp)]; exact h, z, RepAll.step (c := c) (Step.new hp) cl.l r⟩
/-- a list p that was made since: it may be laid among those that change -/
theorem Ok.add {p : Addr} {H1 : Hp} (o : Ok K fa G H F F0 c σ env t) (s : Step c H H1) (cl : CellR K H1 (p :: F) c t') (hp : H p = none) (hl : ∃ vs, H1 p = some (.lst vs)) : Ok K fa G H1 (p :: F) F0 c σ env t' where
  env := (o.env.add hp).step s o.l.add
  cell := cl
  full := fun a m => by
    rcases List.mem_cons.mp m with e | m
    · rw [e]; exact hl
    · exact full_step (F := F) (t' := t') o.full s (fun a e => let ⟨_, vs, h, z, r⟩ := cl a e; ⟨(o.l a e).1, vs, h, z, RepAll.weak (fun _ => List.mem_cons_of_mem _) r⟩) a m
  sub := fun a m => List.mem_cons_of_mem _ (o.sub a m)
  gh := fun g m => (o.gh g m).step s (o.gc g m)
  gc := o.gc
  gf := fun g m a ha => by
    rcases List.mem_cons.mp ha with e | ha
    · subst e; exact .inr (.inr ((o.gh g m).dom _ hp))
    · exact o.gf g m a ha
mutual
theorem Rep.lat {Z : List Addr} (l : Lat Z H H') (f : ∀ a ∈ F, ∃ vs, H a = some (.lst vs)) (hZ : ∀ b ∈ Z, b ∈ F ∨ H b = none) (hF : ∀ b ∈ F', b ∈ F ∨ H b = none) : ∀ {v : V} {d : PyData}, Rep K H F v d → Rep K H' F' v d
  | _, _, .non => .non
  | _, _, .bl b => .bl b
  | _, _, .int i => .int i
  | _, _, .str x => .str x
  | _, _, .lst (a := a) q n z r => .lst (l.keep _ _ (fun m => (hZ a m).elim n fun e => by rw [e] at q; cases q) q) (fun m => (hF a m).elim n fun e => by rw [e] at q; cases q) z (RepAll.lat l f hZ hF r)
  | _, _, .tup (a := a) h z r => .tup (by
      have na : ∀ u, H a = some u → (∀ vs, u ≠ .lst vs) → a ∉ Z := fun u q n m => (hZ a m).elim (fun m => by
        obtain ⟨vs, q2⟩ := f a m
        rw [q] at q2; exact n vs (Option.some.inj q2)) fun e => by rw [e] at q; cases q
      rcases h with h | h
      · rcases h with q | ⟨o, q⟩
        · exact .inl (.inl (l.keep _ _ (na _ q fun _ z => nomatch z) q))
        · exact .inl (.inr ⟨o, l.keep _ _ (na _ q fun _ z => nomatch z) q⟩)
      · exact .inr h) z (RepAll.lat l f hZ hF r)
theorem RepAll.lat {Z : List Addr} (l : Lat Z H H') (f : ∀ a ∈ F, ∃ vs, H a = some (.lst vs)) (hZ : ∀ b ∈ Z, b ∈ F ∨ H b = none) (hF : ∀ b ∈ F', b ∈ F ∨ H b = none) : ∀ {vs : List V} {ds : List PyData}, RepAll K H F vs ds → RepAll K H' F' vs ds
  | _, _, .nil => .nil
  | _, _, .cons r q => .cons (Rep.lat l f hZ hF r) (RepAll.lat l f hZ hF q)
end
end

/-! ### the readings -/
/-- a list made just now -/
def New (K : PySem.W.Frag) (H H' : Hp) (F : List Addr) (x : V) (v : Val) : Prop := ∀ ds, v = .d (.list ds) → ∃ a vs, x = .ref a ∧ H a = none ∧ H' a = some (.lst vs) ∧ vs.length ≤ sizeLine ∧ RepAll K H' (a :: F) vs ds
def tE (K : PySem.W.Frag) (fa : Nat → Addr) (m : MEnv → Mini.M Val) (fr : Bool) : TE := fun σ H Q => ∃ G F F0 c env t v t', Ok K fa G H F F0 c σ env t ∧ m env t = some (v, t') ∧
  ∀ x H', Step c H H' → CellR K H' F c t' → RepV K fa H' F c x v → (fr = true → New K H H' F x v) → Q x H'
def tP (K : PySem.W.Frag) (fa : Nat → Addr) (m : MEnv → Mini.M Val) : TE := fun σ H Q => ∃ G F F0 c env t v t', Ok K fa G H F F0 c σ env t ∧ m env t = some (v, t') ∧
  ∀ x H', Step c H H' → CellR K H' F c t' → RepP K fa H' F c x v → Q x H'
def tS (K : PySem.W.Frag) (fa : Nat → Addr) (m : MEnv → Mini.M Val) : TE := fun σ H Q => ∃ G F F0 c env t v t', Ok K fa G H F F0 c σ env t ∧ m env t = some (v, t') ∧
  ∀ x H', Step c H H' → CellR K H' F c t' → RepS K fa H' F c x v → Q x H'
def tT (K : PySem.W.Frag) (fa : Nat → Addr) (m : MEnv → Mini.M Bool) : TT := fun σ H Q => ∃ G F F0 c env t b t', Ok K fa G H F F0 c σ env t ∧ m env t = some (b, t') ∧
  ∀ H', Step c H H' → CellR K H' F c t' → Q b H'
abbrev RepVs (R : V → Val → Prop) : List V → List Val → Prop := Paired R
def tAs (K : PySem.W.Frag) (fa : Nat → Addr) (m : MEnv → Mini.M (List Val)) : TA := fun σ H Q => ∃ G F F0 c env t vs t', Ok K fa G H F F0 c σ env t ∧ m env t = some (vs, t') ∧
  ∀ xs H', Step c H H' → CellR K H' F c t' → RepVs (RepV K fa H' F c) xs vs → Q xs H'
def tAP (K : PySem.W.Frag) (fa : Nat → Addr) (m : MEnv → Mini.M (List Val)) : TA := fun σ H Q => ∃ G F F0 c env t vs t', Ok K fa G H F F0 c σ env t ∧ m env t = some (vs, t') ∧
  ∀ xs H', Step c H H' → CellR K H' F c t' → RepVs (RepS K fa H' F c) xs vs → Q xs H'
theorem PE.of {X : Cx} {e : Expr} {t u : TE} (h : PE X e t) (i : ∀ σ H Q, u σ H Q → t σ H Q) : PE X e u := ⟨fun pins s σ H Q I q => h.run pins s σ H Q I (i σ H Q q)⟩
theorem PT.of {X : Cx} {e : Expr} {t u : TT} (h : PT X e t) (i : ∀ σ H Q, u σ H Q → t σ H Q) : PT X e u := ⟨fun pins s σ H Q I q => h.run pins s σ H Q I (i σ H Q q)⟩
theorem PA.of {X : Cx} {e : List Expr} {t u : TA} (h : PA X e t) (i : ∀ σ H Q, u σ H Q → t σ H Q) : PA X e u := ⟨fun pos pins s σ H Q I q => h.run pos pins s σ H Q I (i σ H Q q)⟩
theorem bnd_some {α β : Type} {m : Mini.M α} {f : α → Mini.M β} {t : Tap} {r : β × Tap} (h : bnd m f t = some r) : ∃ a t1, m t = some (a, t1) ∧ f a t1 = some r := by
  unfold bnd at h
  split at h
  · cases h
  · rename_i a t1 e; exact ⟨a, t1, e, h⟩
theorem lft_some {α : Type} {o : Option α} {t : Tap} {r : α × Tap} (h : lft o t = some r) : o = some r.1 ∧ t = r.2 := by
  unfold lft at h
  split at h
  · cases h
  · cases h; exact ⟨rfl, rfl⟩
/-- two operands that are read -/
theorem two_P {K : PySem.W.Frag} {fa : Nat → Addr} {m n : MEnv → Mini.M Val} {σ : L2.St} {H : Hp} {R : V → V → Hp → Prop} {G : Gh} {F F0 : List Addr} {c : Option Addr} {env : MEnv} {t t1 t2 : Tap} {x y : Val} (o : Ok K fa G H F F0 c σ env t) (hm : m env t = some (x, t1)) (hn : n env t1 = some (y, t2))
    (h : ∀ u v H2, Step c H H2 → CellR K H2 F c t2 → RepP K fa H2 F c u x → RepP K fa H2 F c v y → R u v H2) : tP K fa m σ H fun u H1 => tP K fa n σ H1 fun v H2 => R u v H2 :=
  ⟨G, F, F0, c, env, t, x, t1, o, hm, fun u H1 s1 c1 r1 => ⟨G, F, F0, c, env, t1, y, t2, o.step s1 c1, hn, fun v H2 s2 c2 r2 => h u v H2 (s1.trans s2) c2 (r1.step s2 c1.l) r2⟩⟩
end Snd

end

section
set_option Elab.async false
set_option linter.all false
set_option maxRecDepth 100000
set_option maxHeartbeats 4000000
/-! Operations on values by the mini language's. -/
namespace Snd
open PySem PySem.Spec PyProof.Rows L2
open Mini (ME MEs MT MTs MI MG MGs MS MSs Val Sl Tap Sig Def bnd ret fail lft cond peek)
theorem line_eq : Mini.line = sizeLine := by rw [sizeLine_eq]; rfl
def opX : Mini.BOp → Operator
  | .add => .Add | .sub => .Sub | .mul => .Mult | .fdiv => .FloorDiv | .mod => .Mod | .pow => .Pow
/-- what a new thing leaves -/
def Out (K : PySem.W.Frag) (H : Hp) (F : List Addr) (c : Option Addr) (t : Tap) (r : PyData) (Q : VK) : Prop := ∀ z H', Step c H H' → CellR K H' F c t → Rep K H' F z r → New K H H' F z (.d r) → Q z H'
section
variable {K : PySem.W.Frag} {H : Hp} {F : List Addr} {c : Option Addr} {t : Tap} {Q : VK}
theorem Out.same {z : V} {r : PyData} (o : Out K H F c t r Q) (cl : CellR K H F c t) (h : Rep K H F z r) (n : ∀ ds, r ≠ .list ds) : Q z H :=
  o z H Step.refl cl h fun ds e => by cases e; exact absurd rfl (n ds)
theorem Out.int {i : Int} (o : Out K H F c t (.int i) Q) (cl : CellR K H F c t) : Q (.int i) H := o.same cl (.int i) fun _ e => nomatch e
theorem Out.bl {i : Bool} (o : Out K H F c t (.bool i) Q) (cl : CellR K H F c t) : Q (.bl i) H := o.same cl (.bl i) fun _ e => nomatch e
theorem Out.lst {vs : List V} {ds : List PyData} (o : Out K H F c t (.list ds) Q) (cl : CellR K H F c t) (hF : ∀ a ∈ F, H a ≠ none) (z : vs.length ≤ sizeLine) (r : RepAll K H F vs ds) {p : Addr} (hp : H p = none) : Q (.ref p) (upd H p (.lst vs)) := by
  have hpF : p ∉ F := fun m => hF p m hp
  have st : Step c H (upd H p (.lst vs)) := Step.new hp
  refine o _ _ st (cl.new hp) (.lst upd_same hpF z (RepAll.step st cl.l r)) fun ds' e => ?_
  cases e
  exact ⟨p, vs, rfl, hp, upd_same, z, RepAll.step (Step.new hp) (fun a e => let ⟨m, q⟩ := cl.l a e; ⟨List.mem_cons_of_mem _ m, q⟩) (RepAll.add hp r)⟩
theorem Out.tup {vs : List V} {ds : List PyData} (o : Out K H F c t (.tuple ds) Q) (cl : CellR K H F c t) (z : vs.length ≤ sizeLine) (r : RepAll K H F vs ds) {p : Addr} (hp : H p = none) : Q (.ref p) (upd H p (.tup vs)) := by
  have st : Step c H (upd H p (.tup vs)) := Step.new hp
  exact o _ _ st (cl.new hp) (.tup (SqT.of upd_same) z (RepAll.step st cl.l r)) fun ds' e => nomatch e
theorem Out.str {x : Str} (o : Out K H F c t (.str x) Q) (cl : CellR K H F c t) : Q (.str x) H := o.same cl (.str x) fun _ e => nomatch e
end
def rB (K : PySem.W.Frag) (fa : Nat → Addr) (o : Mini.BOp) : R2 := fun x y H Q => ∃ F c t a b r, CellR K H F c t ∧ (∀ a ∈ F, H a ≠ none) ∧ RepP K fa H F c x (.d a) ∧ RepP K fa H F c y (.d b) ∧ Mini.bop o a b = some r ∧ Out K H F c t r Q
section
variable {X : Cx}
theorem op_fdivX : OpR X (binaryOp .FloorDiv) (rI (fun _ j => j ≠ 0 ∧ j.natAbs.log2 < 9000) fun i j => .int (i.fdiv j)) := opI fun _ _ _ _ _ _ _ hc q => floordiv_int hc.1 q (.inl (PyProof.noPylong_of_log2 hc.2))
theorem bits_small {i : Int} {n : Nat} (h : Mini.bits i < n) : i.natAbs < 2 ^ n := by
  by_cases h0 : i.natAbs = 0
  · rw [h0]; exact Nat.two_pow_pos n
  · exact (Nat.log2_lt h0).mp h
theorem op_B (fa : Nat → Addr) (o : Mini.BOp) : OpR X (binaryOp (opX o)) (rB X.K fa o) := by
  intro pins s σ H x y v u Q I rx ry h
  obtain ⟨F, c, t, a, b, r, cl, hF, ra, rb, e, out⟩ := h
  unfold Mini.bop at e
  split at e
  · cases e; exact op_add pins s σ H x y v u Q I rx ry ⟨_, _, ra.int, rb.int, out.int cl⟩
  · cases e; exact op_sub pins s σ H x y v u Q I rx ry ⟨_, _, ra.int, rb.int, out.int cl⟩
  · split at e
    · rename_i i j hm
      cases e
      have hm : i.natAbs.log2 + j.natAbs.log2 < 1000000 := of_decide_eq_true hm
      exact op_mulW pins s σ H x y v u Q I rx ry ⟨_, _, ra.int, rb.int, hm, out.int cl⟩
    · cases e
  · split at e
    · rename_i i j hm
      cases e
      obtain ⟨h1, h2⟩ := Bool.and_eq_true_iff.mp hm
      exact op_fdivX pins s σ H x y v u Q I rx ry ⟨_, _, ra.int, rb.int, ⟨of_decide_eq_true h1, of_decide_eq_true h2⟩, out.int cl⟩
    · cases e
  · split at e
    · rename_i i j hm
      cases e
      exact op_modN pins s σ H x y v u Q I rx ry ⟨_, _, ra.int, rb.int, hm, out.int cl⟩
    · cases e
  · split at e
    · rename_i i j hm
      cases e
      obtain ⟨h1, h2⟩ := Bool.and_eq_true_iff.mp hm
      obtain ⟨h2, h3⟩ := Bool.and_eq_true_iff.mp h2
      have h4 := bits_small (of_decide_eq_true h3)
      exact op_pow pins s σ H x y v u Q I rx ry ⟨_, _, ra.int, rb.int, ⟨of_decide_eq_true h1, Int.le_trans (of_decide_eq_true h2) (by decide), Nat.lt_of_lt_of_le h4 (by decide)⟩, out.int cl⟩
    · cases e
  · split at e
    · rename_i xs ys hz
      cases e
      obtain ⟨p, vs, rfl, h1, z1, q1⟩ := ra.tup
      obtain ⟨p2, ws, rfl, h2, z2, q2⟩ := rb.tup
      have l1 := q1.length
      have l2 := q2.length
      rw [line_eq] at hz
      refine op_catA pins s σ H _ _ v u Q I rx ry ⟨p, p2, vs, ws, rfl, rfl, h1, h2, by omega, fun e => ?_, fun _ e => ?_, fun _ _ p hp => out.tup cl (by rw [List.length_append]; omega) (q1.append q2) hp⟩
      · subst e; cases q1; exact out.same cl (.tup h2 z2 q2) fun _ z => nomatch z
      · subst e; cases q2; rw [List.append_nil] at out; exact out.same cl (.tup h1 z1 q1) fun _ z => nomatch z
    · cases e
  · split at e
    · rename_i xs ys hz
      cases e
      obtain ⟨p, vs, rfl, h1, z1, q1⟩ := ra.lst
      obtain ⟨p2, ws, rfl, h2, z2, q2⟩ := rb.lst
      have l1 := q1.length
      have l2 := q2.length
      rw [line_eq] at hz
      exact op_cat pins s σ H _ _ v u Q I rx ry ⟨p, p2, vs, ws, rfl, rfl, h1, h2, by omega, fun p hp => out.lst cl hF (by rw [List.length_append]; omega) (q1.append q2) hp⟩
    · cases e
  · split at e
    · rename_i xs n hz
      cases e
      obtain ⟨p, vs, rfl, h1, z1, q1⟩ := ra.lst
      have l1 := q1.length
      have q2 := RepAll.rep q1 n.toNat
      have l2 : (List.replicate n.toNat vs).flatten.length = vs.length * n.toNat := by
        rw [List.length_flatten, List.map_replicate, List.sum_replicate_nat, Nat.mul_comm]
      obtain ⟨hz1, hz2⟩ := hz
      rw [line_eq] at hz2
      exact op_rep pins s σ H _ _ v u Q I rx ry ⟨p, n, vs, rfl, rb.int, h1, by omega, by omega, by rw [l1]; exact hz2, fun p hp => out.lst cl hF (by rw [l2, l1]; exact hz2) q2 hp⟩
    · cases e
  · cases e

/-! ### comparisons -/
def opC : Mini.COp → CmpOp
  | .lt => .Lt | .le => .LtE | .gt => .Gt | .ge => .GtE | .eq => .Eq | .ne => .NotEq
  | .isN => .Is | .isT => .Is | .isF => .Is | .notN => .IsNot | .notT => .IsNot | .notF => .IsNot | .mem => .In | .nmem => .NotIn
def rC (K : PySem.W.Frag) (fa : Nat → Addr) (o : Mini.COp) : R2 := fun x y H Q => ∃ F c a b r, RepP K fa H F c x (.d a) ∧ RepP K fa H F c y (.d b) ∧ Mini.cop o a b = some r ∧ Q (.bl r) H
theorem non_dec {K : PySem.W.Frag} {fa : Nat → Addr} {H : Hp} {F : List Addr} {c : Option Addr} {x : V} {a : PyData} (r : RepP K fa H F c x (.d a)) : decide (x = .non) = Mini.isNon a := by
  cases r.dp <;> simp [Mini.isNon]
theorem op_C (fa : Nat → Addr) (hu : X.A.units + 64 < cLine) (o : Mini.COp) : OpR X (compareOp (opC o)) (rC X.K fa o) := by
  intro pins s σ H x y v u Q I rx ry h
  obtain ⟨F, c, a, b, r, ra, rb, e, q⟩ := h
  unfold Mini.cop at e
  split at e
  · cases e; exact op_lt pins s σ H x y v u Q I rx ry ⟨_, _, ra.int, rb.int, q⟩
  · cases e; exact op_le pins s σ H x y v u Q I rx ry ⟨_, _, ra.int, rb.int, q⟩
  · cases e; exact op_gt pins s σ H x y v u Q I rx ry ⟨_, _, ra.int, rb.int, q⟩
  · cases e; exact op_ge pins s σ H x y v u Q I rx ry ⟨_, _, ra.int, rb.int, q⟩
  · cases e
    have ex := ra.int
    have ey := rb.int
    subst ex; subst ey
    exact op_eq pins s σ H _ _ v u Q I rx ry ⟨rfl, by simpa using q⟩
  · cases e
    have ex := ra.int
    have ey := rb.int
    subst ex; subst ey
    exact op_ne pins s σ H _ _ v u Q I rx ry ⟨rfl, by simpa using q⟩
  · cases e
    have ex := ra.str
    have ey := rb.str
    subst ex; subst ey
    exact op_eq pins s σ H _ _ v u Q I rx ry ⟨rfl, by simpa using q⟩
  · cases e
    have ex := ra.str
    have ey := rb.str
    subst ex; subst ey
    exact op_ne pins s σ H _ _ v u Q I rx ry ⟨rfl, by simpa using q⟩
  · split at e
    · rename_i hs
      cases e
      obtain ⟨h1, h2⟩ := Bool.and_eq_true_iff.mp hs
      exact op_eqD hu pins s σ H x y v u Q I rx ry ⟨_, _, ra.dp, rb.dp, h1, h2, q⟩
    · cases e
  · split at e
    · rename_i hs
      cases e
      obtain ⟨h1, h2⟩ := Bool.and_eq_true_iff.mp hs
      exact op_neD hu pins s σ H x y v u Q I rx ry ⟨_, _, ra.dp, rb.dp, h1, h2, q⟩
    · cases e
  · cases e
    exact op_isN pins s σ H x y v u Q I rx ry ⟨rb.non, by rw [non_dec ra]; exact q⟩
  · cases e
    exact op_notN pins s σ H x y v u Q I rx ry ⟨rb.non, by rw [non_dec ra]; exact q⟩
  · cases e
    exact op_isBl pins s σ H x y v u Q I rx ry ⟨_, _, ra.bl, rb.bl, by simpa using q⟩
  · cases e
    exact op_isBl pins s σ H x y v u Q I rx ry ⟨_, _, ra.bl, rb.bl, by simpa using q⟩
  · cases e
    exact op_notBl pins s σ H x y v u Q I rx ry ⟨_, _, ra.bl, rb.bl, by simpa using q⟩
  · cases e
    exact op_notBl pins s σ H x y v u Q I rx ry ⟨_, _, ra.bl, rb.bl, by simpa using q⟩
  · cases e
theorem truth_V {K : PySem.W.Frag} {fa : Nat → Addr} {H : Hp} {F : List Addr} {c : Option Addr} {x : V} {a : PyData} {k : Bool} (r : RepP K fa H F c x (.d a)) (e : Mini.truth a = some k) : TruV K x H k := by
  unfold Mini.truth at e
  split at e
  · cases e; rw [r.bl]; exact rfl
  · cases e; rw [r.int]; exact rfl
  · cases e; rw [r.non]; exact rfl
  · cases e
    obtain ⟨p, vs, rfl, h, z, q⟩ := r.lst
    refine .inl ⟨vs, SqL.of h, ?_⟩
    cases q <;> rfl
  · cases e
    obtain ⟨p, vs, rfl, h, z, q⟩ := r.tup
    refine .inr (.inl ⟨vs, h, ?_⟩)
    cases q <;> rfl
  · cases e

/-! ### built-in functions -/
theorem ints_of {K : PySem.W.Frag} {H : Hp} {F : List Addr} : ∀ {ds : List PyData} {vs : List V} {l : List Int}, RepAll K H F vs ds → Mini.ints? ds = some l → vs = l.map V.int
  | [], _, l, r, e => by
    cases r
    have e : some [] = some l := e
    cases e; rfl
  | .int i :: ds, _, l, r, e => by
    cases r with
    | cons r1 r2 =>
      unfold Mini.ints? at e
      split at e
      · rename_i l2 e2
        cases e
        cases r1
        rw [ints_of r2 e2]; rfl
      · cases e
  | .none :: _, _, _, _, e | .bool _ :: _, _, _, _, e | .str _ :: _, _, _, _, e | .list _ :: _, _, _, _, e | .tuple _ :: _, _, _, _, e | .dict _ :: _, _, _, _, e => by cases e
theorem bools_of {K : PySem.W.Frag} {H : Hp} {F : List Addr} : ∀ {ds : List PyData} {vs : List V} {l : List Bool}, RepAll K H F vs ds → Mini.bools? ds = some l → vs = l.map V.bl
  | [], _, l, r, e => by
    cases r
    have e : some [] = some l := e
    cases e; rfl
  | .bool i :: ds, _, l, r, e => by
    cases r with
    | cons r1 r2 =>
      unfold Mini.bools? at e
      split at e
      · rename_i l2 e2
        cases e
        cases r1
        rw [bools_of r2 e2]; rfl
      · cases e
  | .none :: _, _, _, _, e | .int _ :: _, _, _, _, e | .str _ :: _, _, _, _, e | .list _ :: _, _, _, _, e | .tuple _ :: _, _, _, _, e | .dict _ :: _, _, _, _, e => by cases e
theorem sum_eq : ∀ l : List Int, Mini.sumI l = l.sum
  | [] => rfl
  | i :: l => by rw [Mini.sumI, sum_eq l, List.sum_cons]
def fnX : Mini.Bi → Value
  | .len => .builtin "len" | .abs => .builtin "abs" | .int => .type "int" | .tuple => .type "tuple" | .list => .type "list" | .max2 => .builtin "max" | .min2 => .builtin "min"
  | .sum => .builtin "sum" | .all => .builtin "all" | .gcd => .builtin "math.gcd" | .repr => .builtin "repr" | .divmod => .builtin "divmod" | .max1 => .builtin "max" | .min1 => .builtin "min" | .isqrt => .builtin "math.isqrt"
  | .lcm => .builtin "math.lcm" | .str1 => .type "str"
def rF (K : PySem.W.Frag) (fa : Nat → Addr) (b : Mini.Bi) : List V → Hp → VK → Prop := fun vs H Q => ∃ F c t as r, CellR K H F c t ∧ (∀ a ∈ F, H a ≠ none) ∧ RepVs (RepS K fa H F c) vs as ∧
  (match Mini.dats as with | some l => Mini.bfun b l | none => none) = some r ∧ Out K H F c t r Q
theorem dats_some {as : List Val} {ds : List PyData} (h : Mini.dats as = some ds) : as = ds.map Val.d := by
  induction as generalizing ds with
  | nil => cases h; rfl
  | cons a as ih =>
    cases a with
    | d x =>
      unfold Mini.dats at h
      split at h
      · rename_i l e
        cases h
        rw [ih e]; rfl
      · cases h
    | _ => cases h
theorem RepVs.one {R : V → Val → Prop} {vs : List V} {a : Val} (r : RepVs R vs [a]) : ∃ x, vs = [x] ∧ R x a := by
  cases r with | cons h q => cases q; exact ⟨_, rfl, h⟩
theorem RepVs.two {R : V → Val → Prop} {vs : List V} {a b : Val} (r : RepVs R vs [a, b]) : ∃ x y, vs = [x, y] ∧ R x a ∧ R y b := by
  cases r with | cons h q => cases q with | cons h2 q => cases q; exact ⟨_, _, rfl, h, h2⟩
theorem repr_D {pins : List (Addr × Obj)} {s : Shared} {σ : L2.St} {H : Hp} {x : V} {v : Value} {d : PyData} {Q : Value → Shared → Prop} {E : Value → Shared → Prop} (hg : X.A.guards = some []) (hu : X.A.units + 70 < cLine) (I : Inv X pins σ H s) (rx : RelV x v) (h : Dp X.K H x d)
    (hs : d.showable = true) (hz : d.shown.length ≤ sizeLine) (hh : SeqAt.shaped d = true) (q : ∀ s', Inv X pins σ H s' → ∀ u, Q (.str d.shown u) s') : wpAny (model X.prog X.w) X.A (PySem.call (.builtin "repr") [v]) Q E s := by
  obtain ⟨as, r⟩ := Dp.reads I d x v h rx
  have hd : d.depth ≤ 64 := SeqAt.depth_of_shaped hh
  have big : ∀ a, v = .ref a → wpAny (model X.prog X.w) X.A (PySem.call (.builtin "repr") [v]) Q E s := fun a e => by
    subst e
    exact repr_of_reads' r hs (PyData.noDict_hsm (PyData.hasDict_of_canLay d (SeqAt.canLay_of_shaped hh))) hg (by omega) (fun _ _ e => e) (fun h' u tk k => q _ (I.kept k) u) hz
  cases h with
  | non => cases rx; exact PySem.P.repr_of_none (q _ (I.tok _) _)
  | bl b => cases rx; exact PySem.P.repr_of_bool (q _ (I.tok _) _)
  | int i =>
    obtain ⟨t, rfl⟩ := rx
    exact PySem.P.repr_of_int (of_decide_eq_true hs) (q _ (I.tok _) _)
  | str z =>
    obtain ⟨t, rfl⟩ := rx
    exact PySem.P.repr_of_str (q _ (I.tok _) _) hz
  | lst _ _ => exact big _ rx
  | tup _ _ => exact big _ rx
theorem cr_F (fa : Nat → Addr) (hc : X.calm = true) (hg : X.A.guards = some []) (hu : X.A.units + 70 < cLine) (b : Mini.Bi) : CallR X (fnX b) (rF X.K fa b) := by
  intro pins s σ H vs us Q I r h
  obtain ⟨F, c, t, as, res, cl, hF, ra, e, out⟩ := h
  split at e
  · rename_i l hl
    rw [dats_some hl] at ra
    unfold Mini.bfun at e
    split at e
    · cases e
      obtain ⟨x, rfl, rx⟩ := ra.one
      obtain ⟨p, ws, rfl, hh, z, q⟩ := rx.lst
      exact call_len_seq pins s σ H _ us Q I r ⟨p, ws, rfl, .inl hh, by rw [q.length]; exact out.int cl⟩
    · cases e
      obtain ⟨x, rfl, rx⟩ := ra.one
      obtain ⟨p, ws, rfl, hh, z, q⟩ := rx.tup
      exact call_len_seq pins s σ H _ us Q I r ⟨p, ws, rfl, .inr hh, by rw [q.length]; exact out.int cl⟩
    · cases e
      obtain ⟨x, rfl, rx⟩ := ra.one
      have ex := rx.int
      subst ex
      exact call_abs pins s σ H _ us Q I r ⟨_, rfl, out.int cl⟩
    · cases e
      obtain ⟨x, rfl, rx⟩ := ra.one
      have ex := rx.int
      subst ex
      exact call_int1 pins s σ H _ us Q I r (.inl ⟨_, rfl, out.int cl⟩)
    · cases e
      obtain ⟨x, rfl, rx⟩ := ra.one
      have ex := rx.bl
      subst ex
      exact call_int1 pins s σ H _ us Q I r (.inr ⟨_, rfl, out.int cl⟩)
    · cases e
      obtain ⟨x, rfl, rx⟩ := ra.one
      obtain ⟨p, ws, rfl, hh, z, q⟩ := rx.lst
      exact call_tuple_of pins s σ H _ us Q I r ⟨p, ws, rfl, .inl ⟨hh, fun l hl => out.tup cl z q hl⟩⟩
    · cases e
      obtain ⟨x, rfl, rx⟩ := ra.one
      obtain ⟨p, ws, rfl, hh, z, q⟩ := rx.tup
      exact call_tuple_of pins s σ H _ us Q I r ⟨p, ws, rfl, .inr ⟨hh, out.same cl (.tup hh z q) fun _ z => nomatch z⟩⟩
    · cases e
      obtain ⟨x, rfl, rx⟩ := ra.one
      obtain ⟨p, ws, rfl, hh, z, q⟩ := rx.lst
      exact call_list_of pins s σ H _ us Q I r ⟨p, ws, rfl, .inl hh, fun l hl => out.lst cl hF z q hl⟩
    · cases e
      obtain ⟨x, rfl, rx⟩ := ra.one
      obtain ⟨p, ws, rfl, hh, z, q⟩ := rx.tup
      exact call_list_of pins s σ H _ us Q I r ⟨p, ws, rfl, .inr hh, fun l hl => out.lst cl hF z q hl⟩
    · cases e
      obtain ⟨x, y, rfl, rx, ry⟩ := ra.two
      have ex := rx.int
      have ey := ry.int
      subst ex; subst ey
      exact call_max2 hc pins s σ H _ us Q I r ⟨_, _, rfl, out.int cl⟩
    · cases e
      obtain ⟨x, y, rfl, rx, ry⟩ := ra.two
      have ex := rx.int
      have ey := ry.int
      subst ex; subst ey
      exact call_min2 hc pins s σ H _ us Q I r ⟨_, _, rfl, out.int cl⟩
    · cases e
      obtain ⟨x, y, rfl, rx, ry⟩ := ra.two
      have ex := rx.int
      have ey := ry.int
      subst ex; subst ey
      exact cr_gcd pins s σ H _ us Q I r ⟨_, _, rfl, out.int cl⟩
    · split at e
      · rename_i hc1
        cases e
        obtain ⟨h1, h2⟩ := Bool.and_eq_true_iff.mp hc1
        obtain ⟨h2, h3⟩ := Bool.and_eq_true_iff.mp h2
        obtain ⟨x, rfl, rx⟩ := ra.one
        obtain ⟨u, rfl, ru⟩ := vals1 r
        exact repr_D hg hu I ru rx.dp h1 (by rw [← line_eq]; exact of_decide_eq_true h2) h3 fun s' I' u => ⟨.str _, H, I', ⟨_, rfl⟩, out.str cl⟩
      · cases e
    · split at e
      · rename_i hc1
        cases e
        obtain ⟨h1, h2⟩ := Bool.and_eq_true_iff.mp hc1
        obtain ⟨x, y, rfl, rx, ry⟩ := ra.two
        have ex := rx.int
        have ey := ry.int
        subst ex; subst ey
        exact call_divmod pins s σ H _ us Q I r ⟨_, _, rfl, ⟨of_decide_eq_true h1, of_decide_eq_true h2⟩, fun p hp => out.tup cl (by show 2 ≤ sizeLine; decide) (.cons (.int _) (.cons (.int _) .nil)) hp⟩
      · cases e
    · split at e
      · rename_i l2 hl2
        cases e
        obtain ⟨x, rfl, rx⟩ := ra.one
        obtain ⟨p, ws, rfl, hh, z, q⟩ := rx.lst
        rw [ints_of q hl2] at hh
        exact cr_sum hc pins s σ H _ us Q I r ⟨p, l2, rfl, hh, by rw [← sum_eq]; exact out.int cl⟩
      · cases e
    · split at e
      · rename_i l2 hl2
        cases e
        obtain ⟨x, rfl, rx⟩ := ra.one
        obtain ⟨p, ws, rfl, hh, z, q⟩ := rx.lst
        rw [bools_of q hl2] at hh
        exact cr_all hc pins s σ H _ us Q I r ⟨p, l2, rfl, hh, out.bl cl⟩
      · cases e
    · cases e
  · cases e
end
end Snd

end

section
set_option Elab.async false
set_option linter.all false
set_option maxRecDepth 100000
set_option maxHeartbeats 4000000
/-! The text against the mini language: a check by computation; what a def promises. -/
namespace Snd
open PySem PySem.Spec PyProof.Rows L2
open Mini (ME MEs MT MTs MI MG MGs MS MSs Val Sl Tap Sig Def bnd ret fail lft cond peek look)
def visB (sc : Scope) (x : Str) : Bool := match sc.names.lookup x with
  | some .local => true
  | some .cell => true
  | some .free => true
  | _ => false
theorem visB_ok {sc : Scope} {x : Str} (h : visB sc x = true) : Vis sc x := by
  unfold visB at h
  unfold Vis
  split at h
  · exact .inl (by assumption)
  · exact .inr (.inl (by assumption))
  · exact .inr (.inr (by assumption))
  · cases h
def locB (sc : Scope) (x : Str) : Bool := match sc.names.lookup x with
  | some .local => true
  | some .cell => true
  | _ => false
theorem locB_ok {sc : Scope} {x : Str} (h : locB sc x = true) : L2.Loc sc x := by
  unfold locB at h
  unfold L2.Loc
  split at h
  · exact .inl (by assumption)
  · exact .inr (by assumption)
  · cases h
def glB (sc : Scope) (x : Str) : Bool := match sc.names.lookup x with
  | some .globalImplicit => true
  | _ => false
theorem glB_ok {sc : Scope} {x : Str} (h : glB sc x = true) : sc.names.lookup x = some .globalImplicit := by
  unfold glB at h
  split at h
  · assumption
  · cases h
/-- no name of the machine's own -/
def nmB (x : Str) : Bool := !(x == ("__debug__" : Str)) && (!(x == ("__classdict__" : Str)) && !(x == ("__name__" : Str)))
theorem nmB_ok {x : Str} (h : nmB x = true) : (x == ("__debug__" : Str)) = false ∧ (x == ("__classdict__" : Str)) = false ∧ x ≠ "__name__" := by
  unfold nmB at h
  simp only [Bool.and_eq_true, Bool.not_eq_true'] at h
  exact ⟨h.1, h.2.1, fun e => by rw [e] at h; simp at h⟩
def strB (a b : Str) : Bool := decide (a = b)
def biName : Mini.Bi → Str
  | .len => "len" | .abs => "abs" | .int => "int" | .tuple => "tuple" | .list => "list" | .max2 => "max" | .min2 => "min" | .sum => "sum" | .all => "all" | .gcd => "gcd" | .repr => "repr"
  | .divmod => "divmod" | .max1 => "max" | .min1 => "min" | .isqrt => "isqrt" | .lcm => "lcm" | .str1 => "str"
def impB (S : Sig) (b : Mini.Bi) : Bool := match b with
  | .gcd => (match S.imps.lookup ("gcd" : Str) with | some id => decide (id = "math.gcd") | none => false)
  | .isqrt => false
  | .lcm => false
  | _ => true
def tyName : Mini.Ty → Str
  | .int => "int" | .bool => "bool" | .tuple => "tuple" | .str => "str" | .list => "list"
def opB : Mini.BOp → Operator → Bool
  | .add, .Add => true | .sub, .Sub => true | .mul, .Mult => true | .fdiv, .FloorDiv => true | .mod, .Mod => true | .pow, .Pow => true
  | _, _ => false
theorem opB_ok {o : Mini.BOp} {p : Operator} (h : opB o p = true) : p = opX o := by cases o <;> cases p <;> first | rfl | cases h
def cB : Mini.COp → CmpOp → Bool
  | .lt, .Lt => true | .le, .LtE => true | .gt, .Gt => true | .ge, .GtE => true | .eq, .Eq => true | .ne, .NotEq => true
  | .isN, .Is => true | .isT, .Is => true | .isF, .Is => true | .notN, .IsNot => true | .notT, .IsNot => true | .notF, .IsNot => true
  | _, _ => false
theorem cB_ok {o : Mini.COp} {p : CmpOp} (h : cB o p = true) : p = opC o ∧ p ≠ .In ∧ p ≠ .NotIn := by
  cases o <;> cases p <;> first | (refine ⟨rfl, ?_, ?_⟩ <;> intro z <;> cases z; done) | cases h
def andB (b : Bool) : BoolOp → Bool
  | .And => b
  | .Or => !b
def kwB (d : Def) (n : Nat) (ks : List Str) : Bool := d.forms.any fun p => decide (p = (n, ks))
def cnt : MEs → Nat
  | .nil => 0
  | .cons _ es => cnt es + 1
  | .star _ es => cnt es + 1
def starless : MEs → Bool
  | .nil => true
  | .cons _ es => starless es
  | .star _ _ => false
/-- a comprehension's own names and their slots -/
def ownG : Expr → List Str
  | .Name x _ => [x]
  | .Tuple es _ _ => es.filterMap fun | .Name x _ => some x | _ => none
  | _ => []
def ownOf (g : MG) (tg : Expr) : List (Str × Nat) := (ownG tg).zip (Mini.gslots g)
/-- targets of a comprehension: a name, or a flat tuple of names -/
def flatG : MG → Bool
  | .nm _ => true
  | .tup gs => flatGs gs
  | .sub _ _ => false
where flatGs : MGs → Bool
  | .nil => true
  | .cons (.nm _) gs => flatGs gs
  | .cons _ _ => false
def bareE : Expr → Bool
  | .UnaryOp .. => false
  | .BoolOp .. => false
  | .IfExp .. => false
  | .Compare .. => false
  | _ => true
mutual
def chkE (S : Sig) (N : List Str) : ME → Scope → Expr → Bool
  | .nm i, sc, .Name x _ => decide (N[i]? = some x) && (visB sc x && nmB x)
  | .gl k, sc, .Name x _ => (match S.consts[k]? with | some p => strB p.1 x | none => false) && (glB sc x && nmB x)
  | .fnv k, sc, .Name x _ => (match S.defs[k]? with | some d => strB d.name x | none => false) && (glB sc x && nmB x)
  | .int i, _, .Constant (.int j) _ _ => decide (i = j)
  | .str i, _, .Constant (.str j) _ _ => strB i j
  | .bl i, _, .Constant (.bool j) _ _ => i == j
  | .non, _, .Constant .none _ _ => true
  | .bin o a b, sc, .BinOp x p y _ => opB o p && (chkE S N a sc x && chkE S N b sc y)
  | .neg a, sc, .UnaryOp .USub x _ => chkE S N a sc x
  | .notv a, sc, .UnaryOp .Not x _ => chkE S N a sc x
  | .cmp o a b, sc, .Compare x [p] [y] _ => cB o p && (chkE S N a sc x && chkE S N b sc y)
  | .boolv isAnd es, sc, .BoolOp p vs _ => andB isAnd p && (starless es && (decide (0 < cnt es) && chkEs S N es sc vs))
  | .ife t a b, sc, .IfExp c x y _ => chkT S N t sc c && (chkE S N a sc x && chkE S N b sc y)
  | .tup es, sc, .Tuple vs _ _ => decide (cnt es ≤ 1000) && chkEs S N es sc vs
  | .lst es, sc, .List vs _ => decide (cnt es ≤ 1000) && chkEs S N es sc vs
  | .idx a i, sc, .Subscript x y _ => chkE S N a sc x && chkE S N i sc y
  | .slLo a lo, sc, .Subscript x (.Slice (some l) none none _) _ => chkE S N a sc x && chkE S N lo sc l
  | .slHi a hi, sc, .Subscript x (.Slice none (some h) none _) _ => chkE S N a sc x && chkE S N hi sc h
  | .slLH a lo hi, sc, .Subscript x (.Slice (some l) (some h) none _) _ => chkE S N a sc x && (chkE S N lo sc l && chkE S N hi sc h)
  | .slRev a, sc, .Subscript x (.Slice none none (some (.UnaryOp .USub (.Constant (.int 1) _ _) _)) _) _ => chkE S N a sc x
  | .call k es ks kw, sc, .Call (.Name x _) args kws _ => (match S.defs[k]? with | some d => strB d.name x && kwB d (cnt es) ks | none => false) && (glB sc x && nmB x) && (starless es && starless kw) && (chkEs S N es sc args && chkK S N kw ks sc kws)
  | .callT k e es, sc, .Call (.Name x _) (a :: args) [] _ => (match S.defs[k]? with | some d => strB d.name x && (kwB d (cnt es + 1) [] && decide (d.params.length = cnt es + 1)) | none => false) && (glB sc x && nmB x) && starless es && (frE S e && (chkE S N e sc a && chkEs S N es sc args))
  | .bi b es, sc, .Call (.Name x _) args [] _ => strB (biName b) x && (impB S b && (glB sc x && (starless es && (decide (0 < cnt es) && chkEs S N es sc args))))
  | .isin e t, sc, .Call (.Name x _) [a, .Name y _] [] _ => strB "isinstance" x && (strB (tyName t) y && (glB sc x && (glB sc y && chkE S N e sc a)))
  | .comp elt g it, sc, .ListComp x [⟨tg, iter, [], 0⟩] scope _ => blkC N sc scope (ownOf g tg) && (flatG g && (chkI S N it sc tg iter && (chkG S N g scope tg && chkE S N elt (relS scope sc) x)))
  | .compIf elt g it t, sc, .ListComp x [⟨tg, iter, [c], 0⟩] scope _ => blkC N sc scope (ownOf g tg) && (flatG g && (chkI S N it sc tg iter && (chkG S N g scope tg && (chkT S N t (relS scope sc) c && chkE S N elt (relS scope sc) x))))
  | _, _, _ => false
def chkEs (S : Sig) (N : List Str) : MEs → Scope → List Expr → Bool
  | .nil, _, [] => true
  | .cons e es, sc, x :: xs => chkE S N e sc x && chkEs S N es sc xs
  | .star e es, sc, .Starred x _ :: xs => chkE S N e sc x && chkEs S N es sc xs
  | _, _, _ => false
def chkK (S : Sig) (N : List Str) : MEs → List Str → Scope → List Keyword → Bool
  | .nil, [], _, [] => true
  | .cons e es, k :: ks, sc, ⟨some x, v, _⟩ :: r => strB k x && (chkE S N e sc v && chkK S N es ks sc r)
  | _, _, _, _ => false
def chkT (S : Sig) (N : List Str) : MT → Scope → Expr → Bool
  | .not t, sc, .UnaryOp .Not x _ => chkT S N t sc x
  | .cmp o a b, sc, .Compare x [p] [y] _ => cB o p && (chkE S N a sc x && chkE S N b sc y)
  | .all isAnd ts, sc, .BoolOp p vs _ => andB isAnd p && (decide (vs ≠ []) && chkTs S N ts sc vs)
  | .val e, sc, x => chkE S N e sc x && bareE x
  | _, _, _ => false
def chkTs (S : Sig) (N : List Str) : MTs → Scope → List Expr → Bool
  | .nil, _, [] => true
  | .cons t ts, sc, x :: xs => chkT S N t sc x && chkTs S N ts sc xs
  | _, _, _ => false
def chkI (S : Sig) (N : List Str) : MI → Scope → Expr → Expr → Bool
  | .seq e, sc, _, x => chkE S N e sc x
  | .rng1 a, sc, _, .Call (.Name x _) [y] [] _ => strB "range" x && (glB sc x && chkE S N a sc y)
  | .rng2 a b, sc, _, .Call (.Name x _) [y, z] [] _ => strB "range" x && (glB sc x && (chkE S N a sc y && chkE S N b sc z))
  | .zip a b, sc, .Tuple _ _ _, .Call (.Name x _) [y, z] [] _ => strB "zip" x && (glB sc x && (chkE S N a sc y && chkE S N b sc z))
  | .enum a, sc, .Tuple _ _ _, .Call (.Name x _) [y] [] _ => strB "enumerate" x && (glB sc x && chkE S N a sc y)
  | _, _, _, _ => false
def chkG (S : Sig) (N : List Str) : MG → Scope → Expr → Bool
  | .nm i, sc, .Name x _ => decide (N[i]? = some x) && (locB sc x && nmB x)
  | .tup gs, sc, .Tuple es _ _ => chkGs S N gs sc es
  | .sub i e, sc, .Subscript (.Name x _) y _ => decide (N[i]? = some x) && (visB sc x && (nmB x && chkE S N e sc y))
  | _, _, _ => false
def chkGs (S : Sig) (N : List Str) : MGs → Scope → List Expr → Bool
  | .nil, _, [] => true
  | .cons g gs, sc, x :: xs => chkG S N g sc x && chkGs S N gs sc xs
  | _, _, _ => false
def frE (S : Sig) : ME → Bool
  | .lst _ => true
  | .bin _ _ _ => true
  | .comp _ _ _ => true
  | .compIf _ _ _ _ => true
  | .bi _ _ => true
  | .slLo _ _ => true
  | .slHi _ _ => true
  | .slLH _ _ _ => true
  | .slRev _ => true
  | .call k _ _ _ => (match S.defs[k]? with | some d => d.fresh | none => false)
  | _ => false
end

/-! ### what a def promises -/
def spD (K : PySem.W.Frag) (fa : Nat → Addr) (fr : Bool) (m : List Val → Mini.M Val) (vs : List V) (H : Hp) (Q : VK) : Prop := ∃ F c t as r t', CellR K H F c t ∧ (∀ a ∈ F, ∃ vs, H a = some (.lst vs)) ∧ RepVs (RepV K fa H F c) vs as ∧ m as t = some (r, t') ∧
  ∀ x H', Step c H H' → CellR K H' F c t' → RepV K fa H' F c x r → (fr = true → New K H H' F x r) → Q x H'
abbrev noX : CXT := fun _ _ _ _ _ _ => False
structure FnG (P : Program) (w : World) (K : PySem.W.Frag) (mg : Str → Option Value) (base : Heap) (fa : Nat → Addr) (k : Nat) (f : Addr) (d : Def) (m : List Val → Mini.M Val) : Prop where
  kp : PySem.W.keepIn K (.ref f) = true
  run : ∃ fd : FuncData, (∀ n ks, (n, ks) ∈ d.forms → ∀ (s : Shared) (us ws zs : List Value), us.length = n → ws.length = ks.length → Mini.bindKw d.params ks us ws = some zs → BindsTo s fd ⟨us, ks.zip ws⟩ (d.params.zip zs)) ∧
    ∀ (A : Around) (outer : List Env) (s : Shared) (H : Hp) (args : Args) (us : List Value) (vs : List V) (Q : VK), A.guards = some [] → Room k A → Env0 P w K mg base A outer s H → BindsTo s fd args (d.params.zip us) → Vals vs us → spD K fa d.fresh m vs H Q →
      codeAny (model P w) A (.call (.ref f) args) (CR noX outer P w H s Q (fun _ _ _ => False)) s
theorem run_G {X : Cx} {fa : Nat → Addr} {k : Nat} {f : Addr} {d : Def} {m : List Val → Mini.M Val} {fd : FuncData} {pins : List (Addr × Obj)} {s : Shared} {σ : L2.St} {H : Hp} {args : Args} {us : List Value} {vs : List V} {Q : VK}
    (G : ∀ (A : Around) (outer : List Env) (s : Shared) (H : Hp) (args : Args) (us : List Value) (vs : List V) (Q : VK), A.guards = some [] → Room k A → Env0 X.prog X.w X.K X.mg X.base A outer s H → BindsTo s fd args (d.params.zip us) → Vals vs us → spD X.K fa d.fresh m vs H Q →
      codeAny (model X.prog X.w) A (.call (.ref f) args) (CR noX outer X.prog X.w H s Q (fun _ _ _ => False)) s)
    (hg : X.A.guards = some []) (hr : Room k X.A) (I : Inv X pins σ H s) (b : BindsTo s fd args (d.params.zip us)) (r : Vals vs us) (h : spD X.K fa d.fresh m vs H Q) :
    wpAny (model X.prog X.w) X.A (PySem.call (.ref f) args.pos args.kw) (EP X pins σ Q) X.xe s := by
  refine wpAny_call (codeAny_mono (G X.A X.stack s H args us vs Q hg hr I.env0 b r h) fun r s' hq => ?_)
  cases r with
  | error e => exact False.elim hq
  | ok fl =>
    cases fl with
    | ret u => exact I.after hq
    | next => exact False.elim hq
    | brk => exact False.elim hq
    | cont => exact False.elim hq
/-- where a text runs -/
structure Gd (S : Sig) (C : Mini.Call) (fa : Nat → Addr) (k : Nat) (N : List Str) (sc ss : Scope) (X : Cx) : Prop where
  calm : X.calm = true
  scope : X.env.scope = sc
  hN : X.N = N
  nd : N.Nodup
  hf : ∀ x, L2.Loc ss x → L2.Loc X.env.scope x ∧ (X.fn x = true ∨ X.env.scope.names.lookup x = some .local)
  guards : X.A.guards = some []
  room : Room k X.A
  blt : ∀ x : Str, x ∈ ([("len" : Str), "abs", "int", "tuple", "list", "max", "min", "sum", "all", "repr", "divmod", "isinstance", "range", "zip", "enumerate", "bool", "str"] : List Str) → X.mg x = none
  imp : ∀ (x : Str) (id : String), S.imps.lookup x = some id → X.mg x = some (.builtin id)
  con : ∀ (i : Nat) (p : Str × PyData), S.consts[i]? = some p → ∃ u v, X.mg p.1 = some u ∧ RelV v u ∧ ∀ H F, Rep X.K H F v p.2
  fns : ∀ (i : Nat) (d : Def), S.defs[i]? = some d → X.mg d.name = some (.ref (fa i)) ∧ FnG X.prog X.w X.K X.mg X.base fa k (fa i) d (C i)
theorem Gd.units {S : Sig} {C : Mini.Call} {fa : Nat → Addr} {k : Nat} {N : List Str} {sc ss : Scope} {X : Cx} (g : Gd S C fa k N sc ss X) : X.A.units + 70 < cLine := by
  have := g.room.un
  omega
theorem rel_look {scope sc : Scope} {x : Str} {kd : NameKind} (hk : kd ≠ .free) (h : scope.names.lookup x = some kd) : (relS scope sc).names.lookup x = some kd := by
  have main : ∀ l : List (Str × NameKind), l.lookup x = some kd → (l.map fun (n, k) => if (k == .free && sc.kind == .function && sc.names.lookup n == some .cell) then (n, NameKind.cell) else (n, k)).lookup x = some kd := by
    intro l
    induction l with
    | nil => intro h; cases h
    | cons p r ih =>
      obtain ⟨n, k⟩ := p
      intro h
      rw [List.map_cons]
      rw [List.lookup_cons] at h
      cases e : (x == n) with
      | true =>
        rw [e] at h
        have hh : k = kd := Option.some.inj h
        subst hh
        have hk2 : (k == NameKind.free) = false := by cases k <;> first | rfl | exact absurd rfl hk
        dsimp only
        rw [hk2]
        rw [if_neg (by simp)]
        rw [List.lookup_cons, e]
      | false =>
        rw [e] at h
        dsimp only
        split
        · rw [List.lookup_cons, e]; exact ih h
        · rw [List.lookup_cons, e]; exact ih h
  exact main _ h
theorem Gd.blk {S : Sig} {C : Mini.Call} {fa : Nat → Addr} {k : Nat} {N : List Str} {sc ss : Scope} {X : Cx} (g : Gd S C fa k N sc ss X) (scope : Scope) (s : Shared) (H : Hp) (Ca : Addr) (cl : List (Str × Addr)) (fp : List Addr) :
    Gd S C fa k N (relS scope sc) scope (X.blk s H scope (compEnvC scope cl Ca X.env) fp) where
  calm := g.calm
  scope := by
    have e : (compEnvC scope cl Ca X.env).scope = relS scope X.env.scope := rfl
    rw [← g.scope]
    exact e
  hN := g.hN
  nd := g.nd
  hf := fun x h => by
    have e : (compEnvC scope cl Ca X.env).scope = relS scope X.env.scope := rfl
    show L2.Loc (compEnvC scope cl Ca X.env).scope x ∧ ((scope.names.lookup x == some NameKind.cell) = true ∨ (compEnvC scope cl Ca X.env).scope.names.lookup x = some .local)
    rw [e]
    rcases h with h | h
    · exact ⟨.inl (rel_look (by decide) h), .inr (rel_look (by decide) h)⟩
    · exact ⟨.inr (rel_look (by decide) h), .inl (by rw [h]; rfl)⟩
  guards := g.guards
  room := g.room
  blt := g.blt
  imp := g.imp
  con := g.con
  fns := g.fns
end Snd

end

section
set_option Elab.async false
set_option linter.all false
set_option maxRecDepth 100000
set_option maxHeartbeats 8000000
/-! Small facts for the expressions. -/
namespace Snd
open PySem PySem.Spec PyProof.Rows L2
open Mini (ME MEs MT MTs MI MG MGs MS MSs Val Sl Tap Sig Def bnd ret fail lft cond peek look)
section
variable {S : Sig} {N : List Str} {sc : Scope}
theorem ns {m : ME} {e : Expr} (c : chkE S N m sc e = true) (es : List Expr) (env : Env) : starEach (e :: es) env = (false, eval e env) :: starEach es env := by
  cases e <;> first
    | rfl
    | (cases m <;> exact absurd c Bool.false_ne_true)
theorem plain {m : ME} {e : Expr} (c : chkE S N m sc e = true) : PlainIx e := by
  cases e <;> first
    | exact fun _ _ => rfl
    | (cases m <;> exact absurd c Bool.false_ne_true)
theorem nofold {m : ME} {e : Expr} (c : chkE S N m sc e = true) (env : Env) (x : Value) : foldedSetIterable e env x = pure x := by
  cases e <;> first
    | rfl
    | (cases m <;> exact absurd c Bool.false_ne_true)
theorem plains : ∀ {ms : MEs} {es : List Expr}, starless ms = true → chkEs S N ms sc es = true → ∀ (env : Env) (pos : Pos), (backTo pos (starEach es env)).any (·.1) = false
  | .nil, [], _, _, _, _ => rfl
  | .nil, _ :: _, _, c, _, _ => absurd c Bool.false_ne_true
  | .cons m ms, [], _, c, _, _ => absurd c Bool.false_ne_true
  | .cons m ms, e :: es, s, c, env, pos => by
    obtain ⟨c1, c2⟩ := Bool.and_eq_true_iff.mp (show (chkE S N m sc e && chkEs S N ms sc es) = true from c)
    rw [ns c1]
    show (false || (backTo pos (starEach es env)).any (·.1)) = false
    rw [Bool.false_or]
    exact plains (ms := ms) s c2 env pos
  | .star _ _, _, s, _, _, _ => absurd s Bool.false_ne_true
end

/-! ### arguments in the parameters' order -/
section
variable {α β : Type} {R : α → β → Prop}
theorem look_rel {p : Str} : ∀ {ks : List Str} {vs : List α} {ws : List β}, Paired R vs ws → ((ks.zip vs).lookup p = none ∧ (ks.zip ws).lookup p = none) ∨ ∃ x y, (ks.zip vs).lookup p = some x ∧ (ks.zip ws).lookup p = some y ∧ R x y
  | [], _, _, _ => .inl ⟨rfl, rfl⟩
  | _ :: _, _, _, .nil => .inl ⟨rfl, rfl⟩
  | k :: ks, _, _, .cons (a := a) (b := b) r q => by
    rw [List.zip_cons_cons, List.zip_cons_cons, List.lookup_cons, List.lookup_cons]
    cases h : (p == k) with
    | true => exact .inr ⟨a, b, rfl, rfl, r⟩
    | false => exact look_rel q
theorem bind_rel {ks : List Str} {ws : List α} {zs : List β} (r2 : Paired R ws zs) : ∀ {ps : List Str} {vs : List α} {us : List β}, Paired R vs us →
    (Mini.bindKw ps ks vs ws = none ∧ Mini.bindKw ps ks us zs = none) ∨ ∃ x y, Mini.bindKw ps ks vs ws = some x ∧ Mini.bindKw ps ks us zs = some y ∧ Paired R x y
  | [], _, _, .nil => .inr ⟨[], [], rfl, rfl, .nil⟩
  | [], _, _, .cons _ _ => .inl ⟨rfl, rfl⟩
  | p :: ps, _, _, .cons (a := a) (b := b) r q => by
    unfold Mini.bindKw
    rcases bind_rel r2 (ps := ps) q with ⟨e1, e2⟩ | ⟨x, y, e1, e2, e3⟩
    · rw [e1, e2]; exact .inl ⟨rfl, rfl⟩
    · rw [e1, e2]; exact .inr ⟨_, _, rfl, rfl, .cons r e3⟩
  | p :: ps, _, _, .nil => by
    unfold Mini.bindKw
    rcases look_rel (p := p) (ks := ks) r2 with ⟨e1, e2⟩ | ⟨u, v, e1, e2, e3⟩
    · rw [e1, e2]; exact .inl ⟨rfl, rfl⟩
    · rcases bind_rel r2 (ps := ps) (vs := []) (us := []) .nil with ⟨f1, f2⟩ | ⟨x, y, f1, f2, f3⟩
      · rw [e1, e2, f1, f2]; exact .inl ⟨rfl, rfl⟩
      · rw [e1, e2, f1, f2]; exact .inr ⟨_, _, rfl, rfl, .cons e3 f3⟩
theorem bind_right {ks ps : List Str} {ws vs : List α} {zs us y : List β} (r1 : Paired R vs us) (r2 : Paired R ws zs) (h : Mini.bindKw ps ks us zs = some y) : ∃ x, Mini.bindKw ps ks vs ws = some x ∧ Paired R x y := by
  rcases bind_rel (ks := ks) r2 (ps := ps) r1 with ⟨_, e⟩ | ⟨x, y', e1, e2, e3⟩
  · rw [e] at h; cases h
  · rw [e2] at h; cases h; exact ⟨x, e1, e3⟩
theorem bind_left {ks ps : List Str} {ws vs x : List α} {zs us : List β} (r1 : Paired R vs us) (r2 : Paired R ws zs) (h : Mini.bindKw ps ks vs ws = some x) : ∃ y, Mini.bindKw ps ks us zs = some y ∧ Paired R x y := by
  rcases bind_rel (ks := ks) r2 (ps := ps) r1 with ⟨e, _⟩ | ⟨x', y, e1, e2, e3⟩
  · rw [e] at h; cases h
  · rw [e1] at h; cases h; exact ⟨y, e2, e3⟩
end
theorem bind_none {α : Type} : ∀ {ps : List Str} {vs as : List α}, Mini.bindKw ps [] vs [] = some as → as = vs ∧ vs.length = ps.length
  | [], [], as, h => by cases h; exact ⟨rfl, rfl⟩
  | [], _ :: _, _, h => by cases h
  | p :: ps, [], _, h => by unfold Mini.bindKw at h; simp at h
  | p :: ps, v :: vs, as, h => by
    unfold Mini.bindKw at h
    split at h
    · rename_i l e
      cases h
      obtain ⟨e1, e2⟩ := bind_none e
      subst e1
      exact ⟨rfl, by simp [e2]⟩
    · cases h

/-! ### reading a slot -/
section
variable {S : Sig} {C : Mini.Call} {fa : Nat → Addr} {k : Nat} {N : List Str} {sc ss : Scope} {X : Cx}
theorem slot_some {env : MEnv} {i : Nat} {v : Val} (h : Mini.slot env i = some v) : env[i]? = some (.v v) := by
  unfold Mini.slot at h
  split at h
  · cases h; assumption
  · cases h
theorem var_P {i : Nat} {x : Str} {pos : Pos} (g : Gd S C fa k N sc ss X) (c : chkE S N (.nm i) sc (.Name x pos) = true) : PE X (.Name x pos) (tVar i) := by
  obtain ⟨c1, c2⟩ := Bool.and_eq_true_iff.mp (show (decide (N[i]? = some x) && (visB sc x && nmB x)) = true from c)
  obtain ⟨c2, c3⟩ := Bool.and_eq_true_iff.mp c2
  obtain ⟨n1, n2, _⟩ := nmB_ok c3
  exact pe_var (by rw [g.hN]; exact of_decide_eq_true c1) (by rw [g.scope]; exact visB_ok c2) n1 n2
theorem peek_nm (env : MEnv) (i : Nat) (m : Mini.M Val) : (∃ xs, env[i]? = some (.own xs) ∧ peek (.nm i) env m = ret (.d (.list xs))) ∨ peek (.nm i) env m = m := by
  cases h : env[i]? with
  | none => right; simp [peek, h]
  | some s =>
    cases s with
    | non => right; simp [peek, h]
    | v x => right; simp [peek, h]
    | own xs => left; exact ⟨xs, rfl, by simp [peek, h]⟩
theorem look_nm (env : MEnv) (i : Nat) (m : Mini.M Val) : (∃ xs, env[i]? = some (.own xs) ∧ look (.nm i) env m = ret (.d (.list xs))) ∨ (∃ xs, env[i]? = some (.v (.scr xs)) ∧ look (.nm i) env m = ret (.d (.list xs))) ∨ look (.nm i) env m = m := by
  cases h : env[i]? with
  | none => right; right; simp [look, h]
  | some s =>
    cases s with
    | non => right; right; simp [look, h]
    | v x =>
      cases x with
      | scr xs => right; left; exact ⟨xs, rfl, by simp [look, h]⟩
      | _ => right; right; simp [look, h]
    | own xs => left; exact ⟨xs, rfl, by simp [look, h]⟩
theorem toP {m : ME} {e : Expr} {fr : Bool} (g : Gd S C fa k N sc ss X) (c : chkE S N m sc e = true) (h : PE X e (tE X.K fa (Mini.ev S C m) fr)) : PE X e (tP X.K fa fun env => peek m env (Mini.ev S C m env)) := by
  have main : (∀ env, peek m env (Mini.ev S C m env) = Mini.ev S C m env) → PE X e (tP X.K fa fun env => peek m env (Mini.ev S C m env)) := fun hm => PE.of h fun σ H Q ⟨G, F, F0, c, env, t, v, t', o, he, q⟩ =>
    ⟨G, F, F0, c, env, t, v, t', o, by rw [← hm env]; exact he, fun x H' s cl r _ => q x H' s cl (.inl r)⟩
  cases m with
  | nm i =>
    cases e with
    | Name x pos =>
      refine PE.of (var_P g c) fun σ H Q ⟨G, F, F0, cc, env, t, v, t', o, he, q⟩ => ?_
      have he : peek (.nm i) env (Mini.ev S C (.nm i) env) t = some (v, t') := he
      rcases peek_nm env i (Mini.ev S C (.nm i) env) with ⟨xs, hs, hp⟩ | hp
      · rw [hp] at he
        cases he
        obtain ⟨a, vs, h1, h2, z, r, m1, m2, m3, m4⟩ := o.env.own i xs hs
        exact ⟨.ref a, h1, q _ H Step.refl o.cell (.inr ⟨a, vs, xs, rfl, rfl, h2, m3, z, r⟩)⟩
      · rw [hp] at he
        obtain ⟨e1, e2⟩ := lft_some (show lft (Mini.slot env i) t = some (v, t') from he)
        cases e2
        obtain ⟨x, h1, h2⟩ := o.env.val i v (slot_some e1)
        exact ⟨x, h1, q _ H Step.refl o.cell (.inl h2)⟩
    | _ => exact absurd c Bool.false_ne_true
  | _ => exact main fun _ => rfl
theorem toS {m : ME} {e : Expr} {fr : Bool} (g : Gd S C fa k N sc ss X) (c : chkE S N m sc e = true) (h : PE X e (tE X.K fa (Mini.ev S C m) fr)) : PE X e (tS X.K fa fun env => look m env (Mini.ev S C m env)) := by
  have main : (∀ env, look m env (Mini.ev S C m env) = Mini.ev S C m env) → PE X e (tS X.K fa fun env => look m env (Mini.ev S C m env)) := fun hm => PE.of h fun σ H Q ⟨G, F, F0, c, env, t, v, t', o, he, q⟩ =>
    ⟨G, F, F0, c, env, t, v, t', o, by rw [← hm env]; exact he, fun x H' s cl r _ => q x H' s cl (.inl (.inl r))⟩
  cases m with
  | nm i =>
    cases e with
    | Name x pos =>
      refine PE.of (var_P g c) fun σ H Q ⟨G, F, F0, cc, env, t, v, t', o, he, q⟩ => ?_
      have he : look (.nm i) env (Mini.ev S C (.nm i) env) t = some (v, t') := he
      rcases look_nm env i (Mini.ev S C (.nm i) env) with ⟨xs, hs, hp⟩ | ⟨xs, hs, hp⟩ | hp
      · rw [hp] at he
        cases he
        obtain ⟨a, vs, h1, h2, z, r, m1, m2, m3, m4⟩ := o.env.own i xs hs
        exact ⟨.ref a, h1, q _ H Step.refl o.cell (.inl (.inr ⟨a, vs, xs, rfl, rfl, h2, m3, z, r⟩))⟩
      · rw [hp] at he
        cases he
        obtain ⟨x, h1, a, vs, e1, h2, z, r⟩ := o.env.val i _ hs
        exact ⟨x, h1, q _ H Step.refl o.cell (.inr ⟨a, vs, xs, e1, rfl, h2, z, r⟩)⟩
      · rw [hp] at he
        obtain ⟨e1, e2⟩ := lft_some (show lft (Mini.slot env i) t = some (v, t') from he)
        cases e2
        obtain ⟨x, h1, h2⟩ := o.env.val i v (slot_some e1)
        exact ⟨x, h1, q _ H Step.refl o.cell (.inl (.inl h2))⟩
    | _ => exact absurd c Bool.false_ne_true
  | _ => exact main fun _ => rfl
theorem two_S {K : PySem.W.Frag} {m n : MEnv → Mini.M Val} {fr : Bool} {σ : L2.St} {H : Hp} {R : V → V → Hp → Prop} {G : Gh} {F F0 : List Addr} {c : Option Addr} {env : MEnv} {t t1 t2 : Tap} {x y : Val} (o : Ok K fa G H F F0 c σ env t) (hm : m env t = some (x, t1)) (hn : n env t1 = some (y, t2))
    (h : ∀ u v H2, Step c H H2 → CellR K H2 F c t2 → RepS K fa H2 F c u x → RepV K fa H2 F c v y → R u v H2) : tS K fa m σ H fun u H1 => tE K fa n fr σ H1 fun v H2 => R u v H2 :=
  ⟨G, F, F0, c, env, t, x, t1, o, hm, fun u H1 s1 c1 r1 => ⟨G, F, F0, c, env, t1, y, t2, o.step s1 c1, hn, fun v H2 s2 c2 r2 _ => h u v H2 (s1.trans s2) c2 (r1.step s2 c1.l) r2⟩⟩
/-- the item at a place -/
theorem at_rel {K : PySem.W.Frag} {H : Hp} {F : List Addr} {vs : List V} {ds : List PyData} {i : Int} {d : PyData} (r : RepAll K H F vs ds) (h : Mini.pyAt ds i = some d) : ∃ v, atI vs i = some v ∧ Rep K H F v d := by
  have hl := r.length
  unfold Mini.pyAt at h
  split at h
  · rename_i h0
    obtain ⟨v, h1, h2⟩ := r.get h
    have hlt : i.toNat < vs.length := (List.getElem?_eq_some_iff.mp h1).1
    refine ⟨v, ?_, h2⟩
    unfold atI ixN
    rw [if_pos h0, if_pos (by omega)]
    exact h1
  · rename_i h0
    split at h
    · rename_i h1
      obtain ⟨v, h2, h3⟩ := r.get h
      refine ⟨v, ?_, h3⟩
      unfold atI ixN
      rw [if_neg h0, if_pos (by omega), hl]
      exact h2
    · cases h
theorem cut_eq (vs : List V) (lo hi : Option Int) : cutV vs lo hi = (vs.drop (Mini.clampI vs.length 0 lo)).take (Mini.clampI vs.length vs.length hi - Mini.clampI vs.length 0 lo) := by
  unfold cutV
  cases lo <;> cases hi <;> rfl
theorem cut_rel {K : PySem.W.Frag} {H : Hp} {F : List Addr} {vs : List V} {ds : List PyData} (r : RepAll K H F vs ds) (lo hi : Option Int) : RepAll K H F (cutV vs lo hi) (Mini.cutL ds lo hi) := by
  rw [cut_eq]
  unfold Mini.cutL
  rw [r.length]
  exact (r.drop _).take _
theorem sx_eq (n d : Nat) (o : Option Int) : HT.sIx n d o = Mini.clampI n d o := by cases o <;> rfl
/-- a slice by values -/
theorem cut_out {K : PySem.W.Frag} {H : Hp} {F : List Addr} {c : Option Addr} {t : Tap} {Q : VK} {x : V} {d z : PyData} {lo hi : Option Int} (r : RepS K fa H F c x (.d d)) (e : Mini.cutD d lo hi = some z) (cl : CellR K H F c t) (hF : ∀ a ∈ F, H a ≠ none) (out : Out K H F c t z Q) :
    rSlL K x lo hi H Q ∨ rSlA K x lo hi H Q := by
  unfold Mini.cutD at e
  split at e
  · cases e
    obtain ⟨p, vs, rfl, h, zz, q⟩ := r.lst
    exact .inl ⟨p, vs, rfl, h, fun p hp => out.lst cl hF (Nat.le_trans (cutV_length vs lo hi) zz) (cut_rel q lo hi) hp⟩
  · cases e
    rename_i ds
    obtain ⟨p, vs, rfl, h, zz, q⟩ := r.tup
    refine .inr ⟨p, vs, rfl, h, fun ⟨h1, h2⟩ => ?_, fun _ p hp => out.tup cl (Nat.le_trans (cutV_length vs lo hi) zz) (cut_rel q lo hi) hp⟩
    have e1 : Mini.cutL ds lo hi = ds := by
      unfold Mini.cutL
      rw [← q.length, ← sx_eq, ← sx_eq, h1, h2, List.drop_zero, Nat.sub_zero, q.length, List.take_length]
    rw [e1] at out
    exact out.same cl (.tup h zz q) fun _ z => nomatch z
  · cases e
end
end Snd

end

section
set_option Elab.async false
set_option linter.all false
set_option maxRecDepth 100000
set_option maxHeartbeats 8000000
/-! The expressions. -/
namespace Snd
open PySem PySem.Spec PyProof.Rows L2
open Mini (ME MEs MT MTs MI MG MGs MS MSs Val Sl Tap Sig Def bnd ret fail lft cond peek look)
theorem New.back {K : PySem.W.Frag} {H H2 H' : Hp} {F : List Addr} {c : Option Addr} {x : V} {v : Val} (s : Step c H H2) (n : New K H2 H' F x v) : New K H H' F x v := fun ds e =>
  let ⟨a, vs, h1, h2, r⟩ := n ds e; ⟨a, vs, h1, s.dom a h2, r⟩
theorem fullS {H H2 : Hp} {F : List Addr} {c : Option Addr} (s : Step c H H2) (f : ∀ a ∈ F, ∃ vs, H a = some (.lst vs)) : ∀ a ∈ F, H2 a ≠ none := fun a m e => by
  obtain ⟨vs, h⟩ := f a m
  rw [s.dom a e] at h; cases h
/-- a result's wish, carried -/
theorem outE {K : PySem.W.Frag} {fa : Nat → Addr} {H H2 : Hp} {F : List Addr} {c : Option Addr} {t : Tap} {z : PyData} {Q : VK} {fr : Bool} (s : Step c H H2)
    (q : ∀ x H', Step c H H' → CellR K H' F c t → RepV K fa H' F c x (.d z) → (fr = true → New K H H' F x (.d z)) → Q x H') : Out K H2 F c t z Q := fun x H' s2 cl r n => q x H' (s.trans s2) cl r fun _ => n.back s
theorem outN {K : PySem.W.Frag} {fa : Nat → Addr} {H H2 : Hp} {F : List Addr} {c : Option Addr} {t : Tap} {z : PyData} {Q : VK} {x : V} (s : Step c H H2) (cl : CellR K H2 F c t) (r : Rep K H2 F x z)
    (q : ∀ x H', Step c H H' → CellR K H' F c t → RepV K fa H' F c x (.d z) → (false = true → New K H H' F x (.d z)) → Q x H') : Q x H2 := q x H2 s cl r fun z => nomatch z
section
variable {S : Sig} {C : Mini.Call} {fa : Nat → Addr} {k : Nat} {N : List Str}
theorem evs_len : ∀ (m : MEs) {env : MEnv} {t t' : Tap} {vs : List Val}, Mini.evs S C m env t = some (vs, t') → vs.length ≤ 1000000 + cnt m
  | .nil, env, t, t', vs, h => by
    simp only [Mini.evs] at h
    cases h
    exact Nat.zero_le _
  | .cons e es, env, t, t', vs, h => by
    simp only [Mini.evs] at h
    obtain ⟨x, t1, _, h⟩ := bnd_some h
    obtain ⟨xs, t2, h2, h⟩ := bnd_some h
    cases h
    have := evs_len es h2
    show xs.length + 1 ≤ 1000000 + (cnt es + 1)
    omega
  | .star e es, env, t, t', vs, h => by
    simp only [Mini.evs] at h
    obtain ⟨x, t1, _, h⟩ := bnd_some h
    obtain ⟨xs, t2, h2, h⟩ := bnd_some h
    obtain ⟨e1, _⟩ := lft_some h
    split at e1
    · split at e1
      · split at e1
        · rename_i l _ hz
          cases e1
          show (l.map Val.d ++ xs).length ≤ _
          rw [List.length_append, List.length_map]
          omega
        · cases e1
      · cases e1
    · cases e1
theorem RepVs.dats {K : PySem.W.Frag} {H : Hp} {F : List Addr} {c : Option Addr} : ∀ {xs : List V} {l : List PyData}, RepVs (RepV K fa H F c) xs (l.map Val.d) → RepAll K H F xs l
  | _, [], r => by cases r; exact .nil
  | _, d :: l, r => by
    cases r with
    | cons r q => exact .cons r (RepVs.dats q)
theorem RepVs.ofAll {K : PySem.W.Frag} {H : Hp} {F : List Addr} {c : Option Addr} : ∀ {xs : List V} {l : List PyData}, RepAll K H F xs l → RepVs (RepV K fa H F c) xs (l.map Val.d)
  | _, _, .nil => .nil
  | _, _, .cons r q => .cons r (RepVs.ofAll q)
theorem RepVs.step {K : PySem.W.Frag} {H H' : Hp} {F : List Addr} {c : Option Addr} (s : Step c H H') (l : CellL H F c) : ∀ {xs : List V} {vs : List Val}, RepVs (RepV K fa H F c) xs vs → RepVs (RepV K fa H' F c) xs vs
  | _, _, .nil => .nil
  | _, _, .cons r q => .cons (RepV.step s l r) (RepVs.step s l q)
theorem RepVs.app {R : V → Val → Prop} : ∀ {xs ys : List V} {vs ws : List Val}, RepVs R xs vs → RepVs R ys ws → RepVs R (xs ++ ys) (vs ++ ws)
  | _, _, _, _, .nil, q => q
  | _, _, _, _, .cons r t, q => .cons r (RepVs.app t q)
def tyStr : Mini.Ty → String
  | .int => "int" | .bool => "bool" | .tuple => "tuple" | .str => "str" | .list => "list"
inductive Kd where | non | bl | int | str | lst | tup
def kdName : Kd → String
  | .non => "NoneType" | .bl => "bool" | .int => "int" | .str => "str" | .lst => "list" | .tup => "tuple"
def kdTy : Kd → Mini.Ty → Bool
  | .bl, .bool => true | .bl, .int => true | .int, .int => true | .str, .str => true | .lst, .list => true | .tup, .tuple => true
  | _, _ => false
theorem kd_ok (k : Kd) (ty : Mini.Ty) : kitB (kdName k) (tyStr ty) = some (kdTy k ty) := by cases k <;> cases ty <;> decide +kernel
theorem ins_ty {K : PySem.W.Frag} {H : Hp} {F : List Addr} {c : Option Addr} {x : V} {d : PyData} (r : RepP K fa H F c x (.d d)) (ty : Mini.Ty) : ∃ n, TyX K H x (.type n) ∧ kitB n (tyStr ty) = some (Mini.isTy ty d) := by
  cases r.dp with
  | non => exact ⟨_, .base .non, by cases ty <;> exact kd_ok .non _⟩
  | bl b => exact ⟨_, .base (.bl b), by cases ty <;> exact kd_ok .bl _⟩
  | int i => exact ⟨_, .base (.int i), by cases ty <;> exact kd_ok .int _⟩
  | str z => exact ⟨_, .base (.str z), by cases ty <;> exact kd_ok .str _⟩
  | lst hs _ =>
    refine ⟨"list", ?_, by cases ty <;> exact kd_ok .lst _⟩
    rcases hs with (h | ⟨o, h⟩) | ⟨o, its, n, h, hc, _⟩
    · exact .base (.lst h)
    · exact .base (.frz h)
    · exact .kList h hc
  | tup hs _ =>
    refine ⟨"tuple", ?_, by cases ty <;> exact kd_ok .tup _⟩
    rcases hs with (h | ⟨o, h⟩) | ⟨o, its, n, h, hc, _⟩
    · exact .base (.tup h)
    · exact .fTuple h
    · exact .kTuple h hc
theorem ty_boot (ty : Mini.Ty) : bootBuiltins (tyName ty) = some (.type (tyStr ty)) := by cases ty <;> decide +kernel
theorem ty_nm (ty : Mini.Ty) : (tyName ty == ("__debug__" : Str)) = false ∧ tyName ty ≠ "__name__" := by cases ty <;> exact ⟨by decide +kernel, by decide +kernel⟩
theorem bi_boot (b : Mini.Bi) (h : b ≠ .gcd ∧ b ≠ .isqrt ∧ b ≠ .lcm) : bootBuiltins (biName b) = some (fnX b) := by
  cases b <;> first | decide +kernel | (obtain ⟨h1, h2, h3⟩ := h; first | exact absurd rfl h1 | exact absurd rfl h2 | exact absurd rfl h3)
theorem bi_nm (b : Mini.Bi) : (biName b == ("__debug__" : Str)) = false ∧ biName b ≠ "__name__" := by cases b <;> exact ⟨by decide +kernel, by decide +kernel⟩
theorem strB_ok {a b : Str} (h : strB a b = true) : a = b := of_decide_eq_true h
/-- a call of a def by its name -/
theorem pe_callD {X : Cx} {x : Str} {p pos : Pos} {args : List Expr} {kws : List Keyword} {d : Def} {f : Addr} {m : List Val → Mini.M Val} {ks : List Str} {ta tk : TA} {n : Nat}
    (hg : Gl X x) (hm : X.mg x = some (.ref f)) (hdb : (x == ("__debug__" : Str)) = false) (F : FnG X.prog X.w X.K X.mg X.base fa k f d m) (gd : X.A.guards = some []) (hr : Room k X.A)
    (hf : (n, ks) ∈ d.forms) (hst : ∀ e es, args = e :: es → starEach args X.env = (false, eval e X.env) :: starEach es X.env) (hpl : ∀ pos, (backTo pos (starEach args X.env)).any (·.1) = false)
    (hkn : ∀ pos, (backToKw pos (keywordEach kws X.env)).any (·.1.isNone) = false) (hall : (backToKw pos (keywordEach kws X.env)).all (·.1.isSome) = true) (hks : (backToKw pos (keywordEach kws X.env)).filterMap (·.1) = ks)
    (ha : PA X args ta) (hk : PK X kws tk) (h0 : args = [] → ∀ σ H Q, ta σ H Q → Q [] H) :
    PE X (.Call (.Name x p) args kws pos) (fun σ H Q => ta σ H fun vs H1 => tk σ H1 fun zs H2 => vs.length = n ∧ zs.length = ks.length ∧ ∃ as, Mini.bindKw d.params ks vs zs = some as ∧ spD X.K fa d.fresh m as H2 Q) := by
  obtain ⟨fd, hb, G⟩ := F.run
  have fin : ∀ {pins : List (Addr × Obj)} {σ : L2.St} {H2 : Hp} {s2 : Shared} {Q : VK} {us ws : List Value} {vs zs : List V}, Inv X pins σ H2 s2 → Vals vs us → Vals zs ws → (vs.length = n ∧ zs.length = ks.length ∧ ∃ as, Mini.bindKw d.params ks vs zs = some as ∧ spD X.K fa d.fresh m as H2 Q) →
      wpAny (model X.prog X.w) X.A (PySem.call (.ref f) us (ks.zip ws)) (EP X pins σ Q) X.xe s2 := fun {pins σ H2 s2 Q us ws vs zs} I r rz ⟨l1, l2, as, e, sp⟩ => by
    obtain ⟨bs, e2, r2⟩ := bind_left r rz e
    exact run_G G gd hr I (hb n ks hf s2 us ws bs (r.length.symm.trans l1) (rz.length.symm.trans l2) e2) r2 sp
  refine ⟨fun pins s σ H Q I h => ?_⟩
  refine wpAny_Call_Name_kw (ld_glob I hg hm ?_ hdb)
  cases args with
  | cons e es =>
    refine PySem.W.callWith_KW (h₀ := X.base) I.ok.mod.kin F.kp hall (thn (ha.run pos pins s σ H _ I h) fun us s1 ⟨vs, H1, I1, r, q⟩ => ?_) (by rw [hpl, hkn]; rfl) (hst e es rfl)
    refine thn (hk.run pos pins s1 σ H1 _ I1 q) fun ws s2 ⟨zs, H2, I2, rz, q2⟩ => ⟨I2.kIn, ?_⟩
    rw [hks]
    exact fin I2 r rz q2
  | nil =>
    refine PySem.W.callWith_KW0 (h₀ := X.base) I.ok.mod.kin F.kp hall ?_ (by rw [hpl, hkn]; rfl)
    have q := h0 rfl σ H _ h
    refine thn (hk.run pos pins s σ H _ I q) fun ws s2 ⟨zs, H2, I2, rz, q2⟩ => ⟨I2.kIn, ?_⟩
    rw [hks]
    exact fin I2 .nil rz q2
end
end Snd

end

section
set_option Elab.async false
set_option linter.all false
set_option maxRecDepth 100000
set_option maxHeartbeats 8000000
/-! What is walked. -/
namespace Snd
open PySem PySem.Spec PyProof.Rows L2
open Mini (ME MEs MT MTs MI MG MGs MS MSs Val Sl Tap Sig Def bnd ret fail lft cond peek look)
structure Jk (K : PySem.W.Frag) (F : List Addr) (c : Option Addr) (strict : Bool) (J : It) (Hs : Hp) (xs : List PyData) : Prop where
  run : ∀ (Z F' : List Addr) (H : Hp) (i : Nat), (∀ b ∈ Z, (strict = true ∧ b ∈ F) ∨ some b = c ∨ Hs b = none) → (∀ b ∈ F', b ∈ F ∨ Hs b = none) → Lat Z Hs H →
    (i < xs.length → J.go i H ∧ ∀ x H', J.yld i H x H' → ∃ d, xs[i]? = some d ∧ Step none H H' ∧ Rep K H' F' x d) ∧ (xs.length ≤ i → J.stop i H)
  len : xs.length ≤ sizeLine
def tI (K : PySem.W.Frag) (fa : Nat → Addr) (m : MEnv → Mini.M (List PyData)) (strict : Bool) : TI := fun σ H R => ∃ G F F0 c env t xs t', Ok K fa G H F F0 c σ env t ∧ m env t = some (xs, t') ∧
  ∀ J H', Step c H H' → CellR K H' F c t' → Jk K F c strict J H' xs → R J H'
theorem PI.of {X : Cx} {tg e : Expr} {t u : TI} (h : PI X tg e t) (i : ∀ σ H Q, u σ H Q → t σ H Q) : PI X tg e u := ⟨fun pins s σ H Q I q => h.run pins s σ H Q I (i σ H Q q)⟩
/-- something to be walked: a list that stays, or a tuple -/
structure Sq (K : PySem.W.Frag) (fa : Nat → Addr) (F : List Addr) (c : Option Addr) (strict : Bool) (H : Hp) (a : Addr) (vs : List V) (ds : List PyData) (lst : Bool) : Prop where
  rep : RepAll K H F vs ds
  len : vs.length ≤ sizeLine
  now : if lst = true then SqL K H a vs else SqT K H a vs
  stay : ∀ (Z : List Addr) (H' : Hp), (∀ b ∈ Z, (strict = true ∧ b ∈ F) ∨ some b = c ∨ H b = none) → Lat Z H H' → if lst = true then SqL K H' a vs else SqT K H' a vs
  reps : ∀ (Z F' : List Addr) (H' : Hp), (∀ b ∈ Z, (strict = true ∧ b ∈ F) ∨ some b = c ∨ H b = none) → (∀ b ∈ F', b ∈ F ∨ H b = none) → Lat Z H H' → RepAll K H' F' vs ds
section
variable {K : PySem.W.Frag} {fa : Nat → Addr} {H H' : Hp} {F : List Addr} {c : Option Addr} {strict : Bool} {x : V} {ds : List PyData}
theorem zin (l : CellL H F c) {Z : List Addr} (h : ∀ b ∈ Z, (strict = true ∧ b ∈ F) ∨ some b = c ∨ H b = none) : ∀ b ∈ Z, b ∈ F ∨ H b = none := fun b m => by
  rcases h b m with ⟨_, q⟩ | q | q
  · exact .inl q
  · exact .inl (l b q.symm).1
  · exact .inr q
/-- what walks: strict, no list of one's own -/
def RepW (K : PySem.W.Frag) (fa : Nat → Addr) (strict : Bool) (H : Hp) (F : List Addr) (c : Option Addr) (x : V) (v : Val) : Prop := match strict with
  | true => RepV K fa H F c x v
  | false => RepS K fa H F c x v
theorem RepW.s (r : RepW K fa strict H F c x v) : RepS K fa H F c x v := by
  cases strict
  · exact r
  · exact .inl (.inl r)
theorem RepW.step {v : Val} (s : Step c H H') (l : CellL H F c) (r : RepW K fa strict H F c x v) : RepW K fa strict H' F c x v := by
  cases strict
  · exact RepS.step s l r
  · exact RepV.step s l r
theorem RepW.sqL (r : RepW K fa strict H F c x (.d (.list ds))) (l : CellL H F c) (f : ∀ a ∈ F, ∃ vs, H a = some (.lst vs)) : ∃ a vs, x = .ref a ∧ Sq K fa F c strict H a vs ds true := by
  have reps : ∀ {vs}, RepAll K H F vs ds → ∀ (Z F' : List Addr) (H' : Hp), (∀ b ∈ Z, (strict = true ∧ b ∈ F) ∨ some b = c ∨ H b = none) → (∀ b ∈ F', b ∈ F ∨ H b = none) → Lat Z H H' → RepAll K H' F' vs ds :=
    fun q Z F' H' hZ hF la => RepAll.lat la f (zin l hZ) hF q
  have plainC : ∀ {a vs}, H a = some (.lst vs) → a ∉ F → vs.length ≤ sizeLine → RepAll K H F vs ds → Sq K fa F c strict H a vs ds true := fun {a vs} h n z q =>
    ⟨q, z, SqL.of h, fun Z H' hZ la => SqL.of (la.keep a _ (fun m => (zin l hZ a m).elim n fun e => by rw [e] at h; cases h) h), reps q⟩
  cases strict with
  | true =>
    have r : Rep K H F x (.list ds) := r
    cases r with
    | lst h n z q => exact ⟨_, _, rfl, plainC h n z q⟩
  | false =>
    rcases (show RepS K fa H F c x (.d (.list ds)) from r) with (r | ⟨a, vs, ds', e1, e2, h, n, z, q⟩) | ⟨a, vs, ds', e1, e2, h, z, q⟩
    · have r : Rep K H F x (.list ds) := r
      cases r with
      | lst h n z q => exact ⟨_, _, rfl, plainC h n z q⟩
    · cases e2
      refine ⟨a, vs, e1, q, z, SqL.of h, fun Z H' hZ la => SqL.of (la.keep a _ (fun m => ?_) h), reps q⟩
      rcases hZ a m with ⟨q, _⟩ | q | q
      · cases q
      · exact n q
      · rw [q] at h; cases h
    · cases e2
      refine ⟨a, vs, e1, q, z, h.sq, fun Z H' hZ la => SqZ.sq (h.keep fun u hu n => la.keep a _ (fun m => ?_) hu), reps q⟩
      rcases zin l hZ a m with q | q
      · obtain ⟨ws, h2⟩ := f a q
        rw [hu] at h2; exact n ws (Option.some.inj h2)
      · rw [q] at hu; cases hu
theorem RepS.sqT (r : RepS K fa H F c x (.d (.tuple ds))) (l : CellL H F c) (f : ∀ a ∈ F, ∃ vs, H a = some (.lst vs)) : ∃ a vs, x = .ref a ∧ Sq K fa F c strict H a vs ds false := by
  obtain ⟨a, vs, e, h, z, q⟩ := r.tup
  refine ⟨a, vs, e, q, z, h, fun Z H' hZ la => ?_, fun Z F' H' hZ hF la => RepAll.lat la f (zin l hZ) hF q⟩
  have na : ∀ u, H a = some u → (∀ vs, u ≠ .lst vs) → a ∉ Z := fun u q n m => (zin l hZ a m).elim (fun m => by
    obtain ⟨vs, q2⟩ := f a m
    rw [q] at q2; exact n vs (Option.some.inj q2)) fun e => by rw [e] at q; cases q
  show SqT K H' a vs
  rcases (show SqT K H a vs from h) with (q | ⟨o, q⟩) | q
  · exact .inl (.inl (la.keep _ _ (na _ q fun _ z => nomatch z) q))
  · exact .inl (.inr ⟨o, la.keep _ _ (na _ q fun _ z => nomatch z) q⟩)
  · exact .inr q
theorem jk_list {a : Addr} {vs : List V} (q : Sq K fa F c strict H a vs ds true) : Jk K F c strict (Itl K a) H ds := by
  have hl := q.rep.length
  refine ⟨fun Z F' H' i hZ hF la => ⟨fun hi => ?_, fun hi => ?_⟩, by rw [← hl]; exact q.len⟩
  · have h : SqL K H' a vs := q.stay Z H' hZ la
    have r := q.reps Z F' H' hZ hF la
    have hv : vs[i]? = some vs[i] := by simp [hl, hi]
    refine ⟨⟨vs, _, h, hv⟩, fun x H2 ⟨e, y⟩ => ?_⟩
    subst e
    obtain ⟨d, h1, h2⟩ := r.getV (y vs h)
    exact ⟨d, h1, Step.refl, h2⟩
  · exact ⟨vs, q.stay Z H' hZ la, by omega⟩
theorem jk_tup {a : Addr} {vs : List V} (q : Sq K fa F c strict H a vs ds false) : Jk K F c strict (Itt K a) H ds := by
  have hl := q.rep.length
  refine ⟨fun Z F' H' i hZ hF la => ⟨fun hi => ?_, fun hi => ?_⟩, by rw [← hl]; exact q.len⟩
  · have h : SqT K H' a vs := q.stay Z H' hZ la
    have r := q.reps Z F' H' hZ hF la
    have hv : vs[i]? = some vs[i] := by simp [hl, hi]
    refine ⟨⟨vs, _, h, hv⟩, fun x H2 ⟨e, y⟩ => ?_⟩
    subst e
    obtain ⟨d, h1, h2⟩ := r.getV (y vs h)
    exact ⟨d, h1, Step.refl, h2⟩
  · exact ⟨vs, q.stay Z H' hZ la, by omega⟩
theorem rng_len : ∀ (n : Nat) (a : Int), (Mini.rngD a n).length = n
  | 0, _ => rfl
  | n + 1, a => by show (Mini.rngD (a + 1) n).length + 1 = n + 1; rw [rng_len n]
theorem rng_get : ∀ (n : Nat) (a : Int) (i : Nat), i < n → (Mini.rngD a n)[i]? = some (.int (a + i))
  | 0, _, _, h => by omega
  | n + 1, a, 0, _ => by show some (PyData.int a) = _; simp
  | n + 1, a, i + 1, h => by
    show (Mini.rngD (a + 1) n)[i]? = _
    rw [rng_get n (a + 1) i (by omega)]
    congr 2
    omega
theorem jk_rng {lo : Int} {n : Nat} (h : n ≤ sizeLine) : Jk K F c strict (Itr lo n) H (Mini.rngD lo n) := by
  refine ⟨fun Z F' H' i hZ hF la => ⟨fun hi => ?_, fun hi => ?_⟩, by rw [rng_len]; exact h⟩
  · rw [rng_len] at hi
    refine ⟨hi, fun x H2 ⟨e, y⟩ => ?_⟩
    subst e; subst y
    exact ⟨_, rng_get n lo i hi, Step.refl, .int _⟩
  · rw [rng_len] at hi
    exact hi
theorem zip_get : ∀ (xs ys : List PyData) (i : Nat) {x y : PyData}, xs[i]? = some x → ys[i]? = some y → (Mini.zipD xs ys)[i]? = some (.tuple [x, y])
  | [], _, i, _, _, h, _ => by simp at h
  | _ :: _, [], i, _, _, _, h => by simp at h
  | a :: xs, b :: ys, 0, x, y, h1, h2 => by simp at h1 h2; subst h1; subst h2; rfl
  | a :: xs, b :: ys, i + 1, x, y, h1, h2 => by
    show (Mini.zipD xs ys)[i]? = _
    exact zip_get xs ys i (by simpa using h1) (by simpa using h2)
theorem zip_len : ∀ (xs ys : List PyData), (Mini.zipD xs ys).length = min xs.length ys.length
  | [], ys => by show 0 = _; simp
  | _ :: _, [] => by show 0 = _; simp
  | a :: xs, b :: ys => by
    show (Mini.zipD xs ys).length + 1 = _
    rw [zip_len xs ys]
    simp only [List.length_cons]
    omega
theorem two_line : 2 ≤ sizeLine := by rw [sizeLine_eq]; decide
theorem pair_rep {F' : List Addr} {T : Addr} {x y : V} {d e : PyData} (hT : H T = none) (l : ∀ a, (none : Option Addr) = some a → a ∈ F' ∧ ∃ vs, H a = some (.lst vs)) (r1 : Rep K H F' x d) (r2 : Rep K H F' y e) : Step none H (upd H T (.tup [x, y])) ∧ Rep K (upd H T (.tup [x, y])) F' (.ref T) (.tuple [d, e]) := by
  have s : Step none H (upd H T (.tup [x, y])) := Step.new hT
  exact ⟨s, .tup (SqT.of upd_same) two_line (RepAll.step s l (.cons r1 (.cons r2 .nil)))⟩
theorem nol {F' : List Addr} {H : Hp} : ∀ a, (none : Option Addr) = some a → a ∈ F' ∧ ∃ vs, H a = some (.lst vs) := fun _ e => nomatch e
theorem jk_zip {a b : Addr} {vs ws : List V} {es : List PyData} (q : Sq K fa F c strict H a vs ds true) (p : Sq K fa F c strict H b ws es true) : Jk K F c strict (Itz K a b) H (Mini.zipD ds es) := by
  have hl := q.rep.length
  have hm := p.rep.length
  have z1 := q.len
  refine ⟨fun Z F' H' i hZ hF la => ⟨fun hi => ?_, fun hi => ?_⟩, by rw [zip_len]; omega⟩
  · rw [zip_len] at hi
    have h : SqL K H' a vs := q.stay Z H' hZ la
    have h' : SqL K H' b ws := p.stay Z H' hZ la
    have r := q.reps Z F' H' hZ hF la
    have r' := p.reps Z F' H' hZ hF la
    refine ⟨⟨vs, ws, vs[i]'(by omega), ws[i]'(by omega), h, h', by simp, by simp⟩, fun x H2 ⟨T, u, w, e1, hT, e2, y1, y2⟩ => ?_⟩
    subst e1; subst e2
    obtain ⟨d, k1, k2⟩ := r.getV (y1 vs h)
    obtain ⟨d', k3, k4⟩ := r'.getV (y2 ws h')
    obtain ⟨s, rr⟩ := pair_rep hT nol k2 k4
    exact ⟨_, zip_get ds es i k1 k3, s, rr⟩
  · rw [zip_len] at hi
    exact ⟨vs, ws, q.stay Z H' hZ la, p.stay Z H' hZ la, by omega⟩
theorem jk_zipT {a b : Addr} {vs ws : List V} {es : List PyData} (q : Sq K fa F c strict H a vs ds false) (p : Sq K fa F c strict H b ws es false) : Jk K F c strict (RZ.ItzT K a b) H (Mini.zipD ds es) := by
  have hl := q.rep.length
  have hm := p.rep.length
  have z1 := q.len
  refine ⟨fun Z F' H' i hZ hF la => ⟨fun hi => ?_, fun hi => ?_⟩, by rw [zip_len]; omega⟩
  · rw [zip_len] at hi
    have h : SqT K H' a vs := q.stay Z H' hZ la
    have h' : SqT K H' b ws := p.stay Z H' hZ la
    have r := q.reps Z F' H' hZ hF la
    have r' := p.reps Z F' H' hZ hF la
    refine ⟨⟨vs, ws, vs[i]'(by omega), ws[i]'(by omega), h, h', by simp, by simp⟩, fun x H2 ⟨T, u, w, e1, hT, e2, y1, y2⟩ => ?_⟩
    subst e1; subst e2
    obtain ⟨d, k1, k2⟩ := r.getV (y1 vs h)
    obtain ⟨d', k3, k4⟩ := r'.getV (y2 ws h')
    obtain ⟨s, rr⟩ := pair_rep hT nol k2 k4
    exact ⟨_, zip_get ds es i k1 k3, s, rr⟩
  · rw [zip_len] at hi
    exact ⟨vs, ws, q.stay Z H' hZ la, p.stay Z H' hZ la, by omega⟩
theorem enum_get : ∀ (xs : List PyData) (n i : Nat) {x : PyData}, xs[i]? = some x → (Mini.enumD n xs)[i]? = some (.tuple [.int ((n + i : Nat) : Int), x])
  | [], _, i, _, h => by simp at h
  | a :: xs, n, 0, x, h => by simp at h; subst h; rfl
  | a :: xs, n, i + 1, x, h => by
    show (Mini.enumD (n + 1) xs)[i]? = _
    rw [enum_get xs (n + 1) i (by simpa using h)]
    congr 5
    omega
theorem enum_len : ∀ (xs : List PyData) (n : Nat), (Mini.enumD n xs).length = xs.length
  | [], _ => rfl
  | a :: xs, n => by show (Mini.enumD (n + 1) xs).length + 1 = _; rw [enum_len xs]; rfl
theorem jk_enum {a : Addr} {vs : List V} (q : Sq K fa F c strict H a vs ds true) : Jk K F c strict (Ite K a) H (Mini.enumD 0 ds) := by
  have hl := q.rep.length
  have z1 := q.len
  refine ⟨fun Z F' H' i hZ hF la => ⟨fun hi => ?_, fun hi => ?_⟩, by rw [enum_len]; omega⟩
  · rw [enum_len] at hi
    have h : SqL K H' a vs := q.stay Z H' hZ la
    have r := q.reps Z F' H' hZ hF la
    refine ⟨⟨vs, vs[i]'(by omega), h, by simp⟩, fun x H2 ⟨T, u, e1, hT, e2, y1⟩ => ?_⟩
    subst e1; subst e2
    obtain ⟨d, k1, k2⟩ := r.getV (y1 vs h)
    obtain ⟨s, rr⟩ := pair_rep hT nol (.int (i : Nat)) k2
    refine ⟨_, enum_get ds 0 i k1, s, ?_⟩
    rw [Nat.zero_add]
    exact rr
  · rw [enum_len] at hi
    exact ⟨vs, q.stay Z H' hZ la, by omega⟩
end
/-- a list or a tuple, whichever it is -/
theorem pi_any {X : Cx} {tg l : Expr} {tl : TE} (hl : PE X l tl) : PI X tg l (fun σ H R => tl σ H fun x H1 => ∃ a, x = .ref a ∧ (((∃ xs, SqL X.K H1 a xs) ∧ R (Itl X.K a) H1) ∨ ((∃ xs, SqT X.K H1 a xs) ∧ R (Itt X.K a) H1))) := by
  refine ⟨fun pins s σ H R I h => thn (hl.run pins s σ H _ I h) ?_⟩
  rintro v s1 ⟨x, H1, I1, r1, a, rfl, hq⟩
  cases r1
  have fp : ∀ b ∈ [s1.heap.objs.size], FpOk X pins H1 b := fun b hb => by
    rw [List.mem_singleton.mp hb]
    exact I1.fpOk (Nat.le_refl _) (I1.hok.fresh (Nat.le_refl _))
  rcases hq with ⟨⟨xs, hs⟩, q⟩ | ⟨⟨xs, hs⟩, q⟩
  · obtain ⟨its, _, p, _⟩ := I1.list hs
    exact wpAny_pyIter_list p.isList ⟨_, _, _, _, H1, rfl, I1.kept (t' := s1.toks) fun b o e => Heap.get?_push_of_some _ e, turn_list a _, ⟨_, Heap.get?_push_size _ rfl, rfl, rfl⟩, fp, q⟩
  · obtain ⟨its, _, p, _⟩ := I1.tuple hs
    exact wpAny_pyIter_tuple (show s1.heap.IsTuple a its.toArray from p) ⟨_, _, _, _, H1, rfl, I1.kept (t' := s1.toks) fun b o e => Heap.get?_push_of_some _ e, turn_tuple a _, ⟨_, Heap.get?_push_size _ rfl, rfl, rfl⟩, fp, q⟩
end Snd

end

section
set_option Elab.async false
set_option linter.all false
set_option maxRecDepth 100000
set_option maxHeartbeats 16000000
/-! Targets; then all expressions. -/
namespace Snd
open PySem PySem.Spec PyProof.Rows L2
open Mini (ME MEs MT MTs MI MG MGs MS MSs Val Sl Tap Sig Def bnd ret fail lft cond peek look)
theorem wipe_set {σ : L2.St} {i : Nat} {v : Option V} : ∀ {vs : List Nat}, i ∈ vs → wipe (σ.set i v) vs = wipe σ vs
  | [], h => by cases h
  | w :: vs, h => by
    by_cases e : i ∈ vs
    · unfold wipe; rw [wipe_set e]
    · have ew : i = w := (List.mem_cons.mp h).resolve_right e
      subst ew
      unfold wipe
      have main : ∀ us : List Nat, wipe (σ.set i v) us = (wipe σ us).set i v ∨ wipe (σ.set i v) us = wipe σ us := by
        intro us
        induction us with
        | nil => exact .inl rfl
        | cons u us ih =>
          unfold wipe
          by_cases eu : u = i
          · subst eu
            rcases ih with h | h
            · rw [h, List.set_set]; exact .inr rfl
            · rw [h]; exact .inr rfl
          · rcases ih with h | h
            · rw [h, List.set_comm _ _ (Ne.symm eu)]; exact .inl rfl
            · rw [h]; exact .inr rfl
      rcases main vs with h | h
      · rw [h, List.set_set]
      · rw [h]
section
variable {K : PySem.W.Frag} {fa : Nat → Addr} {H H' : Hp} {F F0 : List Addr} {c : Option Addr} {σ : L2.St} {env : MEnv} {t t' : Tap} {G : Gh}
theorem EnvR.set (o : EnvR K fa G H F F0 c σ env) {i : Nat} (hi : i < env.length) {v : V} {x : Val} (r : RepV K fa H F c v x) : EnvR K fa G H F F0 c (σ.set i (some v)) (env.set i (.v x)) := by
  have hs : i < σ.length := by rw [← o.len]; exact hi
  have old : ∀ {j : Nat} {s : Sl}, j ≠ i → (env.set i (.v x))[j]? = some s → env[j]? = some s := fun {j s} n h => by rw [List.getElem?_set_ne (Ne.symm n)] at h; exact h
  have new : ∀ {s : Sl}, (env.set i (.v x))[i]? = some s → s = .v x := fun {s} h => by rw [List.getElem?_set_self hi] at h; exact (Option.some.inj h).symm
  refine ⟨by rw [List.length_set, List.length_set, o.len], fun j y h => ?_, fun j xs h => ?_, fun j l xs ys a n h1 h2 h3 => ?_⟩
  · by_cases e : j = i
    · subst e
      have q := new h
      cases q
      exact ⟨v, List.getElem?_set_self hs, r⟩
    · obtain ⟨w, h1, h2⟩ := o.val j y (old e h)
      exact ⟨w, by rw [List.getElem?_set_ne (Ne.symm e)]; exact h1, h2⟩
  · by_cases e : j = i
    · subst e
      have q := new h
      cases q
    · obtain ⟨a, vs, h1, h2⟩ := o.own j xs (old e h)
      exact ⟨a, vs, by rw [List.getElem?_set_ne (Ne.symm e)]; exact h1, h2⟩
  · have e1 : j ≠ i := fun e => by subst e; have q := new h1; cases q
    have e2 : l ≠ i := fun e => by subst e; have q := new h2; cases q
    rw [List.getElem?_set_ne (Ne.symm e1)] at h3
    rw [List.getElem?_set_ne (Ne.symm e2)]
    exact o.dis j l xs ys a n (old e1 h1) (old e2 h2) h3
theorem EnvR.unset (o : EnvR K fa G H F F0 c σ env) {i : Nat} : EnvR K fa G H F F0 c (σ.set i none) (env.set i .non) := by
  have old : ∀ {j : Nat} {s : Sl}, j ≠ i → (env.set i .non)[j]? = some s → env[j]? = some s := fun {j s} n h => by rw [List.getElem?_set_ne (Ne.symm n)] at h; exact h
  have new : ∀ {s : Sl}, (env.set i .non)[i]? = some s → s = .non := fun {s} h => by
    by_cases hi : i < env.length
    · rw [List.getElem?_set_self hi] at h; exact (Option.some.inj h).symm
    · rw [List.getElem?_eq_none (by simpa using hi)] at h; cases h
  refine ⟨by rw [List.length_set, List.length_set, o.len], fun j y h => ?_, fun j xs h => ?_, fun j l xs ys a n h1 h2 h3 => ?_⟩
  · by_cases e : j = i
    · subst e; have q := new h; cases q
    · obtain ⟨w, h1, h2⟩ := o.val j y (old e h)
      exact ⟨w, by rw [List.getElem?_set_ne (Ne.symm e)]; exact h1, h2⟩
  · by_cases e : j = i
    · subst e; have q := new h; cases q
    · obtain ⟨a, vs, h1, h2⟩ := o.own j xs (old e h)
      exact ⟨a, vs, by rw [List.getElem?_set_ne (Ne.symm e)]; exact h1, h2⟩
  · have e1 : j ≠ i := fun e => by subst e; have q := new h1; cases q
    have e2 : l ≠ i := fun e => by subst e; have q := new h2; cases q
    rw [List.getElem?_set_ne (Ne.symm e1)] at h3
    rw [List.getElem?_set_ne (Ne.symm e2)]
    exact o.dis j l xs ys a n (old e1 h1) (old e2 h2) h3
theorem EnvR.wipe (o : EnvR K fa G H F F0 c σ env) : ∀ vs : List Nat, EnvR K fa G H F F0 c (L2.wipe σ vs) (Mini.wipeE env vs)
  | [] => o
  | v :: vs => (EnvR.wipe o vs).unset
theorem Ok.env' {σ' : L2.St} {env' : MEnv} (o : Ok K fa G H F F0 c σ env t) (e : EnvR K fa G H F F0 c σ' env') : Ok K fa G H F F0 c σ' env' t := ⟨e, o.cell, o.full, o.sub, o.gh, o.gc, o.gf⟩
theorem lat_write {p : Addr} {o u : HO} (hp : H p = some u) : Lat [p] H (upd H p o) := Lat.write Lat.refl hp (.inl (List.mem_singleton.mpr rfl))
/-- what stays when a list among those that change is stored to -/
theorem RepV.put {p : Addr} {vs ws : List V} (f : ∀ a ∈ F, ∃ vs, H a = some (.lst vs)) (m : p ∈ F) (hp : H p = some (.lst vs)) {v : V} {x : Val} (r : RepV K fa H F c v x) : RepV K fa (upd H p (.lst ws)) F c v x := by
  have hZ : ∀ b ∈ [p], b ∈ F ∨ H b = none := fun b hb => .inl (by rw [List.mem_singleton.mp hb]; exact m)
  cases x with
  | d q => exact Rep.lat (lat_write hp) f hZ (fun b hb => .inl hb) r
  | cel => exact r
  | fn i => exact r
  | scr ds =>
    obtain ⟨a, us, e, h, z, q⟩ := r
    refine ⟨a, us, e, h.keep fun u hu n => ?_, z, RepAll.lat (lat_write hp) f hZ (fun b hb => .inl hb) q⟩
    rw [upd_ne]
    · exact hu
    · rintro rfl
      rw [hp] at hu; exact n vs (Option.some.inj hu).symm
theorem RepAll.put {p : Addr} {vs ws : List V} (f : ∀ a ∈ F, ∃ vs, H a = some (.lst vs)) (m : p ∈ F) (hp : H p = some (.lst vs)) {us : List V} {ds : List PyData} (r : RepAll K H F us ds) : RepAll K (upd H p (.lst ws)) F us ds :=
  RepAll.lat (lat_write hp) f (fun b hb => .inl (by rw [List.mem_singleton.mp hb]; exact m)) (fun b hb => .inl hb) r
theorem full_put {p : Addr} {ws : List V} (f : ∀ a ∈ F, ∃ vs, H a = some (.lst vs)) : ∀ a ∈ F, ∃ vs, (upd H p (.lst ws)) a = some (.lst vs) := fun a m => by
  by_cases e : a = p
  · subst e; exact ⟨ws, upd_same⟩
  · rw [upd_ne e]; exact f a m
/-- the list of one's own in slot i is stored to -/
theorem Ok.putOwn (o : Ok K fa G H F F0 c σ env t) {i : Nat} {xs ys : List PyData} {a : Addr} {vs ws : List V} (hi : env[i]? = some (.own xs)) (hs : σ[i]? = some (some (.ref a))) (h : H a = some (.lst vs))
    (z : ws.length ≤ sizeLine) (r : RepAll K H F ws ys) : Ok K fa G (upd H a (.lst ws)) F F0 c σ (env.set i (.own ys)) t ∧ Lat F H (upd H a (.lst ws)) := by
  obtain ⟨a', vs', e1, e2, z2, r2, m1, m2, m3, m4⟩ := o.env.own i xs hi
  rw [hs] at e1; cases e1
  rw [h] at e2; cases e2
  have hlt : i < env.length := (List.getElem?_eq_some_iff.mp hi).1
  have old : ∀ {j : Nat} {s : Sl}, j ≠ i → (env.set i (.own ys))[j]? = some s → env[j]? = some s := fun {j s} n h => by rw [List.getElem?_set_ne (Ne.symm n)] at h; exact h
  have new : ∀ {s : Sl}, (env.set i (.own ys))[i]? = some s → s = .own ys := fun {s} h => by rw [List.getElem?_set_self hlt] at h; exact (Option.some.inj h).symm
  refine ⟨⟨⟨by rw [List.length_set]; exact o.env.len, fun j y hj => ?_, fun j us hj => ?_, fun j l us ws' b n h1 h2 h3 => ?_⟩, fun b e => ?_, full_put o.full, o.sub, fun g hg => Lat.write (o.gh g hg) h (m4 g hg), o.gc, o.gf⟩, Lat.write Lat.refl h (.inl m1)⟩
  · by_cases e : j = i
    · subst e; have q := new hj; cases q
    · obtain ⟨w, h1, h2⟩ := o.env.val j y (old e hj)
      exact ⟨w, h1, RepV.put o.full m1 h h2⟩
  · by_cases e : j = i
    · subst e
      have q := new hj
      cases q
      exact ⟨a, ws, hs, upd_same, z, RepAll.put o.full m1 h r, m1, m2, m3, m4⟩
    · obtain ⟨b, us', h1, h2, h3, h4, h5⟩ := o.env.own j us (old e hj)
      refine ⟨b, us', h1, ?_, h3, RepAll.put o.full m1 h h4, h5⟩
      rw [upd_ne]
      · exact h2
      · rintro rfl
        exact o.env.dis i j xs us b (Ne.symm e) hi (old e hj) hs h1
  · by_cases e1 : j = i
    · subst e1
      exact o.env.dis j l xs ws' b n hi (old (Ne.symm n) h2) h3
    · by_cases e2 : l = i
      · subst e2
        exact o.env.dis j l us xs b n (old e1 h1) hi h3
      · exact o.env.dis j l us ws' b n (old e1 h1) (old e2 h2) h3
  · obtain ⟨m, us, h1, h2, h3⟩ := o.cell b e
    refine ⟨m, us, ?_, h2, RepAll.put o.full m1 h h3⟩
    rw [upd_ne]
    · exact h1
    · rintro rfl; exact m3 e.symm
/-- the handed list is stored to -/
theorem Ok.putCell (o : Ok K fa G H F F0 c σ env t) {a : Addr} {vs ws : List V} {t2 : Tap} (hc : c = some a) (h : H a = some (.lst vs)) (z : ws.length ≤ sizeLine) (r : RepAll K H F ws t2) :
    Ok K fa G (upd H a (.lst ws)) F F0 c σ env t2 ∧ Lat F H (upd H a (.lst ws)) := by
  have m1 : a ∈ F := (o.l a hc).1
  refine ⟨⟨⟨o.env.len, fun j y hj => ?_, fun j us hj => ?_, o.env.dis⟩, fun b e => ?_, full_put o.full, o.sub, fun g hg => Lat.write (o.gh g hg) h (.inl (o.gc g hg a hc)), o.gc, o.gf⟩, Lat.write Lat.refl h (.inl m1)⟩
  · obtain ⟨w, h1, h2⟩ := o.env.val j y hj
    exact ⟨w, h1, RepV.put o.full m1 h h2⟩
  · obtain ⟨b, us', h1, h2, h3, h4, h5, h6, h7, h8⟩ := o.env.own j us hj
    refine ⟨b, us', h1, ?_, h3, RepAll.put o.full m1 h h4, h5, h6, h7, h8⟩
    rw [upd_ne]
    · exact h2
    · rintro rfl; exact h7 hc.symm
  · rw [hc] at e; cases e
    exact ⟨m1, ws, upd_same, z, RepAll.put o.full m1 h r⟩
end

/-! ### targets -/
def tG (K : PySem.W.Frag) (fa : Nat → Addr) (m : Val → MEnv → Mini.M MEnv) (gl : List Nat) (flat : Bool) : TG := fun v σ H Q => ∃ G F F0 c env t x env' t', Ok K fa G H F F0 c σ env t ∧ RepV K fa H F c v x ∧ m x env t = some (env', t') ∧
  ∀ σ' H', Ok K fa G H' F F0 c σ' env' t' → Lat F H H' → (∀ vs, (∀ i ∈ gl, i ∈ vs) → wipe σ' vs = wipe σ vs) → (flat = true → H' = H ∧ t' = t) → Q σ' H'
def tGs (K : PySem.W.Frag) (fa : Nat → Addr) (m : List PyData → MEnv → Mini.M MEnv) (gl : List Nat) (flat : Bool) : TGs := fun vs σ H Q => ∃ G F F0 c env t xs env' t', Ok K fa G H F F0 c σ env t ∧ RepAll K H F vs xs ∧ m xs env t = some (env', t') ∧
  ∀ σ' H', Ok K fa G H' F F0 c σ' env' t' → Lat F H H' → (∀ vs, (∀ i ∈ gl, i ∈ vs) → wipe σ' vs = wipe σ vs) → (flat = true → H' = H ∧ t' = t) → Q σ' H'
theorem PG.of {X : Cx} {e : Expr} {t u : TG} (h : PG X e t) (i : ∀ v σ H Q, u v σ H Q → t v σ H Q) : PG X e u := ⟨fun pins s σ H v w Q I r q => h.run pins s σ H v w Q I r (i v σ H Q q)⟩
theorem PGs.of {X : Cx} {e : List Expr} {t u : TGs} (h : PGs X e t) (i : ∀ v σ H Q, u v σ H Q → t v σ H Q) : PGs X e u := ⟨fun pins s σ H v w Q I r q => h.run pins s σ H v w Q I r (i v σ H Q q)⟩
theorem Lat.rep {K : PySem.W.Frag} {H H' : Hp} {F : List Addr} {vs : List V} {ds : List PyData} (l : Lat F H H') (f : ∀ a ∈ F, ∃ vs, H a = some (.lst vs)) (r : RepAll K H F vs ds) : RepAll K H' F vs ds := RepAll.lat l f (fun b m => .inl m) (fun b m => .inl m) r
theorem Lat.trans {Z : List Addr} {H1 H2 H3 : Hp} (a : Lat Z H1 H2) (b : Lat Z H2 H3) : Lat Z H1 H3 := ⟨fun x o n h => b.keep x o n (a.keep x o n h), fun x h => a.dom x (b.dom x h)⟩
section
variable {S : Sig} {N : List Str} {sc : Scope}
theorem ng {m : MG} {e : Expr} (c : chkG S N m sc e = true) (es : List Expr) (env : Env) : assignEach (e :: es) env = (false, assign e env) :: assignEach es env := by
  cases e <;> first
    | rfl
    | (cases m <;> exact absurd c Bool.false_ne_true)
theorem ngs : ∀ {ms : MGs} {es : List Expr}, chkGs S N ms sc es = true → ∀ env : Env, (assignEach es env).length = es.length ∧ (assignEach es env).findIdx? (·.1) = none
  | .nil, [], _, _ => ⟨rfl, rfl⟩
  | .nil, _ :: _, c, _ => absurd c Bool.false_ne_true
  | .cons _ _, [], c, _ => absurd c Bool.false_ne_true
  | .cons m ms, e :: es, c, env => by
    obtain ⟨c1, c2⟩ := Bool.and_eq_true_iff.mp (show (chkG S N m sc e && chkGs S N ms sc es) = true from c)
    obtain ⟨h1, h2⟩ := ngs c2 env
    rw [ng c1]
    refine ⟨by rw [List.length_cons, List.length_cons, h1], ?_⟩
    rw [List.findIdx?_cons, h2]
    rfl
theorem set_form {m : ME} {y : Expr} (c : chkE S N m sc y = true) {o : Expr} {pos : Pos} {env : Env} (v : Value) : assign (.Subscript o y pos) env v = (do
      let ov ← holding [v] (eval o env)
      let iv ← holding [v, ov] (eval y env)
      standAt pos
      holding [v, ov, iv] (setItem ov iv v)
      release [v, ov, iv] []) := by
  cases y <;> first
    | rfl
    | (cases m <;> exact absurd c Bool.false_ne_true)
end
theorem gs_len {S : Sig} {C : Mini.Call} : ∀ {gs : MGs} {xs : List PyData} {env env' : MEnv} {t t' : Tap} {N : List Str} {sc : Scope} {es : List Expr}, chkGs S N gs sc es = true → Mini.asgns S C gs xs env t = some (env', t') → xs.length = es.length
  | .nil, xs, env, env', t, t', N, sc, es, c, h => by
    cases es with
    | nil =>
      simp only [Mini.asgns] at h
      cases xs with
      | nil => rfl
      | cons _ _ => cases h
    | cons _ _ => exact absurd c Bool.false_ne_true
  | .cons g gs, xs, env, env', t, t', N, sc, es, c, h => by
    cases es with
    | nil => exact absurd c Bool.false_ne_true
    | cons e es =>
      obtain ⟨c1, c2⟩ := Bool.and_eq_true_iff.mp (show (chkG S N g sc e && chkGs S N gs sc es) = true from c)
      simp only [Mini.asgns] at h
      cases xs with
      | nil => cases h
      | cons x r =>
        obtain ⟨env1, t1, _, h⟩ := bnd_some h
        rw [List.length_cons, List.length_cons, gs_len c2 h]
end Snd

end

section
set_option Elab.async false
set_option linter.all false
set_option maxRecDepth 100000
set_option maxHeartbeats 8000000
/-! Comprehensions, by what their parts do. -/
namespace Snd
open PySem PySem.Spec PyProof.Rows L2
open Mini (ME MEs MT MTs MI MG MGs MS MSs Val Sl Tap Sig Def bnd ret fail lft cond peek look)
theorem wipe_wipe (σ : L2.St) (vs : List Nat) : wipe (wipe σ vs) vs = wipe σ vs := by
  have main : ∀ us : List Nat, (∀ i ∈ us, i ∈ vs) → wipe (wipe σ us) vs = wipe σ vs := by
    intro us
    induction us with
    | nil => intro _; rfl
    | cons u us ih =>
      intro h
      show wipe ((wipe σ us).set u none) vs = _
      rw [wipe_set (h u List.mem_cons_self)]
      exact ih fun i hi => h i (List.mem_cons_of_mem _ hi)
  exact main vs fun _ h => h
section
variable {K : PySem.W.Frag} {fa : Nat → Addr} {H H' : Hp} {F F0 : List Addr} {c : Option Addr} {σ : L2.St} {env : MEnv} {t t' : Tap} {G : Gh}
theorem Step.wk (s : Step none H H') : Step c H H' := ⟨fun a o _ h => s.keep a o (fun e => nomatch e) h, s.dom⟩
/-- nothing stored to -/
theorem CellR.still (s : Step none H H') (l : CellR K H F c t) : CellR K H' F c t := fun a e =>
  let ⟨m, vs, h, z, r⟩ := l a e
  ⟨m, vs, s.keep a _ (fun q => nomatch q) h, z, RepAll.step (c := c) s.wk l.l r⟩
/-- a list among those that change, no one's own and not the handed one, is stored to -/
theorem Ok.putFree (o : Ok K fa G H F F0 c σ env t) {p : Addr} {vs ws : List V} (m : p ∈ F) (h : H p = some (.lst vs)) (nc : some p ≠ c) (no : ∀ (i : Nat) (xs : List PyData), env[i]? = some (Sl.own xs) → σ[i]? ≠ some (some (.ref p))) (gh : ∀ g ∈ G, p ∈ g.1 ∨ g.2 p = none) :
    Ok K fa G (upd H p (.lst ws)) F F0 c σ env t := by
  refine ⟨⟨o.env.len, fun j y hj => ?_, fun j us hj => ?_, o.env.dis⟩, fun b e => ?_, full_put o.full, o.sub, fun g hg => Lat.write (o.gh g hg) h (gh g hg), o.gc, o.gf⟩
  · obtain ⟨w, h1, h2⟩ := o.env.val j y hj
    exact ⟨w, h1, RepV.put o.full m h h2⟩
  · obtain ⟨b, us', h1, h2, h3, h4, h5⟩ := o.env.own j us hj
    refine ⟨b, us', h1, ?_, h3, RepAll.put o.full m h h4, h5⟩
    rw [upd_ne]
    · exact h2
    · rintro rfl
      exact no j us hj h1
  · obtain ⟨m2, us, h1, h2, h3⟩ := o.cell b e
    refine ⟨m2, us, ?_, h2, RepAll.put o.full m h h3⟩
    rw [upd_ne]
    · exact h1
    · rintro rfl; exact nc e.symm
end
theorem evC_cons {as : PyData → Mini.M MEnv} {mt : MEnv → Mini.M Bool} {me : MEnv → Mini.M Val} {x : PyData} {xs ys : List PyData} {t t' : Tap} (h : Mini.evC as mt me (x :: xs) t = some (ys, t')) :
    ∃ env1 t1 b t2, as x t = some (env1, t1) ∧ mt env1 t1 = some (b, t2) ∧ ((b = false ∧ Mini.evC as mt me xs t2 = some (ys, t')) ∨ (b = true ∧ ∃ y t3 rest, me env1 t2 = some (.d y, t3) ∧ Mini.evC as mt me xs t3 = some (rest, t') ∧ ys = y :: rest)) := by
  unfold Mini.evC at h
  obtain ⟨env1, t1, h1, h⟩ := bnd_some h
  obtain ⟨b, t2, h2, h⟩ := bnd_some h
  refine ⟨env1, t1, b, t2, h1, h2, ?_⟩
  unfold Mini.cond at h
  cases b with
  | false => rw [if_neg Bool.false_ne_true] at h; exact .inl ⟨rfl, h⟩
  | true =>
    rw [if_pos rfl] at h
    obtain ⟨y, t3, h3, h⟩ := bnd_some h
    split at h
    · obtain ⟨rest, t4, h4, h⟩ := bnd_some h
      cases h
      exact .inr ⟨rfl, _, t3, rest, h3, h4, rfl⟩
    · cases h
theorem comp_imp {K : PySem.W.Frag} {fa : Nat → Addr} {mi : MEnv → Mini.M (List PyData)} {ma : Val → MEnv → Mini.M MEnv} {mt : MEnv → Mini.M Bool} {me : MEnv → Mini.M Val} {gl : List Nat} {tt : TT} {fr : Bool} (htt : ∀ σ H Q, tT K fa mt σ H Q → tt σ H Q) :
    ∀ {σ : L2.St} {H : Hp} {Q : VK}, tE K fa (fun env => bnd (mi env) fun xs => bnd (Mini.evC (fun x => ma (.d x) (Mini.wipeE env gl)) mt me xs) fun ys => ret (.d (.list ys))) true σ H Q → tLc (tI K fa mi false) (tG K fa ma gl true) tt (tE K fa me fr) gl σ H Q := by
  rintro σ H Q ⟨G, F, F0, c, env, t, w, t', o, hev, q⟩
  obtain ⟨xs, t1, h1, hev⟩ := bnd_some hev
  obtain ⟨ys, t2, h2, hev⟩ := bnd_some hev
  cases hev
  refine ⟨G, F, F0, c, env, t, xs, t1, o, h1, fun J H1 s1 l1 jk D hD => ?_⟩
  have o1 : Ok K fa G H1 F F0 c σ env t1 := o.step s1 l1
  have sD : Step c H1 (upd H1 D (.lst [])) := Step.new hD
  have nDc : some D ≠ c := fun e => by
    obtain ⟨_, vs, h, _⟩ := l1 D e.symm
    rw [hD] at h; cases h
  have o2 : Ok K fa G (upd H1 D (.lst [])) (D :: F) F0 c σ env t1 := o1.add sD ((l1.add hD).new hD) hD ⟨[], upd_same⟩
  have noD : ∀ (i : Nat) (us : List PyData), env[i]? = some (Sl.own us) → σ[i]? ≠ some (some (.ref D)) := fun i us hi hs => by
    obtain ⟨a, vs, e1, e2, _⟩ := o1.env.own i us hi
    rw [hs] at e1; cases e1
    rw [hD] at e2; cases e2
  have ghD : ∀ g ∈ G, D ∈ g.1 ∨ g.2 D = none := fun g m => .inr ((o1.gh g m).dom D hD)
  have nDF : D ∉ F := fun m => by
    obtain ⟨vs, h⟩ := o1.full D m
    rw [hD] at h; cases h
  have hlen := jk.len
  let Z := D :: c.toList
  have hZ : ∀ b ∈ Z, (false = true ∧ b ∈ F) ∨ some b = c ∨ H1 b = none := fun b m => by
    rcases List.mem_cons.mp m with e | m
    · subst e; exact .inr (.inr hD)
    · refine .inr (.inl ?_)
      cases c with
      | none => cases m
      | some a => rw [List.mem_singleton.mp m]
  have cZ : ∀ a, c = some a → a ∈ Z := fun a e => by
    subst e
    exact List.mem_cons_of_mem _ (List.mem_singleton.mpr rfl)
  have hF : ∀ b ∈ D :: F, b ∈ F ∨ H1 b = none := fun b m => by
    rcases List.mem_cons.mp m with e | m
    · subst e; exact .inr hD
    · exact .inl m
  refine ⟨fun i m H2 => m = xs.length - i ∧ i ≤ xs.length ∧ ∃ ti accD acc rest, H2 D = some (.lst acc) ∧ acc.length ≤ i ∧ RepAll K H2 (D :: F) acc accD ∧ Lat Z H1 H2 ∧ Ok K fa G H2 (D :: F) F0 c σ env ti ∧
    Mini.evC (fun x => ma (.d x) (Mini.wipeE env gl)) mt me (xs.drop i) ti = some (rest, t') ∧ ys = accD ++ rest, ⟨_, rfl, Nat.zero_le _, t1, [], [], ys, upd_same, Nat.le_refl _, .nil, (Lat.refl (Z := Z)).step sD cZ, o2, h2, rfl⟩, ?_⟩
  rintro i m H2 ⟨rfl, hi, ti, accD, acc, rest, a1, a2, a3, a4, a5, a6, a7⟩
  obtain ⟨j1, j2⟩ := jk.run Z (D :: F) H2 i hZ hF a4
  by_cases hlt : i < xs.length
  · obtain ⟨g1, g2⟩ := j1 hlt
    refine .inr ⟨g1, fun H3 => ∃ ti accD acc rest, H3 D = some (.lst acc) ∧ acc.length ≤ i + 1 ∧ RepAll K H3 (D :: F) acc accD ∧ Lat Z H1 H3 ∧ Ok K fa G H3 (D :: F) F0 c σ env ti ∧
      Mini.evC (fun x => ma (.d x) (Mini.wipeE env gl)) mt me (xs.drop (i + 1)) ti = some (rest, t') ∧ ys = accD ++ rest, fun H3 h3 => ⟨_, by omega, rfl, hlt, h3⟩, fun x H3 hy => ?_⟩
    obtain ⟨d, k1, k2, k3⟩ := g2 x H3 hy
    have ed : xs.drop i = d :: xs.drop (i + 1) := by
      rw [List.getElem?_eq_getElem hlt] at k1
      cases k1
      exact List.drop_eq_getElem_cons hlt
    rw [ed] at a6
    obtain ⟨env1, ta, b, tb, b1, b2, b3⟩ := evC_cons a6
    have o3 : Ok K fa G H3 (D :: F) F0 c σ env ti := a5.step k2.wk (a5.cell.still k2)
    refine ⟨G, D :: F, F0, c, Mini.wipeE env gl, ti, .d d, env1, ta, o3.env' (o3.env.wipe gl), k3, b1, fun σ' H4 o4 _ hw hfl => ?_⟩
    obtain ⟨e4, et⟩ := hfl rfl
    subst e4; subst et
    refine ⟨(hw gl fun _ h => h).trans (wipe_wipe σ gl), htt _ _ _ ⟨G, D :: F, F0, c, env1, _, b, tb, o4, b2, fun H5 s5 l5 => ?_⟩⟩
    have s25 : Step c H2 H5 := k2.wk.trans s5
    have aD : H5 D = some (.lst acc) := s25.keep D _ nDc a1
    rcases b3 with ⟨eb, b3⟩ | ⟨eb, y, tc, rest', b4, b5, b6⟩
    · subst eb
      dsimp only
      rw [if_neg Bool.false_ne_true]
      exact ⟨tb, accD, acc, rest, aD, Nat.le_succ_of_le a2, RepAll.step s25 a5.l a3, a4.step s25 cZ, a5.step s25 l5, b3, a7⟩
    · subst eb
      dsimp only
      rw [if_pos rfl]
      refine ⟨G, D :: F, F0, c, env1, tb, .d y, tc, o4.step s5 l5, b4, fun v H6 s6 l6 r6 _ => ?_⟩
      have s26 : Step c H2 H6 := s25.trans s6
      have aD6 : H6 D = some (.lst acc) := s6.keep D _ nDc aD
      have o6 : Ok K fa G H6 (D :: F) F0 c σ env tc := a5.step s26 l6
      have r6' : Rep K H6 (D :: F) v y := r6
      refine ⟨acc, aD6, by omega, tc, accD ++ [y], acc ++ [v], rest', upd_same, by rw [List.length_append]; show acc.length + 1 ≤ _; omega, ?_, Lat.write (a4.step s26 cZ) aD6 (.inr hD), o6.putFree List.mem_cons_self aD6 nDc noD ghD, b5, by rw [a7, b6, List.append_assoc]; rfl⟩
      exact RepAll.put o6.full List.mem_cons_self aD6 ((RepAll.step s26 a5.l a3).append (.cons r6' .nil))
  · have ei : i = xs.length := by omega
    subst ei
    refine .inl ⟨j2 (Nat.le_refl _), ?_⟩
    rw [List.drop_length] at a6
    unfold Mini.evC at a6
    cases a6
    rw [List.append_nil] at a7
    subst a7
    have wk : RepAll K H2 F acc ys := RepAll.weak (fun _ => List.mem_cons_of_mem _) a3
    have sF : Step c H1 H2 := ⟨fun a ob na h => a4.keep a ob (fun m => by
      rcases hZ a m with ⟨z, _⟩ | z | z
      · cases z
      · exact na z
      · rw [z] at h; cases h) h, a4.dom⟩
    refine q (.ref D) H2 (s1.trans sF) (fun a e => ?_) (.lst a1 nDF (by omega) wk) fun _ ds e => ?_
    · obtain ⟨_, vs, h, z, r⟩ := a5.cell a e
      exact ⟨(l1 a e).1, vs, h, z, RepAll.weak (fun _ => List.mem_cons_of_mem _) r⟩
    · cases e
      exact ⟨D, acc, rfl, s1.dom D hD, a1, by omega, a3⟩
theorem comp_core {X : Cx} {fa : Nat → Addr} {elt tg iter : Expr} {ifs : List Expr} {scope : Scope} {own : List (Str × Nat)} {pos : Pos} {mi : MEnv → Mini.M (List PyData)} {ma : Val → MEnv → Mini.M MEnv} {mt : MEnv → Mini.M Bool} {me : MEnv → Mini.M Val} {gl : List Nat} {tt : TT} {fr : Bool}
    (hc : X.calm = true) (hN : X.N.Nodup) (hi : PI X tg iter (tI X.K fa mi false)) (ok : BlkOk X.N X.env.scope scope own) (hown : own.map (·.2) = gl)
    (hg : ∀ (s : Shared) (H : Hp) (C : Addr) (cl : List (Str × Addr)) (fp : List Addr), PG (X.blk s H scope (compEnvC scope cl C X.env) fp) tg (tG X.K fa ma gl true))
    (ht : ∀ (s : Shared) (H : Hp) (C : Addr) (cl : List (Str × Addr)) (fp : List Addr), PTs (X.blk s H scope (compEnvC scope cl C X.env) fp) ifs tt) (htt : ∀ σ H Q, tT X.K fa mt σ H Q → tt σ H Q)
    (he : ∀ (s : Shared) (H : Hp) (C : Addr) (cl : List (Str × Addr)) (fp : List Addr), PE (X.blk s H scope (compEnvC scope cl C X.env) fp) elt (tE X.K fa me fr)) (hs : ∀ x, foldedSetIterable iter X.env x = pure x) :
    PE X (.ListComp elt [⟨tg, iter, ifs, 0⟩] scope pos) (tE X.K fa (fun env => bnd (mi env) fun xs => bnd (Mini.evC (fun x => ma (.d x) (Mini.wipeE env gl)) mt me xs) fun ys => ret (.d (.list ys))) true) := by
  have base := pe_lc (pos := pos) hc hN hi ok hg ht he hs
  rw [hown] at base
  exact PE.of base fun σ H Q h => comp_imp htt h
end Snd

end

section
set_option Elab.async false
set_option linter.all false
set_option maxRecDepth 100000
set_option maxHeartbeats 32000000
/-! All expressions. -/
namespace Snd
open PySem PySem.Spec PyProof.Rows L2
open Mini (ME MEs MT MTs MI MG MGs MS MSs Val Sl Tap Sig Def bnd ret fail lft cond peek look)
/-- arguments that are only read -/
abbrev and2 {a b : Bool} (h : (a && b) = true) : a = true ∧ b = true := Bool.and_eq_true_iff.mp h
section
variable {S : Sig} {C : Mini.Call} {fa : Nat → Addr} {k : Nat} {N : List Str}
theorem and_op {b : Bool} {p : BoolOp} (h : andB b p = true) : p = if b = true then .And else .Or := by cases b <;> cases p <;> first | rfl | cases h
theorem cond_some {α : Type} {b : Bool} {x y : Mini.M α} {t : Tap} {r : α × Tap} (h : Mini.cond b x y t = some r) : (b = true → x t = some r) ∧ (b = false → y t = some r) := by
  unfold Mini.cond at h
  constructor <;> intro e <;> subst e
  · rwa [if_pos rfl] at h
  · rwa [if_neg Bool.false_ne_true] at h
theorem emp_some {t : Tap} {r : Unit × Tap} (h : Mini.emp t = some r) : t = [] ∧ r.2 = [] := by
  unfold Mini.emp at h
  split at h
  · cases h; exact ⟨rfl, rfl⟩
  · cases h
theorem bind_pos {α : Type} : ∀ {ps : List Str} {vs : List α}, vs.length = ps.length → Mini.bindKw ps [] vs [] = some vs
  | [], [], _ => rfl
  | [], _ :: _, h => by simp at h
  | _ :: _, [], h => by simp at h
  | p :: ps, v :: vs, h => by
    unfold Mini.bindKw
    rw [bind_pos (by simpa using h)]
theorem callT_some {i : Nat} {u : Val} {vs : List Val} {t : Tap} {w : Val} {t' : Tap} (h : lft (match u, Mini.dats vs with
      | .d (.list ds), some l => (match C i (.cel :: l.map Val.d) ds with | some (.d r, _) => some (Val.d r) | _ => none)
      | _, _ => none) t = some (w, t')) : ∃ (ds l : List PyData) (r : PyData) (t3 : Tap), u = .d (.list ds) ∧ vs = l.map Val.d ∧ C i (.cel :: l.map Val.d) ds = some (.d r, t3) ∧ w = .d r ∧ t' = t := by
  obtain ⟨e1, e2⟩ := lft_some h
  clear h
  simp only at e1 e2
  subst e2
  split at e1
  · rename_i ds l hl
    split at e1
    · rename_i r t3 hr
      cases e1
      exact ⟨ds, l, r, t3, rfl, dats_some hl, hr, rfl, rfl⟩
    · cases e1
  · cases e1
theorem gl_of {X : Cx} {sc ss : Scope} (g : Gd S C fa k N sc ss X) {x : Str} (h : glB sc x = true) : Gl X x := by
  have e := glB_ok h
  rw [← g.scope] at e
  exact e
theorem isT_plain {x : Expr} (h : bareE x = true) (env : Env) (whole : Sem Value) :
    isTrue x env whole = (do let v ← whole; standAt x.pos; holding [v] (truthy v)) := by
  cases x <;> first | rfl | cases h
theorem noIn {p : CmpOp} (h1 : p ≠ .In) (h2 : p ≠ .NotIn) (y : Expr) : behindInMarks p y = false := nomark y h1 h2
theorem PK.of {X : Cx} {kws : List Keyword} {t u : TA} (h : PK X kws t) (i : ∀ σ H Q, u σ H Q → t σ H Q) : PK X kws u := ⟨fun pos pins s σ H Q I q => h.run pos pins s σ H Q I (i σ H Q q)⟩
theorem kws_names {N : List Str} {sc : Scope} : ∀ {m : MEs} {ks : List Str} {kws : List Keyword}, chkK S N m ks sc kws = true → ∀ env : Env, (∀ pos, (backToKw pos (keywordEach kws env)).any (·.1.isNone) = false) ∧ (∀ pos, (backToKw pos (keywordEach kws env)).all (·.1.isSome) = true) ∧ ∀ pos, (backToKw pos (keywordEach kws env)).filterMap (·.1) = ks
  | .nil, [], [], _, _ => ⟨fun _ => rfl, fun _ => rfl, fun _ => rfl⟩
  | .nil, [], _ :: _, c, _ => absurd c Bool.false_ne_true
  | .nil, _ :: _, _, c, _ => absurd c Bool.false_ne_true
  | .cons _ _, [], _, c, _ => absurd c Bool.false_ne_true
  | .cons _ _, _ :: _, [], c, _ => absurd c Bool.false_ne_true
  | .cons _ _, _ :: _, ⟨none, _, _⟩ :: _, c, _ => absurd c Bool.false_ne_true
  | .cons m ms, kk :: ks, ⟨some x, v, p⟩ :: kws, c, env => by
    obtain ⟨c0, c1⟩ := and2 (show (strB kk x && (chkE S N m sc v && chkK S N ms ks sc kws)) = true from c)
    obtain ⟨c1, c2⟩ := and2 c1
    obtain ⟨h1, h2, h3⟩ := kws_names c2 env
    have ex := strB_ok c0
    subst ex
    refine ⟨fun pos => ?_, fun pos => ?_, fun pos => ?_⟩
    · show (false || (backToKw pos (keywordEach kws env)).any (·.1.isNone)) = false
      rw [h1]; rfl
    · show (true && (backToKw pos (keywordEach kws env)).all (·.1.isSome)) = true
      rw [h2]; rfl
    · show kk :: (backToKw pos (keywordEach kws env)).filterMap (·.1) = kk :: ks
      rw [h3]
  | .star _ _, ks, kws, c, _ => by cases ks <;> cases kws <;> exact absurd c Bool.false_ne_true
theorem kws_cnt {N : List Str} {sc : Scope} : ∀ {m : MEs} {ks : List Str} {kws : List Keyword}, chkK S N m ks sc kws = true → cnt m = ks.length
  | .nil, [], [], _ => rfl
  | .nil, [], _ :: _, c => absurd c Bool.false_ne_true
  | .nil, _ :: _, _, c => absurd c Bool.false_ne_true
  | .cons _ _, [], _, c => absurd c Bool.false_ne_true
  | .cons _ _, _ :: _, [], c => absurd c Bool.false_ne_true
  | .cons _ _, _ :: _, ⟨none, _, _⟩ :: _, c => absurd c Bool.false_ne_true
  | .cons m ms, kk :: ks, ⟨some x, v, p⟩ :: kws, c => by
    obtain ⟨c0, c1⟩ := and2 (show (strB kk x && (chkE S N m sc v && chkK S N ms ks sc kws)) = true from c)
    obtain ⟨c1, c2⟩ := and2 c1
    show cnt ms + 1 = ks.length + 1
    rw [kws_cnt c2]
  | .star _ _, ks, kws, c => by cases ks <;> cases kws <;> exact absurd c Bool.false_ne_true
theorem evs_cnt : ∀ {m : MEs} {env : MEnv} {t t' : Tap} {vs : List Val}, starless m = true → Mini.evs S C m env t = some (vs, t') → vs.length = cnt m
  | .nil, env, t, t', vs, _, h => by
    simp only [Mini.evs] at h
    cases h; rfl
  | .cons e es, env, t, t', vs, s, h => by
    simp only [Mini.evs] at h
    obtain ⟨x, t1, _, h⟩ := bnd_some h
    obtain ⟨xs, t2, h2, h⟩ := bnd_some h
    cases h
    show xs.length + 1 = cnt es + 1
    rw [evs_cnt (show starless es = true from s) h2]
  | .star _ _, _, _, _, _, s, _ => absurd s Bool.false_ne_true
theorem args_star {N : List Str} {sc : Scope} {m : MEs} {args : List Expr} (c : chkEs S N m sc args = true) (s : starless m = true) (env : Env) : ∀ e es, args = e :: es → starEach args env = (false, eval e env) :: starEach es env := fun e es h => by
  subst h
  cases m with
  | nil => exact absurd c Bool.false_ne_true
  | cons m ms =>
    obtain ⟨c1, _⟩ := and2 (show (chkE S N m sc e && chkEs S N ms sc es) = true from c)
    exact ns c1 _ _
  | star _ _ => exact absurd s Bool.false_ne_true
theorem plains1 {N : List Str} {sc : Scope} {m : MEs} {e : Expr} {es : List Expr} (c : chkEs S N m sc (e :: es) = true) (s : starless m = true) (env : Env) (pos : Pos) : (backTo pos (starEach es env)).any (·.1) = false := by
  cases m with
  | nil => exact absurd c Bool.false_ne_true
  | cons m ms =>
    obtain ⟨_, c2⟩ := and2 (show (chkE S N m sc e && chkEs S N ms sc es) = true from c)
    exact plains (show starless ms = true from s) c2 _ _
  | star _ _ => exact absurd s Bool.false_ne_true
theorem nil_args {K : PySem.W.Frag} {N : List Str} {sc : Scope} {m : MEs} {args : List Expr} (c : chkEs S N m sc args = true) (h : args = []) (σ : L2.St) (H : Hp) (Q : List V → Hp → Prop) (q : tAs K fa (Mini.evs S C m) σ H Q) : Q [] H := by
  subst h
  cases m with
  | nil =>
    obtain ⟨G, F, F0, cc, env, t, w, t', o, he, q⟩ := q
    simp only [Mini.evs] at he
    cases he
    exact q [] H Step.refl o.cell .nil
  | cons _ _ => exact absurd c Bool.false_ne_true
  | star _ _ => exact absurd c Bool.false_ne_true
def tW (K : PySem.W.Frag) (fa : Nat → Addr) (strict : Bool) (m : MEnv → Mini.M Val) : TE := fun σ H Q => ∃ G F F0 c env t v t', Ok K fa G H F F0 c σ env t ∧ m env t = some (v, t') ∧
  ∀ x H', Step c H H' → CellR K H' F c t' → RepW K fa strict H' F c x v → Q x H'
theorem toW {X : Cx} {sc ss : Scope} {m : ME} {e : Expr} {fr strict : Bool} (g : Gd S C fa k N sc ss X) (c : chkE S N m sc e = true) (h : PE X e (tE X.K fa (Mini.ev S C m) fr)) : PE X e (tW X.K fa strict fun env => Mini.pk strict m env (Mini.ev S C m env)) := by
  cases strict with
  | true => exact PE.of h fun σ H Q ⟨G, F, F0, c, env, t, v, t', o, he, q⟩ => ⟨G, F, F0, c, env, t, v, t', o, he, fun x H' s cl r _ => q x H' s cl r⟩
  | false => exact PE.of (toS g c h) fun σ H Q ⟨G, F, F0, c, env, t, v, t', o, he, q⟩ => ⟨G, F, F0, c, env, t, v, t', o, he, fun x H' s cl r => q x H' s cl r⟩
theorem nofoldI {X : Cx} {sc : Scope} {m : MI} {tg e : Expr} (c : chkI S N m sc tg e = true) (env : Env) (x : Value) : foldedSetIterable e env x = pure x := by
  cases m with
  | seq a => exact nofold (m := a) c env x
  | _ => cases e <;> first | rfl | exact absurd c (fun z => Bool.false_ne_true z) | (cases tg <;> exact absurd c (fun z => Bool.false_ne_true z))
theorem own_mapG {sc : Scope} : ∀ {gs : MGs} {es : List Expr}, flatG.flatGs gs = true → chkGs S N gs sc es = true → (es.filterMap (fun | .Name x _ => some x | _ => none)).length = (Mini.gsslots gs).length
  | .nil, [], _, _ => rfl
  | .nil, _ :: _, _, c => absurd c Bool.false_ne_true
  | .cons _ _, [], _, c => absurd c Bool.false_ne_true
  | .cons (.tup _) _, _ :: _, f, _ => absurd f Bool.false_ne_true
  | .cons (.sub _ _) _, _ :: _, f, _ => absurd f Bool.false_ne_true
  | .cons (.nm i) gs, e :: es, f, c => by
    obtain ⟨c1, c2⟩ := and2 (show (chkG S N (.nm i) sc e && chkGs S N gs sc es) = true from c)
    have ih := own_mapG (gs := gs) (es := es) f c2
    cases e with
    | Name x p =>
      rw [List.filterMap_cons]
      show (_ :: _ : List Str).length = ([i] ++ Mini.gsslots gs).length
      rw [List.length_cons, ih]
      rfl
    | _ => exact absurd c1 Bool.false_ne_true
theorem own_map {sc : Scope} {g : MG} {tg : Expr} (f : flatG g = true) (c : chkG S N g sc tg = true) : (ownOf g tg).map (·.2) = Mini.gslots g := by
  unfold ownOf
  rw [List.map_snd_zip]
  cases g with
  | nm i =>
    cases tg with
    | Name x p => exact Nat.le_refl 1
    | _ => exact absurd c Bool.false_ne_true
  | tup gs =>
    cases tg with
    | Tuple es k p => exact Nat.le_of_eq (own_mapG (gs := gs) (es := es) f c).symm
    | _ => exact absurd c Bool.false_ne_true
  | sub _ _ => exact absurd f Bool.false_ne_true
mutual
theorem sE : ∀ (m : ME) {X : Cx} {sc ss : Scope} {e : Expr}, Gd S C fa k N sc ss X → chkE S N m sc e = true → PE X e (tE X.K fa (Mini.ev S C m) (frE S m))
  | .nm i, X, sc, ss, e, g, c => by
    cases e with
    | Name x pos =>
      refine PE.of (var_P g c) fun σ H Q ⟨G, F, F0, cc, env, t, v, t', o, he, q⟩ => ?_
      simp only [Mini.ev] at he
      obtain ⟨e1, e2⟩ := lft_some he
      simp only at e2
      subst e2
      obtain ⟨y, h1, h2⟩ := o.env.val i v (slot_some e1)
      exact ⟨y, h1, q _ H Step.refl o.cell h2 fun z => nomatch z⟩
    | _ => exact absurd c Bool.false_ne_true
  | .gl i, X, sc, ss, e, g, c => by
    cases e with
    | Name x pos =>
      obtain ⟨c1, c2⟩ := and2 (show ((match S.consts[i]? with | some p => strB p.1 x | none => false) && (glB sc x && nmB x)) = true from c)
      obtain ⟨c2, c3⟩ := and2 c2
      cases hp : S.consts[i]? with
      | none => rw [hp] at c1; cases c1
      | some p =>
        rw [hp] at c1
        have ex := strB_ok c1
        obtain ⟨u, v, h1, h2, h3⟩ := g.con i p hp
        rw [ex] at h1
        refine PE.of (pe_glob (v := v) (gl_of g c2) h1 h2 (nmB_ok c3).1) fun σ H Q ⟨G, F, F0, cc, env, t, w, t', o, he, q⟩ => ?_
        simp only [Mini.ev, hp] at he
        cases he
        exact q v H Step.refl o.cell (h3 H F) fun z => nomatch z
    | _ => exact absurd c Bool.false_ne_true
  | .fnv i, X, sc, ss, e, g, c => by
    cases e with
    | Name x pos =>
      obtain ⟨c1, c2⟩ := and2 (show ((match S.defs[i]? with | some d => strB d.name x | none => false) && (glB sc x && nmB x)) = true from c)
      obtain ⟨c2, c3⟩ := and2 c2
      cases hp : S.defs[i]? with
      | none => rw [hp] at c1; cases c1
      | some d =>
        rw [hp] at c1
        have ex := strB_ok c1
        obtain ⟨h1, _⟩ := g.fns i d hp
        rw [ex] at h1
        refine PE.of (pe_glob (v := .ref (fa i)) (gl_of g c2) h1 rfl (nmB_ok c3).1) fun σ H Q ⟨G, F, F0, cc, env, t, w, t', o, he, q⟩ => ?_
        simp only [Mini.ev] at he
        cases he
        exact q _ H Step.refl o.cell rfl fun z => nomatch z
    | _ => exact absurd c Bool.false_ne_true
  | .int i, X, sc, ss, e, g, c => by
    cases e with
    | Constant v kk pos =>
      cases v with
      | int j =>
        have ej : i = j := of_decide_eq_true c
        subst ej
        refine PE.of pe_int fun σ H Q ⟨G, F, F0, cc, env, t, w, t', o, he, q⟩ => ?_
        simp only [Mini.ev] at he
        cases he
        exact q _ H Step.refl o.cell (.int i) fun z => nomatch z
      | _ => exact absurd c Bool.false_ne_true
    | _ => exact absurd c Bool.false_ne_true
  | .str i, X, sc, ss, e, g, c => by
    cases e with
    | Constant v kk pos =>
      cases v with
      | str j =>
        have ej : i = j := strB_ok c
        subst ej
        refine PE.of pe_str fun σ H Q ⟨G, F, F0, cc, env, t, w, t', o, he, q⟩ => ?_
        simp only [Mini.ev] at he
        cases he
        exact q _ H Step.refl o.cell (.str i) fun z => nomatch z
      | _ => exact absurd c Bool.false_ne_true
    | _ => exact absurd c Bool.false_ne_true
  | .bl i, X, sc, ss, e, g, c => by
    cases e with
    | Constant v kk pos =>
      cases v with
      | bool j =>
        have ej : i = j := beq_iff_eq.mp (show (i == j) = true from c)
        subst ej
        refine PE.of pe_bl fun σ H Q ⟨G, F, F0, cc, env, t, w, t', o, he, q⟩ => ?_
        simp only [Mini.ev] at he
        cases he
        exact q _ H Step.refl o.cell (.bl i) fun z => nomatch z
      | _ => exact absurd c Bool.false_ne_true
    | _ => exact absurd c Bool.false_ne_true
  | .non, X, sc, ss, e, g, c => by
    cases e with
    | Constant v kk pos =>
      cases v with
      | none =>
        refine PE.of pe_non fun σ H Q ⟨G, F, F0, cc, env, t, w, t', o, he, q⟩ => ?_
        simp only [Mini.ev] at he
        cases he
        exact q _ H Step.refl o.cell .non fun z => nomatch z
      | _ => exact absurd c Bool.false_ne_true
    | _ => exact absurd c Bool.false_ne_true
  | .bin op a b, X, sc, ss, e, g, c => by
    cases e with
    | BinOp x p y pos =>
      obtain ⟨c1, c2⟩ := and2 (show (opB op p && (chkE S N a sc x && chkE S N b sc y)) = true from c)
      obtain ⟨c2, c3⟩ := and2 c2
      have ep := opB_ok c1
      subst ep
      refine PE.of (pe_op (op_B fa op) (toP g c2 (sE a g c2)) (toP g c3 (sE b g c3))) fun σ H Q ⟨G, F, F0, cc, env, t, w, t', o, he, q⟩ => ?_
      simp only [Mini.ev] at he
      obtain ⟨u, t1, h1, he⟩ := bnd_some he
      obtain ⟨v, t2, h2, he⟩ := bnd_some he
      obtain ⟨e1, e2⟩ := lft_some he
      simp only at e2
      subst e2
      split at e1
      · split at e1
        · rename_i z hz
          cases e1
          exact two_P o h1 h2 fun x' y' H2 s2 l2 r1 r2 => ⟨F, cc, t2, _, _, z, l2, fullS s2 o.full, r1, r2, hz, outE s2 q⟩
        · cases e1
      · cases e1
    | _ => exact absurd c Bool.false_ne_true
  | .neg a, X, sc, ss, e, g, c => by
    cases e with
    | UnaryOp p x pos =>
      cases p with
      | USub =>
        have c : chkE S N a sc x = true := c
        refine PE.of (pe_un un_neg (sE a g c)) fun σ H Q ⟨G, F, F0, cc, env, t, w, t', o, he, q⟩ => ?_
        simp only [Mini.ev] at he
        obtain ⟨u, t1, h1, he⟩ := bnd_some he
        obtain ⟨e1, e2⟩ := lft_some he
        simp only at e2
        subst e2
        split at e1
        · cases e1
          refine ⟨G, F, F0, cc, env, t, _, t1, o, h1, fun x' H2 s2 l2 r1 _ => ?_⟩
          cases (show Rep X.K H2 F x' (.int _) from r1)
          exact ⟨_, rfl, q _ H2 s2 l2 (.int _) fun z => nomatch z⟩
        · cases e1
      | _ => exact absurd c Bool.false_ne_true
    | _ => exact absurd c Bool.false_ne_true
  | .notv a, X, sc, ss, e, g, c => by
    cases e with
    | UnaryOp p x pos =>
      cases p with
      | Not =>
        have c : chkE S N a sc x = true := c
        refine PE.of (pe_not (sE a g c)) fun σ H Q ⟨G, F, F0, cc, env, t, w, t', o, he, q⟩ => ?_
        simp only [Mini.ev] at he
        obtain ⟨u, t1, h1, he⟩ := bnd_some he
        obtain ⟨e1, e2⟩ := lft_some he
        simp only at e2
        subst e2
        split at e1
        · cases e1
          refine ⟨G, F, F0, cc, env, t, _, t1, o, h1, fun x' H2 s2 l2 r1 _ => ?_⟩
          cases (show Rep X.K H2 F x' (.bool _) from r1)
          exact ⟨_, rfl, q _ H2 s2 l2 (.bl _) fun z => nomatch z⟩
        · cases e1
      | _ => exact absurd c Bool.false_ne_true
    | _ => exact absurd c Bool.false_ne_true
  | .cmp op a b, X, sc, ss, e, g, c => by
    cases e with
    | Compare x ps ys pos =>
      match ps, ys, c with
      | [p], [y], c =>
        obtain ⟨c1, c2⟩ := and2 (show (cB op p && (chkE S N a sc x && chkE S N b sc y)) = true from c)
        obtain ⟨c2, c3⟩ := and2 c2
        obtain ⟨ep, n1, n2⟩ := cB_ok c1
        subst ep
        refine PE.of (pe_cmpR (op_C fa (by have := g.units; omega) op) (toP g c2 (sE a g c2)) (toP g c3 (sE b g c3)) (noIn n1 n2 y)) fun σ H Q ⟨G, F, F0, cc, env, t, w, t', o, he, q⟩ => ?_
        simp only [Mini.ev] at he
        obtain ⟨u, t1, h1, he⟩ := bnd_some he
        obtain ⟨v, t2, h2, he⟩ := bnd_some he
        obtain ⟨e1, e2⟩ := lft_some he
        simp only at e2
        subst e2
        split at e1
        · split at e1
          · rename_i z hz
            cases e1
            exact two_P o h1 h2 fun x' y' H2 s2 l2 r1 r2 => ⟨F, cc, _, _, z, r1, r2, hz, q _ H2 s2 l2 (.bl _) fun z => nomatch z⟩
          · cases e1
        · cases e1
      | [], _, c => exact absurd c Bool.false_ne_true
      | _ :: _ :: _, _, c => exact absurd c Bool.false_ne_true
      | [_], [], c => exact absurd c Bool.false_ne_true
      | [_], _ :: _ :: _, c => exact absurd c Bool.false_ne_true
    | _ => exact absurd c Bool.false_ne_true
  | .boolv isAnd es, X, sc, ss, e, g, c => by
    cases e with
    | BoolOp p vs pos =>
      obtain ⟨c1, c2⟩ := and2 (show (andB isAnd p && (starless es && (decide (0 < cnt es) && chkEs S N es sc vs))) = true from c)
      obtain ⟨c2, c3⟩ := and2 c2
      obtain ⟨c3, c4⟩ := and2 c3
      refine PE.of (sB es c1 g c2 (of_decide_eq_true c3) c4) fun σ H Q ⟨G, F, F0, cc, env, t, w, t', o, he, q⟩ => ?_
      simp only [Mini.ev] at he
      exact ⟨G, F, F0, cc, env, t, w, t', o, he, fun x' H2 s2 l2 r1 _ => q x' H2 s2 l2 r1 fun z => nomatch z⟩
    | _ => exact absurd c Bool.false_ne_true
  | .ife tt a b, X, sc, ss, e, g, c => by
    cases e with
    | IfExp d x y pos =>
      obtain ⟨c1, c2⟩ := and2 (show (chkT S N tt sc d && (chkE S N a sc x && chkE S N b sc y)) = true from c)
      obtain ⟨c2, c3⟩ := and2 c2
      refine PE.of (pe_ifExp (sT tt g c1) (sE a g c2) (sE b g c3)) fun σ H Q ⟨G, F, F0, cc, env, t, w, t', o, he, q⟩ => ?_
      simp only [Mini.ev] at he
      obtain ⟨u, t1, h1, he⟩ := bnd_some he
      refine ⟨G, F, F0, cc, env, t, u, t1, o, h1, fun H1 s1 l1 => ?_⟩
      obtain ⟨k1, k2⟩ := cond_some he
      cases u with
      | true => exact ⟨G, F, F0, cc, env, t1, w, t', o.step s1 l1, k1 rfl, fun x' H2 s2 l2 r1 _ => q x' H2 (s1.trans s2) l2 r1 fun z => nomatch z⟩
      | false => exact ⟨G, F, F0, cc, env, t1, w, t', o.step s1 l1, k2 rfl, fun x' H2 s2 l2 r1 _ => q x' H2 (s1.trans s2) l2 r1 fun z => nomatch z⟩
    | _ => exact absurd c Bool.false_ne_true
  | .tup es, X, sc, ss, e, g, c => by
    cases e with
    | Tuple vs kk pos =>
      obtain ⟨c1, c2⟩ := and2 (show (decide (cnt es ≤ 1000) && chkEs S N es sc vs) = true from c)
      refine PE.of (pe_tup (sEs es g c2)) fun σ H Q ⟨G, F, F0, cc, env, t, w, t', o, he, q⟩ => ?_
      simp only [Mini.ev] at he
      obtain ⟨us, t1, h1, he⟩ := bnd_some he
      obtain ⟨e1, e2⟩ := lft_some he
      simp only at e2
      subst e2
      split at e1
      · rename_i l hl
        cases e1
        have hd := dats_some hl
        have len := evs_len es h1
        have c1 := of_decide_eq_true c1
        refine ⟨G, F, F0, cc, env, t, us, t1, o, h1, fun xs H1 s1 l1 r1 => ?_⟩
        rw [hd] at r1
        have ra := RepVs.dats r1
        have hz : xs.length ≤ sizeLine := by
          rw [ra.length, ← List.length_map (f := Val.d), ← hd, sizeLine_eq]
          omega
        exact ⟨hz, fun p hp => (outE (fr := false) s1 fun x' H2 s2 l2 r _ => q x' H2 s2 l2 r fun z => nomatch z).tup l1 hz ra hp⟩
      · cases e1
    | _ => exact absurd c Bool.false_ne_true
  | .lst es, X, sc, ss, e, g, c => by
    cases e with
    | List vs pos =>
      obtain ⟨c1, c2⟩ := and2 (show (decide (cnt es ≤ 1000) && chkEs S N es sc vs) = true from c)
      refine PE.of (pe_lst (sEs es g c2)) fun σ H Q ⟨G, F, F0, cc, env, t, w, t', o, he, q⟩ => ?_
      simp only [Mini.ev] at he
      obtain ⟨us, t1, h1, he⟩ := bnd_some he
      obtain ⟨e1, e2⟩ := lft_some he
      simp only at e2
      subst e2
      split at e1
      · rename_i l hl
        cases e1
        have hd := dats_some hl
        have len := evs_len es h1
        have c1 := of_decide_eq_true c1
        refine ⟨G, F, F0, cc, env, t, us, t1, o, h1, fun xs H1 s1 l1 r1 => ?_⟩
        rw [hd] at r1
        have ra := RepVs.dats r1
        have hz : xs.length ≤ sizeLine := by
          rw [ra.length, ← List.length_map (f := Val.d), ← hd, sizeLine_eq]
          omega
        exact ⟨hz, fun p hp => (outE s1 q).lst l1 (fullS s1 o.full) hz ra hp⟩
      · cases e1
    | _ => exact absurd c Bool.false_ne_true
  | .idx a i, X, sc, ss, e, g, c => by
    cases e with
    | Subscript x y pos =>
      have c : (chkE S N a sc x && chkE S N i sc y) = true := by
        cases y <;> exact c
      obtain ⟨c1, c2⟩ := and2 c
      refine PE.of (pe_ix (ix_list.or ix_tup) (toS g c1 (sE a g c1)) (sE i g c2) (plain c2)) fun σ H Q ⟨G, F, F0, cc, env, t, w, t', o, he, q⟩ => ?_
      simp only [Mini.ev] at he
      obtain ⟨u0, t1, h1, he⟩ := bnd_some he
      obtain ⟨v, t2, h2, he⟩ := bnd_some he
      obtain ⟨u, t3, h3, he⟩ := bnd_some he
      obtain ⟨e1, e2⟩ := lft_some he
      simp only at e2
      subst e2
      refine two_S o h1 h2 fun x' y' H2 s2 l2 r1 r2 => ?_
      have ru : t3 = t2 ∧ RepS X.K fa H2 F cc x' u ∨ ∃ b vs, t3 = t2 ∧ x' = .ref b ∧ u = .d (.list t2) ∧ H2 b = some (.lst vs) ∧ RepAll X.K H2 F vs t2 := by
        unfold Mini.res at h3
        cases u0 with
        | cel =>
          cases h3
          have hc : ∃ b, cc = some b ∧ x' = .ref b := by
            rcases r1 with (r1 | ⟨_, _, _, _, z, _⟩) | ⟨_, _, _, _, z, _⟩
            · exact r1
            · cases z
            · cases z
          obtain ⟨b, hc, ex⟩ := hc
          obtain ⟨_, vs, hb, _, rb⟩ := l2 b hc
          exact .inr ⟨b, vs, rfl, ex, rfl, hb, rb⟩
        | d z => cases h3; exact .inl ⟨rfl, r1⟩
        | fn z => cases h3; exact .inl ⟨rfl, r1⟩
        | scr z => cases h3; exact .inl ⟨rfl, r1⟩
      split at e1
      · cases (show Rep X.K H2 F y' (.int _) from r2)
        split at e1
        · rename_i xs hs
          split at e1
          · rename_i z hz
            cases e1
            rcases ru with ⟨et, ru⟩ | ⟨b, vs, et, ex, eu, hb, rb⟩
            · subst et
              unfold Mini.seq? at hs
              split at hs
              · cases hs
                obtain ⟨b, vs, rfl, hh, _, rr⟩ := ru.lst
                obtain ⟨v, k1, k2⟩ := at_rel rr hz
                exact .inl ⟨b, vs, _, v, rfl, rfl, hh, k1, outN s2 l2 k2 fun x' H' s l r _ => q x' H' s l r fun z => nomatch z⟩
              · cases hs
                obtain ⟨b, vs, rfl, hh, _, rr⟩ := ru.tup
                obtain ⟨v, k1, k2⟩ := at_rel rr hz
                exact .inr ⟨b, vs, _, v, rfl, rfl, hh, k1, outN s2 l2 k2 fun x' H' s l r _ => q x' H' s l r fun z => nomatch z⟩
              · cases hs
            · subst et; subst ex
              cases eu
              cases hs
              obtain ⟨v, k1, k2⟩ := at_rel rb hz
              exact .inl ⟨b, vs, _, v, rfl, rfl, SqL.of hb, k1, outN s2 l2 k2 fun x' H' s l r _ => q x' H' s l r fun z => nomatch z⟩
          · cases e1
        · cases e1
      · cases e1
    | _ => exact absurd c Bool.false_ne_true
  | .slLo a lo, X, sc, ss, e, g, c => by
    cases e with
    | Subscript x y pos =>
      match y, c with
      | .Slice (some l) none none pos2, c =>
        obtain ⟨c1, c2⟩ := and2 (show (chkE S N a sc x && chkE S N lo sc l) = true from c)
        refine PE.of (pe_slice (sl_list.or sl_tupA) (toS g c1 (sE a g c1)) (po_some (sE lo g c2)) po_none) fun σ H Q ⟨G, F, F0, cc, env, t, w, t', o, he, q⟩ => ?_
        simp only [Mini.ev] at he
        obtain ⟨u, t1, h1, he⟩ := bnd_some he
        obtain ⟨v, t2, h2, he⟩ := bnd_some he
        obtain ⟨e1, e2⟩ := lft_some he
        simp only at e2
        subst e2
        split at e1
        · split at e1
          · rename_i z hz
            cases e1
            refine two_S o h1 h2 fun x' y' H2 s2 l2 r1 r2 => ?_
            cases (show Rep X.K H2 F y' (.int _) from r2)
            exact ⟨_, rfl, cut_out r1 hz l2 (fullS s2 o.full) (outE s2 q)⟩
          · cases e1
        · cases e1
    | _ => exact absurd c Bool.false_ne_true
  | .slHi a hi, X, sc, ss, e, g, c => by
    cases e with
    | Subscript x y pos =>
      match y, c with
      | .Slice none (some l) none pos2, c =>
        obtain ⟨c1, c2⟩ := and2 (show (chkE S N a sc x && chkE S N hi sc l) = true from c)
        refine PE.of (pe_slice (sl_list.or sl_tupA) (toS g c1 (sE a g c1)) po_none (po_some (sE hi g c2))) fun σ H Q ⟨G, F, F0, cc, env, t, w, t', o, he, q⟩ => ?_
        simp only [Mini.ev] at he
        obtain ⟨u, t1, h1, he⟩ := bnd_some he
        obtain ⟨v, t2, h2, he⟩ := bnd_some he
        obtain ⟨e1, e2⟩ := lft_some he
        simp only at e2
        subst e2
        split at e1
        · split at e1
          · rename_i z hz
            cases e1
            refine two_S o h1 h2 fun x' y' H2 s2 l2 r1 r2 => ?_
            cases (show Rep X.K H2 F y' (.int _) from r2)
            exact ⟨_, rfl, cut_out r1 hz l2 (fullS s2 o.full) (outE s2 q)⟩
          · cases e1
        · cases e1
    | _ => exact absurd c Bool.false_ne_true
  | .slLH a lo hi, X, sc, ss, e, g, c => by
    cases e with
    | Subscript x y pos =>
      match y, c with
      | .Slice (some l) (some l2) none pos2, c =>
        obtain ⟨c1, c2⟩ := and2 (show (chkE S N a sc x && (chkE S N lo sc l && chkE S N hi sc l2)) = true from c)
        obtain ⟨c2, c3⟩ := and2 c2
        refine PE.of (pe_slice (sl_list.or sl_tupA) (toS g c1 (sE a g c1)) (po_some (sE lo g c2)) (po_some (sE hi g c3))) fun σ H Q ⟨G, F, F0, cc, env, t, w, t', o, he, q⟩ => ?_
        simp only [Mini.ev] at he
        obtain ⟨u, t1, h1, he⟩ := bnd_some he
        obtain ⟨v, t2, h2, he⟩ := bnd_some he
        obtain ⟨v3, t3, h3, he⟩ := bnd_some he
        obtain ⟨e1, e2⟩ := lft_some he
        simp only at e2
        subst e2
        split at e1
        · split at e1
          · rename_i z hz
            cases e1
            refine two_S o h1 h2 fun x' y' H2 s2 l2 r1 r2 => ?_
            cases (show Rep X.K H2 F y' (.int _) from r2)
            refine ⟨_, rfl, G, F, F0, cc, env, _, _, _, o.step s2 l2, h3, fun z' H3 s3 l3 r3 _ => ?_⟩
            cases (show Rep X.K H3 F z' (.int _) from r3)
            exact ⟨_, rfl, cut_out (r1.step s3 l2.l) hz l3 (fullS (s2.trans s3) o.full) (outE (s2.trans s3) q)⟩
          · cases e1
        · cases e1
    | _ => exact absurd c Bool.false_ne_true
  | .slRev a, X, sc, ss, e, g, c => by
    cases e with
    | Subscript x y pos =>
      match y, c with
      | .Slice none none (some (.UnaryOp .USub (.Constant (.int 1) _ _) _)) _, c =>
        have c : chkE S N a sc x = true := c
        refine PE.of (pe_revL (toS g c (sE a g c))) fun σ H Q ⟨G, F, F0, cc, env, t, w, t', o, he, q⟩ => ?_
        simp only [Mini.ev] at he
        obtain ⟨u, t1, h1, he⟩ := bnd_some he
        obtain ⟨e1, e2⟩ := lft_some he
        simp only at e2
        subst e2
        split at e1
        · split at e1
          · rename_i z hz
            cases e1
            unfold Mini.revD at hz
            split at hz
            · cases hz
              refine ⟨G, F, F0, cc, env, t, _, _, o, h1, fun x' H2 s2 l2 r1 => ?_⟩
              obtain ⟨b, vs, rfl, hh, zz, rr⟩ := r1.lst
              exact ⟨b, vs, rfl, hh, fun p hp => (outE s2 q).lst l2 (fullS s2 o.full) (by rw [List.length_reverse]; exact zz) rr.rev hp⟩
            · cases hz
          · cases e1
        · cases e1
    | _ => exact absurd c Bool.false_ne_true
  | .call i es ks kw, X, sc, ss, e, g, c => by
    cases e with
    | Call f args kws pos =>
      match f, c with
      | .Name x p, c =>
        obtain ⟨c1, c4⟩ := and2 (show ((match S.defs[i]? with | some d => strB d.name x && kwB d (cnt es) ks | none => false) && (glB sc x && nmB x) && (starless es && starless kw) && (chkEs S N es sc args && chkK S N kw ks sc kws)) = true from c)
        obtain ⟨c1, c3⟩ := and2 c1
        obtain ⟨c1, c2⟩ := and2 c1
        obtain ⟨c2, c2n⟩ := and2 c2
        obtain ⟨c3, c3k⟩ := and2 c3
        obtain ⟨c4, c5⟩ := and2 c4
        cases hd : S.defs[i]? with
        | none => rw [hd] at c1; cases c1
        | some d =>
          rw [hd] at c1
          obtain ⟨c1, c6⟩ := and2 c1
          have ex := strB_ok c1
          obtain ⟨h1, h2⟩ := g.fns i d hd
          rw [ex] at h1
          obtain ⟨pr, hm, hpr⟩ := List.any_eq_true.mp (show d.forms.any (fun p => decide (p = (cnt es, ks))) = true from c6)
          have hpr := of_decide_eq_true hpr
          subst hpr
          obtain ⟨kn, ka, kf⟩ := kws_names c5 X.env
          refine PE.of (pe_callD (gl_of g c2) h1 (nmB_ok c2n).1 h2 g.guards g.room hm (args_star c4 c3 X.env) (plains c3 c4 X.env) kn (ka pos) (kf pos) (sEs es g c4) (sK kw g c5) (nil_args c4)) fun σ H Q ⟨G, F, F0, cc, env, t, w, t', o, he, q⟩ => ?_
          simp only [Mini.ev, hd] at he
          obtain ⟨vs, t1, k1, he⟩ := bnd_some he
          obtain ⟨ws, t2, k2, he⟩ := bnd_some he
          obtain ⟨us, t3, k3, he⟩ := bnd_some he
          obtain ⟨e1, e2⟩ := lft_some k3
          simp only at e1 e2
          subst e2
          refine ⟨G, F, F0, cc, env, t, vs, t1, o, k1, fun xs H1 s1 l1 r1 => ?_⟩
          refine ⟨G, F, F0, cc, env, t1, ws, t2, o.step s1 l1, k2, fun ys H2 s2 l2 r2 => ?_⟩
          have r1' := RepVs.step s2 l1.l r1
          refine ⟨by rw [r1.length]; exact evs_cnt c3 k1, by rw [r2.length, evs_cnt c3k k2]; exact kws_cnt c5, ?_⟩
          obtain ⟨as, b1, b2⟩ := bind_right r1' r2 e1
          refine ⟨as, b1, F, cc, t2, us, w, t', l2, full_step (full_step o.full s1 l1) s2 l2, b2, he, fun x' H' s l r n => q x' H' ((s1.trans s2).trans s) l r fun fr => ?_⟩
          have fr' : d.fresh = true := by
            have fr : (match S.defs[i]? with | some d => d.fresh | none => false) = true := fr
            rw [hd] at fr; exact fr
          exact New.back (s1.trans s2) (n fr')
    | _ => exact absurd c Bool.false_ne_true
  | .callT i a es, X, sc, ss, e, g, c => by
    cases e with
    | Call f args kws pos =>
      match f, args, kws, c with
      | .Name x p, y :: args, [], c =>
        obtain ⟨c1, c4⟩ := and2 (show ((match S.defs[i]? with | some d => strB d.name x && (kwB d (cnt es + 1) [] && decide (d.params.length = cnt es + 1)) | none => false) && (glB sc x && nmB x) && starless es && (frE S a && (chkE S N a sc y && chkEs S N es sc args))) = true from c)
        obtain ⟨c1, c3⟩ := and2 c1
        obtain ⟨c1, c2⟩ := and2 c1
        obtain ⟨c2, c2n⟩ := and2 c2
        obtain ⟨c4, c5⟩ := and2 c4
        obtain ⟨c5, c6⟩ := and2 c5
        cases hd : S.defs[i]? with
        | none => rw [hd] at c1; cases c1
        | some d =>
          rw [hd] at c1
          obtain ⟨c1, c7⟩ := and2 c1
          obtain ⟨c7, c8⟩ := and2 c7
          have c8 := of_decide_eq_true c8
          have ex := strB_ok c1
          obtain ⟨h1, h2⟩ := g.fns i d hd
          rw [ex] at h1
          obtain ⟨pr, hm, hpr⟩ := List.any_eq_true.mp (show d.forms.any (fun p => decide (p = (cnt es + 1, []))) = true from c7)
          have hpr := of_decide_eq_true hpr
          subst hpr
          have hst : ∀ e es', y :: args = e :: es' → starEach (y :: args) X.env = (false, eval e X.env) :: starEach es' X.env := fun e es' h => by
            cases h; exact ns c5 _ _
          have hpl : ∀ pos, (backTo pos (starEach (y :: args) X.env)).any (·.1) = false := fun pos => by
            rw [ns c5]
            show (false || (backTo pos (starEach args X.env)).any (·.1)) = false
            rw [Bool.false_or]
            exact plains c3 c6 _ _
          refine PE.of (pe_callD (gl_of g c2) h1 (nmB_ok c2n).1 h2 g.guards g.room hm hst hpl (fun _ => rfl) rfl rfl (pa_cons (sE a g c5) (sEs es g c6) (ns c5 _ _)) pk_nil (fun z => nomatch z)) fun σ H Q ⟨G, F, F0, cc, env, t, w, t', o, he, q⟩ => ?_
          simp only [Mini.ev] at he
          obtain ⟨u, t1, k1, he⟩ := bnd_some he
          obtain ⟨_, t1', k1e, he⟩ := bnd_some he
          obtain ⟨vs, t2, k2, he⟩ := bnd_some he
          obtain ⟨_, t2', k2e, he⟩ := bnd_some he
          obtain ⟨q1, q2⟩ := emp_some k1e
          obtain ⟨q3, q4⟩ := emp_some k2e
          simp only at q2 q4
          subst q1; subst q2; subst q3; subst q4
          obtain ⟨ds, l, r, t3, rfl, hds, hr, rfl, rfl⟩ := callT_some he
          · · 
              refine ⟨G, F, F0, cc, env, t, _, _, o, k1, fun x1 H1 s1 l1 r1 n1 => ?_⟩
              obtain ⟨b, ws, rfl, hb, hb1, z1, ra⟩ := n1 c4 ds rfl
              have nb : some b ≠ cc := fun e => by
                obtain ⟨_, us, h⟩ := o.l b e.symm
                rw [hb] at h; cases h
              have emptyC : ∀ {H2 : Hp} {F1 F2 : List Addr}, (∀ a ∈ F1, a ∈ F2) → CellR X.K H2 F1 cc [] → CellR X.K H2 F2 cc [] := fun {H2 F1 F2} hs l a' ea => by
                obtain ⟨m, us, h, z, rr⟩ := l a' ea
                cases rr
                exact ⟨hs _ m, [], h, z, .nil⟩
              have l1' : CellR X.K H1 (b :: F) cc [] := emptyC (fun _ => List.mem_cons_of_mem _) l1
              have o1 := o.add s1 l1' hb ⟨ws, hb1⟩
              refine ⟨G, b :: F, F0, cc, env, [], vs, [], o1, k2, fun xs H2 s2 l2 r2 => ?_⟩
              have hb2 : H2 b = some (.lst ws) := s2.keep b _ nb hb1
              have ra2 : RepAll X.K H2 (b :: F) ws ds := RepAll.step s2 l1'.l ra
              refine ⟨by show xs.length + 1 = cnt es + 1; rw [r2.length, evs_cnt c3 k2], rfl, .ref b :: xs, ?_, ?_⟩
              · exact bind_pos (by show xs.length + 1 = _; rw [c8, r2.length, evs_cnt c3 k2])
              · rw [hds] at r2
                refine ⟨b :: F, some b, ds, .cel :: l.map Val.d, .d r, t3, fun a' ea => by cases ea; exact ⟨List.mem_cons_self, ws, hb2, z1, ra2⟩, full_step o1.full s2 l2, .cons ⟨b, rfl, rfl⟩ (RepVs.ofAll (RepVs.dats r2)), hr, fun x' H' s3 l3 r3 n3 => ?_⟩
                have s12 := s1.trans s2
                have s3' : Step cc H H' := ⟨fun a' o' na h => s3.keep a' o' (fun ea => by cases ea; rw [hb] at h; cases h) (s12.keep a' o' na h), fun a' h => s12.dom a' (s3.dom a' h)⟩
                refine q x' H' s3' (fun a' ea => ?_) (Rep.weak (fun _ => List.mem_cons_of_mem _) r3) fun fr => ?_
                · obtain ⟨m, us, h, z, rr⟩ := l2 a' ea
                  cases rr
                  refine ⟨(o.l a' ea).1, [], s3.keep a' _ (fun eb => nb (by rw [← eb, ea])) h, z, .nil⟩
                · have fr' : d.fresh = true := by
                    have fr : (frE S (.callT i a es)) = true := fr
                    exact absurd fr Bool.false_ne_true
                  exact absurd fr Bool.false_ne_true
    | _ => exact absurd c Bool.false_ne_true
  | .callv i es, X, sc, ss, e, g, c => by
    cases e <;> first | exact absurd c (fun z => Bool.false_ne_true z)
  | .bi b es, X, sc, ss, e, g, c => by
    cases e with
    | Call f args kws pos =>
      match f, kws, c with
      | .Name x p, [], c =>
        obtain ⟨d1, z1⟩ := and2 (show (strB (biName b) x && (impB S b && (glB sc x && (starless es && (decide (0 < cnt es) && chkEs S N es sc args))))) = true from c)
        obtain ⟨d2, z2⟩ := and2 z1
        obtain ⟨d3, z3⟩ := and2 z2
        obtain ⟨d4, z4⟩ := and2 z3
        obtain ⟨d5, d6⟩ := and2 z4
        have ex := strB_ok d1
        subst ex
        cases args with
        | nil => cases es <;> first | exact absurd d5 (by decide) | exact absurd d6 (fun z => Bool.false_ne_true z)
        | cons y args =>
          have hr := cr_F (X := X) fa g.calm g.guards (by have := g.units; omega) b
          have hst := args_star d6 d4 X.env y args rfl
          have hpl := plains1 d6 d4 X.env
          obtain ⟨nm1, nm2⟩ := bi_nm b
          have base : PE X (.Call (.Name (biName b) p) (y :: args) [] pos) (tCB (rF X.K fa b) (tAP X.K fa (Mini.evP S C es))) := by
            have hg := gl_of g d3
            have ha := sEP es g d4 d6
            cases b with
            | gcd =>
              have him : X.mg "gcd" = some (.builtin "math.gcd") := by
                refine g.imp _ _ ?_
                unfold impB at d2
                dsimp only at d2
                split at d2
                · rename_i id h; rw [h, of_decide_eq_true d2]
                · cases d2
              exact pe_callBfun hr hg him ha nm1 hst (hpl pos)
            | isqrt => cases d2
            | lcm => cases d2
            | len => exact pe_callB hr hg (g.blt _ (by simp [biName])) (bi_boot .len ⟨by simp, by simp, by simp⟩) ha nm2 nm1 hst (hpl pos)
            | abs => exact pe_callB hr hg (g.blt _ (by simp [biName])) (bi_boot .abs ⟨by simp, by simp, by simp⟩) ha nm2 nm1 hst (hpl pos)
            | int => exact pe_callTy hr hg (g.blt _ (by simp [biName])) (bi_boot .int ⟨by simp, by simp, by simp⟩) ha nm2 nm1 hst (hpl pos)
            | tuple => exact pe_callTy hr hg (g.blt _ (by simp [biName])) (bi_boot .tuple ⟨by simp, by simp, by simp⟩) ha nm2 nm1 hst (hpl pos)
            | list => exact pe_callTy hr hg (g.blt _ (by simp [biName])) (bi_boot .list ⟨by simp, by simp, by simp⟩) ha nm2 nm1 hst (hpl pos)
            | max2 => exact pe_callB hr hg (g.blt _ (by simp [biName])) (bi_boot .max2 ⟨by simp, by simp, by simp⟩) ha nm2 nm1 hst (hpl pos)
            | min2 => exact pe_callB hr hg (g.blt _ (by simp [biName])) (bi_boot .min2 ⟨by simp, by simp, by simp⟩) ha nm2 nm1 hst (hpl pos)
            | sum => exact pe_callB hr hg (g.blt _ (by simp [biName])) (bi_boot .sum ⟨by simp, by simp, by simp⟩) ha nm2 nm1 hst (hpl pos)
            | all => exact pe_callB hr hg (g.blt _ (by simp [biName])) (bi_boot .all ⟨by simp, by simp, by simp⟩) ha nm2 nm1 hst (hpl pos)
            | repr => exact pe_callB hr hg (g.blt _ (by simp [biName])) (bi_boot .repr ⟨by simp, by simp, by simp⟩) ha nm2 nm1 hst (hpl pos)
            | divmod => exact pe_callB hr hg (g.blt _ (by simp [biName])) (bi_boot .divmod ⟨by simp, by simp, by simp⟩) ha nm2 nm1 hst (hpl pos)
            | max1 => exact pe_callB hr hg (g.blt _ (by simp [biName])) (bi_boot .max1 ⟨by simp, by simp, by simp⟩) ha nm2 nm1 hst (hpl pos)
            | min1 => exact pe_callB hr hg (g.blt _ (by simp [biName])) (bi_boot .min1 ⟨by simp, by simp, by simp⟩) ha nm2 nm1 hst (hpl pos)
            | str1 => exact pe_callTy hr hg (g.blt _ (by simp [biName])) (bi_boot .str1 ⟨by simp, by simp, by simp⟩) ha nm2 nm1 hst (hpl pos)
          refine PE.of base fun σ H Q ⟨G, F, F0, cc, env, t, w, t', o, he, q⟩ => ?_
          simp only [Mini.ev] at he
          obtain ⟨vs, t1, k1, he⟩ := bnd_some he
          obtain ⟨e1, e2⟩ := lft_some he
          simp only at e1 e2
          subst e2
          refine ⟨G, F, F0, cc, env, t, vs, t1, o, k1, fun xs H1 s1 l1 r1 => ?_⟩
          cases hl : Mini.dats vs with
          | none => rw [hl] at e1; cases e1
          | some l =>
            rw [hl] at e1
            dsimp only at e1
            cases hz : Mini.bfun b l with
            | none => rw [hz] at e1; cases e1
            | some z =>
              rw [hz] at e1
              cases e1
              exact ⟨F, cc, t1, vs, z, l1, fullS s1 o.full, r1, by rw [hl]; exact hz, outE s1 q⟩
    | _ => exact absurd c Bool.false_ne_true
  | .isin a ty, X, sc, ss, e, g, c => by
    cases e with
    | Call f args kws pos =>
      match f, args, kws, c with
      | .Name x p, [y, .Name z p2], [], c =>
        obtain ⟨d1, z1⟩ := and2 (show (strB "isinstance" x && (strB (tyName ty) z && (glB sc x && (glB sc z && chkE S N a sc y)))) = true from c)
        obtain ⟨d2, z2⟩ := and2 z1
        obtain ⟨d3, z3⟩ := and2 z2
        obtain ⟨d4, d5⟩ := and2 z3
        have ex := strB_ok d1
        have ez := strB_ok d2
        subst ex; subst ez
        have hn : X.mg (tyName ty) = none := g.blt _ (by cases ty <;> simp [tyName])
        have pt : PE X (.Name (tyName ty) p2) (tC (.ty (tyStr ty))) := pe_bltn (gl_of g d4) hn (ty_boot ty) rfl (ty_nm ty).2 (ty_nm ty).1
        refine PE.of (pe_callB call_isi (gl_of g d3) (g.blt _ (by simp)) PyProof.Rows.boot_isinstance (pa_cons (toP g d5 (sE a g d5)) (pa_cons pt pa_nil rfl) (ns d5 _ _)) (by decide) (by decide) (ns d5 _ _) rfl) fun σ H Q ⟨G, F, F0, cc, env, t, w, t', o, he, q⟩ => ?_
        simp only [Mini.ev] at he
        obtain ⟨u, t1, h1, he⟩ := bnd_some he
        obtain ⟨e1, e2⟩ := lft_some he
        simp only at e2
        subst e2
        split at e1
        · cases e1
          refine ⟨G, F, F0, cc, env, t, _, t1, o, h1, fun x' H2 s2 l2 r1 => ?_⟩
          obtain ⟨n, k1, k2⟩ := ins_ty r1 ty
          exact ⟨x', .ty (tyStr ty), .type n, .type (tyStr ty), _, rfl, .ty _, k1, kit_ty k2, q _ H2 s2 l2 (.bl _) fun z => nomatch z⟩
        · cases e1
    | _ => exact absurd c Bool.false_ne_true
  | .comp elt gg it, X, sc, ss, e, g, c => by
    cases e with
    | ListComp x gs scope pos =>
      match gs, c with
      | [⟨tg, iter, [], 0⟩], c =>
        obtain ⟨d1, z1⟩ := and2 (show (blkC N sc scope (ownOf gg tg) && (flatG gg && (chkI S N it sc tg iter && (chkG S N gg scope tg && chkE S N elt (relS scope sc) x)))) = true from c)
        obtain ⟨d2, z2⟩ := and2 z1
        obtain ⟨d3, z3⟩ := and2 z2
        obtain ⟨d4, d5⟩ := and2 z3
        have base := comp_core (pos := pos) (mt := fun _ => ret true) g.calm (by rw [g.hN]; exact g.nd) (sI it (strict := false) g d3) (by rw [g.hN, g.scope]; exact blkOk_by d1) (own_map d2 d4) (fun s H D cl fp => by have q := sG gg (g.blk scope s H D cl fp) (.inl d2) d4; rw [d2] at q; exact q) (fun _ _ _ _ _ => pts_nil)
          (fun σ H Q ⟨G, F, F0, cc, env, t, b, t', o, he, q⟩ => by cases he; exact q H Step.refl o.cell) (fun s H D cl fp => sE elt (g.blk scope s H D cl fp) d5) (nofoldI (X := X) d3 X.env)
        refine PE.of base fun σ H Q ⟨G, F, F0, cc, env, t, w, t', o, he, q⟩ => ?_
        simp only [Mini.ev] at he
        exact ⟨G, F, F0, cc, env, t, w, t', o, he, q⟩
    | _ => exact absurd c Bool.false_ne_true
  | .compIf elt gg it tt, X, sc, ss, e, g, c => by
    cases e with
    | ListComp x gs scope pos =>
      match gs, c with
      | [⟨tg, iter, [d], 0⟩], c =>
        obtain ⟨d1, z1⟩ := and2 (show (blkC N sc scope (ownOf gg tg) && (flatG gg && (chkI S N it sc tg iter && (chkG S N gg scope tg && (chkT S N tt (relS scope sc) d && chkE S N elt (relS scope sc) x))))) = true from c)
        obtain ⟨d2, z2⟩ := and2 z1
        obtain ⟨d3, z3⟩ := and2 z2
        obtain ⟨d4, z4⟩ := and2 z3
        obtain ⟨d5, d6⟩ := and2 z4
        have base := comp_core (pos := pos) g.calm (by rw [g.hN]; exact g.nd) (sI it (strict := false) g d3) (by rw [g.hN, g.scope]; exact blkOk_by d1) (own_map d2 d4) (fun s H D cl fp => by have q := sG gg (g.blk scope s H D cl fp) (.inl d2) d4; rw [d2] at q; exact q) (fun s H D cl fp => pts_one (sT tt (g.blk scope s H D cl fp) d5))
          (fun σ H Q h => h) (fun s H D cl fp => sE elt (g.blk scope s H D cl fp) d6) (nofoldI (X := X) d3 X.env)
        refine PE.of base fun σ H Q ⟨G, F, F0, cc, env, t, w, t', o, he, q⟩ => ?_
        simp only [Mini.ev] at he
        exact ⟨G, F, F0, cc, env, t, w, t', o, he, q⟩
    | _ => exact absurd c Bool.false_ne_true
theorem sEs : ∀ (m : MEs) {X : Cx} {sc ss : Scope} {es : List Expr}, Gd S C fa k N sc ss X → chkEs S N m sc es = true → PA X es (tAs X.K fa (Mini.evs S C m))
  | .nil, X, sc, ss, es, g, c => by
    cases es with
    | nil =>
      refine PA.of pa_nil fun σ H Q ⟨G, F, F0, cc, env, t, w, t', o, he, q⟩ => ?_
      simp only [Mini.evs] at he
      cases he
      exact q [] H Step.refl o.cell .nil
    | cons _ _ => exact absurd c Bool.false_ne_true
  | .cons m ms, X, sc, ss, es, g, c => by
    cases es with
    | nil => exact absurd c Bool.false_ne_true
    | cons e es =>
      obtain ⟨c1, c2⟩ := and2 (show (chkE S N m sc e && chkEs S N ms sc es) = true from c)
      refine PA.of (pa_cons (sE m g c1) (sEs ms g c2) (ns c1 _ _)) fun σ H Q ⟨G, F, F0, cc, env, t, w, t', o, he, q⟩ => ?_
      simp only [Mini.evs] at he
      obtain ⟨u, t1, h1, he⟩ := bnd_some he
      obtain ⟨us, t2, h2, he⟩ := bnd_some he
      cases he
      refine ⟨G, F, F0, cc, env, t, u, t1, o, h1, fun x' H1 s1 l1 r1 _ => ?_⟩
      exact ⟨G, F, F0, cc, env, t1, us, _, o.step s1 l1, h2, fun xs H2 s2 l2 r2 => q _ H2 (s1.trans s2) l2 (.cons (r1.step s2 l1.l) r2)⟩
  | .star m ms, X, sc, ss, es, g, c => by
    match es, c with
    | .Starred e p :: es, c =>
      obtain ⟨c1, c2⟩ := and2 (show (chkE S N m sc e && chkEs S N ms sc es) = true from c)
      refine PA.of (StX.pa_star (toP g c1 (sE m g c1)) (sEs ms g c2)) fun σ H Q ⟨G, F, F0, cc, env, t, w, t', o, he, q⟩ => ?_
      simp only [Mini.evs] at he
      obtain ⟨u, t1, h1, he⟩ := bnd_some he
      obtain ⟨us, t2, h2, he⟩ := bnd_some he
      obtain ⟨e1, e2⟩ := lft_some he
      simp only at e2
      subst e2
      refine ⟨G, F, F0, cc, env, t, u, t1, o, h1, fun x' H1 s1 l1 r1 => ?_⟩
      split at e1
      · split at e1
        · split at e1
          · rename_i l hs hz
            cases e1
            have fin : ∀ {a vs}, RepAll X.K H1 F vs l → x' = .ref a → (SqT X.K H1 a vs ∨ SqL X.K H1 a vs) → ∃ p xs, x' = V.ref p ∧ (SqT X.K H1 p xs ∨ SqL X.K H1 p xs) ∧ tAs X.K fa (Mini.evs S C ms) σ H1 fun ys H2 => Q (xs ++ ys) H2 := fun {a vs} rr ex hh =>
              ⟨a, vs, ex, hh, G, F, F0, cc, env, t1, us, _, o.step s1 l1, h2, fun xs H2 s2 l2 r2 => q _ H2 (s1.trans s2) l2 ((RepVs.ofAll (RepAll.step s2 l1.l rr)).app r2)⟩
            unfold Mini.seq? at hs
            split at hs
            · cases hs
              obtain ⟨a, vs, ex, hh, zz, rr⟩ := r1.lst
              exact fin rr ex (.inr (SqL.of hh))
            · cases hs
              obtain ⟨a, vs, ex, hh, zz, rr⟩ := r1.tup
              exact fin rr ex (.inl hh)
            · cases hs
          · cases e1
        · cases e1
      · cases e1
theorem sEP : ∀ (m : MEs) {X : Cx} {sc ss : Scope} {es : List Expr}, Gd S C fa k N sc ss X → starless m = true → chkEs S N m sc es = true → PA X es (tAP X.K fa (Mini.evP S C m))
  | .nil, X, sc, ss, es, g, sl, c => by
    cases es with
    | nil =>
      refine PA.of pa_nil fun σ H Q ⟨G, F, F0, cc, env, t, w, t', o, he, q⟩ => ?_
      simp only [Mini.evP] at he
      cases he
      exact q [] H Step.refl o.cell .nil
    | cons _ _ => exact absurd c Bool.false_ne_true
  | .cons m ms, X, sc, ss, es, g, sl, c => by
    cases es with
    | nil => exact absurd c Bool.false_ne_true
    | cons e es =>
      obtain ⟨c1, c2⟩ := and2 (show (chkE S N m sc e && chkEs S N ms sc es) = true from c)
      refine PA.of (pa_cons (toS g c1 (sE m g c1)) (sEP ms g sl c2) (ns c1 _ _)) fun σ H Q ⟨G, F, F0, cc, env, t, w, t', o, he, q⟩ => ?_
      simp only [Mini.evP] at he
      obtain ⟨u, t1, h1, he⟩ := bnd_some he
      obtain ⟨us, t2, h2, he⟩ := bnd_some he
      cases he
      refine ⟨G, F, F0, cc, env, t, u, t1, o, h1, fun x' H1 s1 l1 r1 => ?_⟩
      exact ⟨G, F, F0, cc, env, t1, us, _, o.step s1 l1, h2, fun xs H2 s2 l2 r2 => q _ H2 (s1.trans s2) l2 (.cons (r1.step s2 l1.l) r2)⟩
  | .star m ms, X, sc, ss, es, g, sl, c => absurd sl Bool.false_ne_true
theorem sK : ∀ (m : MEs) {X : Cx} {sc ss : Scope} {ks : List Str} {kws : List Keyword}, Gd S C fa k N sc ss X → chkK S N m ks sc kws = true → PK X kws (tAs X.K fa (Mini.evs S C m))
  | .nil, X, sc, ss, ks, kws, g, c => by
    match ks, kws, c with
    | [], [], c =>
      refine PK.of pk_nil fun σ H Q ⟨G, F, F0, cc, env, t, w, t', o, he, q⟩ => ?_
      simp only [Mini.evs] at he
      cases he
      exact q [] H Step.refl o.cell .nil
  | .cons m ms, X, sc, ss, ks, kws, g, c => by
    match ks, kws, c with
    | kk :: ks, ⟨some x, v, p⟩ :: kws, c =>
      obtain ⟨c0, c1⟩ := and2 (show (strB kk x && (chkE S N m sc v && chkK S N ms ks sc kws)) = true from c)
      obtain ⟨c1, c2⟩ := and2 c1
      refine PK.of (pk_cons (sE m g c1) (sK ms g c2)) fun σ H Q ⟨G, F, F0, cc, env, t, w, t', o, he, q⟩ => ?_
      simp only [Mini.evs] at he
      obtain ⟨u, t1, h1, he⟩ := bnd_some he
      obtain ⟨us, t2, h2, he⟩ := bnd_some he
      cases he
      refine ⟨G, F, F0, cc, env, t, u, t1, o, h1, fun x' H1 s1 l1 r1 _ => ?_⟩
      exact ⟨G, F, F0, cc, env, t1, us, _, o.step s1 l1, h2, fun xs H2 s2 l2 r2 => q _ H2 (s1.trans s2) l2 (.cons (r1.step s2 l1.l) r2)⟩
  | .star m ms, X, sc, ss, ks, kws, g, c => by
    cases ks <;> cases kws <;> exact absurd c Bool.false_ne_true
theorem sB : ∀ (m : MEs) {X : Cx} {sc ss : Scope} {es : List Expr} {isAnd : Bool} {p : BoolOp} {pos : Pos}, andB isAnd p = true → Gd S C fa k N sc ss X → starless m = true → 0 < cnt m → chkEs S N m sc es = true →
    PE X (.BoolOp p es pos) (tE X.K fa (Mini.evB S C isAnd m) false)
  | .nil, X, sc, ss, es, isAnd, p, pos, hp, g, s, n, c => absurd n (by decide)
  | .cons m ms, X, sc, ss, es, isAnd, p, pos, hp, g, s, n, c => by
    cases es with
    | nil => exact absurd c Bool.false_ne_true
    | cons e es =>
      obtain ⟨c1, c2⟩ := and2 (show (chkE S N m sc e && chkEs S N ms sc es) = true from c)
      have h1 := sE m g c1
      cases ms with
      | nil =>
        cases es with
        | nil =>
          refine PE.of (pe_one h1) fun σ H Q ⟨G, F, F0, cc, env, t, w, t', o, he, q⟩ => ?_
          simp only [Mini.evB] at he
          exact ⟨G, F, F0, cc, env, t, w, t', o, he, fun x' H2 s2 l2 r1 _ => q x' H2 s2 l2 r1 fun z => nomatch z⟩
        | cons _ _ => exact absurd c2 Bool.false_ne_true
      | cons m2 ms2 =>
        cases es with
        | nil => exact absurd c2 Bool.false_ne_true
        | cons e2 es2 =>
          have h2 := sB (.cons m2 ms2) (pos := pos) hp g s (Nat.succ_pos _) c2
          have ep := and_op hp
          subst ep
          cases isAnd with
          | true =>
            refine PE.of (pe_and h1 h2) fun σ H Q ⟨G, F, F0, cc, env, t, w, t', o, he, q⟩ => ?_
            simp only [Mini.evB] at he
            obtain ⟨u, t1, k1, he⟩ := bnd_some he
            refine ⟨G, F, F0, cc, env, t, u, t1, o, k1, fun x' H1 s1 l1 r1 _ => ?_⟩
            split at he
            · cases (show Rep X.K H1 F x' (.bool _) from r1)
              obtain ⟨k2, k3⟩ := cond_some he
              rename Bool => b
              refine ⟨b, rfl, ?_⟩
              cases b with
              | true => exact ⟨G, F, F0, cc, env, t1, w, t', o.step s1 l1, k2 rfl, fun x' H2 s2 l2 r1 n => q x' H2 (s1.trans s2) l2 r1 fun z => nomatch z⟩
              | false => cases k3 rfl; exact q _ H1 s1 l1 (.bl _) fun z => nomatch z
            · cases he
          | false =>
            refine PE.of (pe_or h1 h2) fun σ H Q ⟨G, F, F0, cc, env, t, w, t', o, he, q⟩ => ?_
            simp only [Mini.evB] at he
            obtain ⟨u, t1, k1, he⟩ := bnd_some he
            refine ⟨G, F, F0, cc, env, t, u, t1, o, k1, fun x' H1 s1 l1 r1 _ => ?_⟩
            split at he
            · cases (show Rep X.K H1 F x' (.bool _) from r1)
              obtain ⟨k2, k3⟩ := cond_some he
              rename Bool => b
              refine ⟨b, rfl, ?_⟩
              cases b with
              | false => exact ⟨G, F, F0, cc, env, t1, w, t', o.step s1 l1, k2 rfl, fun x' H2 s2 l2 r1 n => q x' H2 (s1.trans s2) l2 r1 fun z => nomatch z⟩
              | true => cases k3 rfl; exact q _ H1 s1 l1 (.bl _) fun z => nomatch z
            · cases he
      | star _ _ => exact absurd s Bool.false_ne_true
  | .star m ms, X, sc, ss, es, isAnd, p, pos, hp, g, s, n, c => absurd s Bool.false_ne_true
theorem sT : ∀ (m : MT) {X : Cx} {sc ss : Scope} {e : Expr}, Gd S C fa k N sc ss X → chkT S N m sc e = true → PT X e (tT X.K fa (Mini.tst S C m))
  | .val m, X, sc, ss, e, g, c => by
    have hc : chkT S N (.val m) sc e = (chkE S N m sc e && bareE e) := by
      unfold chkT; cases e <;> rfl
    rw [hc] at c
    obtain ⟨c1, c2⟩ := and2 c
    refine PT.of (pt_truth (toP g c1 (sE m g c1)) (isT_plain c2 X.env)) fun σ H Q ⟨G, F, F0, cc, env, t, w, t', o, he, q⟩ => ?_
    simp only [Mini.tst] at he
    obtain ⟨u, t1, h1, he⟩ := bnd_some he
    obtain ⟨e1, e2⟩ := lft_some he
    simp only at e2
    subst e2
    refine ⟨G, F, F0, cc, env, t, u, t1, o, h1, fun x' H2 s2 l2 r1 => ?_⟩
    split at e1
    · exact ⟨w, truth_V r1 e1, q H2 s2 l2⟩
    · cases e1
  | .cmp op a b, X, sc, ss, e, g, c => by
    cases e with
    | Compare x ps ys pos =>
      match ps, ys, c with
      | [p], [y], c =>
        obtain ⟨c1, c2⟩ := and2 (show (cB op p && (chkE S N a sc x && chkE S N b sc y)) = true from c)
        obtain ⟨c2, c3⟩ := and2 c2
        obtain ⟨ep, n1, n2⟩ := cB_ok c1
        subst ep
        refine PT.of (pt_cmpR (op_C fa (by have := g.units; omega) op) (toP g c2 (sE a g c2)) (toP g c3 (sE b g c3)) (noIn n1 n2 y)) fun σ H Q ⟨G, F, F0, cc, env, t, w, t', o, he, q⟩ => ?_
        simp only [Mini.tst] at he
        obtain ⟨u, t1, h1, he⟩ := bnd_some he
        obtain ⟨v, t2, h2, he⟩ := bnd_some he
        obtain ⟨e1, e2⟩ := lft_some he
        simp only at e2
        subst e2
        split at e1
        · exact two_P o h1 h2 fun x' y' H2 s2 l2 r1 r2 => ⟨F, cc, _, _, w, r1, r2, e1, w, rfl, q H2 s2 l2⟩
        · cases e1
      | [], _, c => exact absurd c Bool.false_ne_true
      | _ :: _ :: _, _, c => exact absurd c Bool.false_ne_true
      | [_], [], c => exact absurd c Bool.false_ne_true
      | [_], _ :: _ :: _, c => exact absurd c Bool.false_ne_true
    | _ => exact absurd c Bool.false_ne_true
  | .not m, X, sc, ss, e, g, c => by
    cases e with
    | UnaryOp p x pos =>
      cases p with
      | Not =>
        have c : chkT S N m sc x = true := c
        refine PT.of (pt_not (sT m g c)) fun σ H Q ⟨G, F, F0, cc, env, t, w, t', o, he, q⟩ => ?_
        simp only [Mini.tst] at he
        obtain ⟨u, t1, h1, he⟩ := bnd_some he
        cases he
        exact ⟨G, F, F0, cc, env, t, u, _, o, h1, fun H2 s2 l2 => q H2 s2 l2⟩
      | _ => exact absurd c Bool.false_ne_true
    | _ => exact absurd c Bool.false_ne_true
  | .all isAnd ts, X, sc, ss, e, g, c => by
    cases e with
    | BoolOp p vs pos =>
      obtain ⟨c1, c2⟩ := and2 (show (andB isAnd p && (decide (vs ≠ []) && chkTs S N ts sc vs)) = true from c)
      obtain ⟨c2, c3⟩ := and2 c2
      exact PT.of (sTs ts c1 g (of_decide_eq_true c2) c3).pt fun σ H Q h => by simpa only [Mini.tst] using h
    | _ => exact absurd c Bool.false_ne_true
theorem sTs : ∀ (m : MTs) {X : Cx} {sc ss : Scope} {es : List Expr} {isAnd : Bool} {p : BoolOp} {pos : Pos}, andB isAnd p = true → Gd S C fa k N sc ss X → es ≠ [] → chkTs S N m sc es = true →
    PW X (.BoolOp p es pos) (tT X.K fa (Mini.tsts S C isAnd m))
  | .nil, X, sc, ss, es, isAnd, p, pos, hp, g, n, c => by
    cases es with
    | nil => exact absurd rfl n
    | cons _ _ => exact absurd c Bool.false_ne_true
  | .cons m ms, X, sc, ss, es, isAnd, p, pos, hp, g, n, c => by
    cases es with
    | nil => exact absurd rfl n
    | cons e es =>
      obtain ⟨c1, c2⟩ := and2 (show (chkT S N m sc e && chkTs S N ms sc es) = true from c)
      have h1 := sT m g c1
      have ep := and_op hp
      cases es with
      | nil =>
        cases ms with
        | nil =>
          subst ep
          have fin : ∀ {σ : L2.St} {H : Hp} {Q : Bool → Hp → Prop}, tT X.K fa (Mini.tsts S C isAnd (.cons m .nil)) σ H Q → tT X.K fa (Mini.tst S C m) σ H Q := fun {σ H Q} ⟨G, F, F0, cc, env, t, w, t', o, he, q⟩ => by
            simp only [Mini.tsts] at he
            obtain ⟨u, t1, k1, he⟩ := bnd_some he
            obtain ⟨k2, k3⟩ := cond_some he
            have ew : w = u ∧ t' = t1 := by
              cases hu : (u == isAnd) with
              | true => cases k2 hu; exact ⟨(beq_iff_eq.mp hu).symm, rfl⟩
              | false => cases k3 hu; exact ⟨rfl, rfl⟩
            obtain ⟨rfl, rfl⟩ := ew
            exact ⟨G, F, F0, cc, env, t, _, _, o, k1, q⟩
          cases isAnd with
          | true => exact ⟨fun wh pins s σ H Q I h => (pw_and1 h1).run wh pins s σ H Q I (fin h)⟩
          | false => exact ⟨fun wh pins s σ H Q I h => (pw_or1 h1).run wh pins s σ H Q I (fin h)⟩
        | cons _ _ => exact absurd c2 Bool.false_ne_true
      | cons e2 es2 =>
        have h2 := sTs ms (pos := pos) hp g (List.cons_ne_nil _ _) c2
        subst ep
        cases isAnd with
        | true =>
          refine ⟨fun wh pins s σ H Q I h => (pw_and h1 h2).run wh pins s σ H Q I ?_⟩
          obtain ⟨G, F, F0, cc, env, t, w, t', o, he, q⟩ := h
          simp only [Mini.tsts] at he
          obtain ⟨u, t1, k1, he⟩ := bnd_some he
          obtain ⟨k2, k3⟩ := cond_some he
          refine ⟨G, F, F0, cc, env, t, u, t1, o, k1, fun H1 s1 l1 => ?_⟩
          cases u with
          | true => exact ⟨G, F, F0, cc, env, t1, w, t', o.step s1 l1, k2 rfl, fun H2 s2 l2 => q H2 (s1.trans s2) l2⟩
          | false => cases k3 rfl; exact q H1 s1 l1
        | false =>
          refine ⟨fun wh pins s σ H Q I h => (pw_or h1 h2).run wh pins s σ H Q I ?_⟩
          obtain ⟨G, F, F0, cc, env, t, w, t', o, he, q⟩ := h
          simp only [Mini.tsts] at he
          obtain ⟨u, t1, k1, he⟩ := bnd_some he
          obtain ⟨k2, k3⟩ := cond_some he
          refine ⟨G, F, F0, cc, env, t, u, t1, o, k1, fun H1 s1 l1 => ?_⟩
          cases u with
          | false => exact ⟨G, F, F0, cc, env, t1, w, t', o.step s1 l1, k2 rfl, fun H2 s2 l2 => q H2 (s1.trans s2) l2⟩
          | true => cases k3 rfl; exact q H1 s1 l1
theorem sI : ∀ (m : MI) {X : Cx} {sc ss : Scope} {tg e : Expr} {strict : Bool}, Gd S C fa k N sc ss X → chkI S N m sc tg e = true → PI X tg e (tI X.K fa (Mini.evI S C strict m) strict)
  | .seq m, X, sc, ss, tg, e, strict, g, c => by
    refine PI.of (pi_any (toW (strict := strict) g (show chkE S N m sc e = true from c) (sE m g c))) fun σ H R ⟨G, F, F0, cc, env, t, w, t', o, he, q⟩ => ?_
    simp only [Mini.evI] at he
    obtain ⟨u, t1, h1, he⟩ := bnd_some he
    obtain ⟨e1, e2⟩ := lft_some he
    clear he
    simp only at e2
    subst e2
    refine ⟨G, F, F0, cc, env, t, u, t1, o, h1, fun x' H1 s1 l1 r1 => ?_⟩
    cases u with
    | d y =>
      cases y with
      | list ds =>
        cases e1
        obtain ⟨a, vs, ex, sq⟩ := r1.sqL l1.l (full_step o.full s1 l1)
        exact ⟨a, ex, .inl ⟨⟨vs, sq.now⟩, q _ H1 s1 l1 (jk_list sq)⟩⟩
      | tuple ds =>
        cases e1
        obtain ⟨a, vs, ex, sq⟩ := RepS.sqT (strict := strict) r1.s l1.l (full_step o.full s1 l1)
        exact ⟨a, ex, .inr ⟨⟨vs, sq.now⟩, q _ H1 s1 l1 (jk_tup sq)⟩⟩
      | _ => cases e1
    | _ => cases e1
  | .rng1 a, X, sc, ss, tg, e, strict, g, c => by
    cases e with
    | Call f args kws pos =>
      match f, args, kws, c with
      | .Name x p, [y], [], c =>
        obtain ⟨d1, z1⟩ := and2 (show (strB "range" x && (glB sc x && chkE S N a sc y)) = true from c)
        obtain ⟨d2, d3⟩ := and2 z1
        have ex := strB_ok d1
        subst ex
        refine PI.of (pi_range1 (gl_of g d2) (g.blt _ (by simp)) (pa_cons (sE a g d3) pa_nil (ns d3 _ _)) (ns d3 _ _)) fun σ H R ⟨G, F, F0, cc, env, t, w, t', o, he, q⟩ => ?_
        simp only [Mini.evI] at he
        obtain ⟨u, t1, h1, he⟩ := bnd_some he
        obtain ⟨e1, e2⟩ := lft_some he
        clear he
        simp only at e2
        subst e2
        refine ⟨G, F, F0, cc, env, t, u, t1, o, h1, fun x' H1 s1 l1 r1 _ => ?_⟩
        split at e1
        · split at e1
          · rename_i hz
            cases e1
            cases (show Rep X.K H1 F x' (.int _) from r1)
            have lz : Mini.line = 16777216 := rfl
            refine ⟨_, rfl, by omega, by omega, q _ H1 s1 l1 (jk_rng (by rw [← line_eq]; omega))⟩
          · cases e1
        · cases e1
    | _ => exact absurd c Bool.false_ne_true
  | .rng2 a b, X, sc, ss, tg, e, strict, g, c => by
    cases e with
    | Call f args kws pos =>
      match f, args, kws, c with
      | .Name x p, [y, z], [], c =>
        obtain ⟨d1, z1⟩ := and2 (show (strB "range" x && (glB sc x && (chkE S N a sc y && chkE S N b sc z))) = true from c)
        obtain ⟨d2, z2⟩ := and2 z1
        obtain ⟨d3, d4⟩ := and2 z2
        have ex := strB_ok d1
        subst ex
        refine PI.of (pi_range2 (gl_of g d2) (g.blt _ (by simp)) (pa_cons (sE a g d3) (pa_cons (sE b g d4) pa_nil (ns d4 _ _)) (ns d3 _ _)) (by rw [ns d3, ns d4]; rfl) (ns d4 _ _)) fun σ H R ⟨G, F, F0, cc, env, t, w, t', o, he, q⟩ => ?_
        simp only [Mini.evI] at he
        obtain ⟨u, t1, h1, he⟩ := bnd_some he
        obtain ⟨v, t2, h2, he⟩ := bnd_some he
        obtain ⟨e1, e2⟩ := lft_some he
        clear he
        simp only at e2
        subst e2
        refine ⟨G, F, F0, cc, env, t, u, t1, o, h1, fun x' H1 s1 l1 r1 _ => ?_⟩
        refine ⟨G, F, F0, cc, env, t1, v, t2, o.step s1 l1, h2, fun y' H2 s2 l2 r2 _ => ?_⟩
        split at e1
        · split at e1
          · rename_i hz
            cases e1
            cases (show Rep X.K H1 F x' (.int _) from r1)
            cases (show Rep X.K H2 F y' (.int _) from r2)
            have lz : Mini.line = 16777216 := rfl
            refine ⟨_, _, rfl, ⟨by omega, by omega, by omega, by omega⟩, q _ H2 (s1.trans s2) l2 (jk_rng (by rw [← line_eq]; omega))⟩
          · cases e1
        · cases e1
    | _ => exact absurd c Bool.false_ne_true
  | .zip a b, X, sc, ss, tg, e, strict, g, c => by
    cases tg with
    | Tuple gs gk gp =>
      cases e with
      | Call f args kws pos =>
        match f, args, kws, c with
        | .Name x p, [y, z], [], c =>
          obtain ⟨d1, z1⟩ := and2 (show (strB "zip" x && (glB sc x && (chkE S N a sc y && chkE S N b sc z))) = true from c)
          obtain ⟨d2, z2⟩ := and2 z1
          obtain ⟨d3, d4⟩ := and2 z2
          have ex := strB_ok d1
          subst ex
          refine PI.of (RZ.pi_zipA (gl_of g d2) (g.blt _ (by simp)) (pa_cons (toW (strict := strict) g d3 (sE a g d3)) (pa_cons (toW (strict := strict) g d4 (sE b g d4)) pa_nil (ns d4 _ _)) (ns d3 _ _)) (ns d3 _ _) (by rw [ns d4]; rfl)) fun σ H R ⟨G, F, F0, cc, env, t, w, t', o, he, q⟩ => ?_
          simp only [Mini.evI] at he
          obtain ⟨u, t1, h1, he⟩ := bnd_some he
          obtain ⟨v, t2, h2, he⟩ := bnd_some he
          obtain ⟨e1, e2⟩ := lft_some he
          clear he
          simp only at e2
          subst e2
          refine ⟨G, F, F0, cc, env, t, u, t1, o, h1, fun x' H1 s1 l1 r1 => ?_⟩
          refine ⟨G, F, F0, cc, env, t1, v, t2, o.step s1 l1, h2, fun y' H2 s2 l2 r2 => ?_⟩
          have r1 := r1.step s2 l1.l
          have fl := full_step (full_step o.full s1 l1) s2 l2
          split at e1
          · split at e1
            · cases e1
              obtain ⟨a1, vs, ex, sq⟩ := r1.sqL l2.l fl
              obtain ⟨a2, ws, ey, sp⟩ := r2.sqL l2.l fl
              exact ⟨a1, a2, vs, ws, by rw [ex, ey], .inl ⟨sq.now, sp.now, q _ H2 (s1.trans s2) l2 (jk_zip sq sp)⟩⟩
            · cases e1
              obtain ⟨a1, vs, ex, sq⟩ := RepS.sqT (strict := strict) r1.s l2.l fl
              obtain ⟨a2, ws, ey, sp⟩ := RepS.sqT (strict := strict) r2.s l2.l fl
              exact ⟨a1, a2, vs, ws, by rw [ex, ey], .inr ⟨sq.now, sp.now, q _ H2 (s1.trans s2) l2 (jk_zipT sq sp)⟩⟩
            · cases e1
          · cases e1
      | _ => exact absurd c Bool.false_ne_true
    | _ => exact absurd c Bool.false_ne_true
  | .enum a, X, sc, ss, tg, e, strict, g, c => by
    cases tg with
    | Tuple gs gk gp =>
      cases e with
      | Call f args kws pos =>
        match f, args, kws, c with
        | .Name x p, [y], [], c =>
          obtain ⟨d1, z1⟩ := and2 (show (strB "enumerate" x && (glB sc x && chkE S N a sc y)) = true from c)
          obtain ⟨d2, d3⟩ := and2 z1
          have ex := strB_ok d1
          subst ex
          refine PI.of (pi_enum (gl_of g d2) (g.blt _ (by simp)) (pa_cons (toW (strict := strict) g d3 (sE a g d3)) pa_nil (ns d3 _ _)) (ns d3 _ _)) fun σ H R ⟨G, F, F0, cc, env, t, w, t', o, he, q⟩ => ?_
          simp only [Mini.evI] at he
          obtain ⟨u, t1, h1, he⟩ := bnd_some he
          obtain ⟨e1, e2⟩ := lft_some he
          clear he
          simp only at e2
          subst e2
          refine ⟨G, F, F0, cc, env, t, u, t1, o, h1, fun x' H1 s1 l1 r1 => ?_⟩
          split at e1
          · split at e1
            · cases e1
              obtain ⟨a1, vs, ex, sq⟩ := r1.sqL l1.l (full_step o.full s1 l1)
              exact ⟨a1, vs, by rw [ex], sq.now, q _ H1 s1 l1 (jk_enum sq)⟩
            · cases e1
          · cases e1
      | _ => exact absurd c Bool.false_ne_true
    | _ => exact absurd c Bool.false_ne_true
theorem sG : ∀ (m : MG) {X : Cx} {sc ss : Scope} {e : Expr}, Gd S C fa k N sc ss X → (flatG m = true ∨ ss = sc) → chkG S N m ss e = true → PG X e (tG X.K fa (Mini.asgn S C m) (Mini.gslots m) (flatG m))
  | .nm i, X, sc, ss, e, g, f, c => by
    cases e with
    | Name x pos =>
      obtain ⟨c1, c2⟩ := and2 (show (decide (N[i]? = some x) && (locB ss x && nmB x)) = true from c)
      obtain ⟨c2, c3⟩ := and2 c2
      have hi : X.N[i]? = some x := by rw [g.hN]; exact of_decide_eq_true c1
      obtain ⟨hl, hf⟩ := g.hf x (locB_ok c2)
      refine ⟨fun pins s σ H v w Q I r ⟨G, F, F0, cc, env, t, y, env', t', o, rv, he, q⟩ => ?_⟩
      refine (pg_name (pos := pos) (by rw [g.hN]; exact g.nd) hi hl hf).run pins s σ H v w Q I r ?_
      simp only [Mini.asgn] at he
      cases he
      have hlt : i < env.length := by
        rw [o.env.len, I.len]
        exact (List.getElem?_eq_some_iff.mp hi).1
      exact q _ H (o.env' (o.env.set hlt rv)) Lat.refl (fun vs h => wipe_set (h i (by simp [Mini.gslots]))) fun _ => ⟨rfl, rfl⟩
    | _ => exact absurd c Bool.false_ne_true
  | .tup gs, X, sc, ss, e, g, f, c => by
    cases e with
    | Tuple es kk pos =>
      have c : chkGs S N gs ss es = true := c
      refine PG.of (pg_tup (n := es.length) g.calm (sGs gs g f c) (ngs c X.env).1 (ngs c X.env).2) fun v σ H Q ⟨G, F, F0, cc, env, t, y, env', t', o, rv, he, q⟩ => ?_
      simp only [Mini.asgn] at he
      have main : ∀ xs, y = .d (.tuple xs) → Mini.asgns S C gs xs env t = some (env', t') → gTup X.K es.length (tGs X.K fa (Mini.asgns S C gs) (Mini.gsslots gs) (flatG.flatGs gs)) v σ H Q := fun xs ey he => by
        subst ey
        have rv : Rep X.K H F v (.tuple xs) := rv
        cases rv with
        | tup hh z rr =>
          refine ⟨_, _, rfl, hh, by rw [rr.length]; exact gs_len c he, ?_⟩
          refine ⟨G, F, F0, cc, env, t, xs, env', t', o, rr, he, fun σ' H' o' la w fl => q σ' H' o' la (fun vs hv => w vs fun i hi => hv i (by simpa only [Mini.gslots] using hi)) fl⟩
      cases y with
      | d y =>
        cases y with
        | tuple xs => exact main xs rfl he
        | _ => cases he
      | _ => cases he
    | _ => exact absurd c Bool.false_ne_true
  | .sub i m, X, sc, ss, e, g, f, c => by
    have es : ss = sc := f.elim (fun z => absurd z Bool.false_ne_true) id
    subst es
    cases e with
    | Subscript x y pos =>
      match x, c with
      | .Name x p, c =>
        obtain ⟨c1, c2⟩ := and2 (show (decide (N[i]? = some x) && (visB ss x && (nmB x && chkE S N m ss y))) = true from c)
        obtain ⟨c2, c3⟩ := and2 c2
        obtain ⟨c3, c4⟩ := and2 c3
        have cv : chkE S N (.nm i) ss (.Name x p) = true := by
          show (decide (N[i]? = some x) && (visB ss x && nmB x)) = true
          rw [c1, c2, c3]; rfl
        refine PG.of (pg_sub (var_P g cv) (sE m g c4) set_list (set_form c4)) fun v σ H Q ⟨G, F, F0, cc, env, t, y', env', t', o, rv, he, q⟩ => ?_
        simp only [Mini.asgn] at he
        obtain ⟨u, t1, h1, he⟩ := bnd_some he
        have fin : ∀ {H2 : Hp}, Step cc H H2 → Lat F H H2 := fun s => (Lat.refl (Z := F)).step s fun a e => (o.l a e).1
        match u, y', he, h1, rv with
        | .d (.int j), .d d, he, h1, rv =>
          generalize hi : env[i]? = so at he
          match so, he with
          | some (.own xs), he =>
            obtain ⟨a, vs0, k1, k2, _⟩ := o.env.own i xs hi
            refine ⟨.ref a, k1, G, F, F0, cc, env, t, _, t1, o, h1, fun z H2 s2 l2 r2 _ => ?_⟩
            cases (show Rep X.K H2 F z (.int _) from r2)
            have o2 := o.step s2 l2
            obtain ⟨a', vs, k3, k4, k5, k6, k7⟩ := o2.env.own i xs hi
            rw [k1] at k3; cases k3
            have hl := k6.length
            have rv2 : Rep X.K H2 F v d := RepV.step (v := .d d) s2 o.l rv
            have go : ∀ {jn : Nat}, env' = env.set i (.own (xs.set jn d)) → t' = t1 → ixN vs.length j = some jn → ∃ p xs k j', V.ref a = V.ref p ∧ V.int j = V.int k ∧ H2 p = some (HO.lst xs) ∧ ixN xs.length k = some j' ∧ Q σ (upd H2 p (.lst (xs.set j' v))) := fun {jn} e1 e2 hx => by
              subst e1; subst e2
              obtain ⟨q1, q2⟩ := o2.putOwn (ws := vs.set jn v) (ys := xs.set jn d) hi k1 k4 (by rw [List.length_set]; exact k5) (RepAll.set rv2 jn k6)
              exact ⟨a, vs, j, jn, rfl, rfl, k4, hx, q σ _ q1 ((fin s2).trans q2) (fun _ _ => rfl) fun z => nomatch z⟩
            dsimp only at he
            split at he
            · rename_i hz
              cases he
              exact go rfl rfl (by unfold ixN; rw [if_pos hz.1, if_pos (by omega)])
            · split at he
              · rename_i hz
                cases he
                refine go rfl rfl ?_
                unfold ixN
                rw [if_neg (by omega), if_pos (by omega), hl]
              · cases he
          | some (.v .cel), he =>
            obtain ⟨w, k1, a, hc, ew⟩ := o.env.val i .cel hi
            subst ew
            refine ⟨.ref a, k1, G, F, F0, cc, env, t, _, t1, o, h1, fun z H2 s2 l2 r2 _ => ?_⟩
            cases (show Rep X.K H2 F z (.int _) from r2)
            have o2 := o.step s2 l2
            obtain ⟨m1, vs, k4, k5, k6⟩ := l2 a hc
            have hl := k6.length
            have rv2 : Rep X.K H2 F v d := RepV.step (v := .d d) s2 o.l rv
            dsimp only at he
            split at he
            · rename_i hz
              cases he
              obtain ⟨q1, q2⟩ := o2.putCell (ws := vs.set j.toNat v) hc k4 (by rw [List.length_set]; exact k5) (RepAll.set rv2 j.toNat k6)
              exact ⟨a, vs, j, j.toNat, rfl, rfl, k4, by unfold ixN; rw [if_pos hz.1, if_pos (by omega)], q σ _ q1 ((fin s2).trans q2) (fun _ _ => rfl) fun z => nomatch z⟩
            · cases he
    | _ => exact absurd c Bool.false_ne_true
theorem sGs : ∀ (m : MGs) {X : Cx} {sc ss : Scope} {es : List Expr}, Gd S C fa k N sc ss X → (flatG.flatGs m = true ∨ ss = sc) → chkGs S N m ss es = true → PGs X es (tGs X.K fa (Mini.asgns S C m) (Mini.gsslots m) (flatG.flatGs m))
  | .nil, X, sc, ss, es, g, f, c => by
    cases es with
    | nil =>
      refine PGs.of pgs_nil fun vs σ H Q ⟨G, F, F0, cc, env, t, xs, env', t', o, rv, he, q⟩ => ?_
      simp only [Mini.asgns] at he
      cases xs with
      | nil =>
        cases he
        cases rv
        exact ⟨rfl, q σ H o Lat.refl (fun _ _ => rfl) fun _ => ⟨rfl, rfl⟩⟩
      | cons _ _ => cases he
    | cons _ _ => exact absurd c Bool.false_ne_true
  | .cons m ms, X, sc, ss, es, g, f, c => by
    cases es with
    | nil => exact absurd c Bool.false_ne_true
    | cons e es =>
      obtain ⟨c1, c2⟩ := and2 (show (chkG S N m ss e && chkGs S N ms ss es) = true from c)
      have fl : flatG.flatGs (.cons m ms) = true → flatG m = true ∧ flatG.flatGs ms = true := fun z => by
        cases m with
        | nm i => exact ⟨rfl, z⟩
        | _ => exact absurd z Bool.false_ne_true
      have f1 : flatG m = true ∨ ss = sc := f.elim (fun z => .inl (fl z).1) .inr
      have f2 : flatG.flatGs ms = true ∨ ss = sc := f.elim (fun z => .inl (fl z).2) .inr
      refine PGs.of (pgs_cons (sG m g f1 c1) (sGs ms g f2 c2) (by rw [ng c1]; rfl)) fun vs σ H Q ⟨G, F, F0, cc, env, t, xs, env', t', o, rv, he, q⟩ => ?_
      simp only [Mini.asgns] at he
      cases xs with
      | nil => cases he
      | cons x r =>
        obtain ⟨env1, t1, h1, h2⟩ := bnd_some he
        cases rv with
        | cons rx rr =>
          refine ⟨_, _, rfl, G, F, F0, cc, env, t, .d x, env1, t1, o, rx, h1, fun σ1 H1 o1 la w1 g1 => ?_⟩
          refine ⟨G, F, F0, cc, env1, t1, r, env', t', o1, la.rep o.full rr, h2, fun σ2 H2 o2 la2 w2 g2 => q σ2 H2 o2 (la.trans la2) (fun vs hv => ?_) fun z => ?_⟩
          · have hv' : ∀ i ∈ Mini.gslots m ++ Mini.gsslots ms, i ∈ vs := fun i hi => hv i (by simpa only [Mini.gsslots] using hi)
            exact (w2 vs fun i hi => hv' i (List.mem_append_right _ hi)).trans (w1 vs fun i hi => hv' i (List.mem_append_left _ hi))
          · obtain ⟨z1, z2⟩ := fl z
            obtain ⟨a1, a2⟩ := g1 z1
            obtain ⟨b1, b2⟩ := g2 z2
            exact ⟨b1.trans a1, b2.trans a2⟩
end
end
end Snd

end

section
set_option Elab.async false
set_option linter.all false
set_option maxRecDepth 100000
set_option maxHeartbeats 16000000
/-! Statements. -/
namespace Snd
open PySem PySem.Spec PyProof.Rows L2
open Mini (ME MEs MT MTs MI MG MGs MS MSs Val Sl Tap Sig Def bnd ret fail lft cond peek look Fl)
/-! ### the text of a statement -/
def isComp : Expr → Bool
  | .ListComp .. => true
  | _ => false
/-- a comprehension whose list comes to its name at once -/
def swB (sc : Scope) : Expr → Expr → Bool
  | .ListComp _ _ scope pos, .Name t py => decide (sc.names.lookup t = some .local) && (py.line == pos.line && !(scope.names.any fun (n, k) => n == t && (k == .local || k == .cell)))
  | _, _ => false
def isLoc (sc : Scope) : Expr → Bool
  | .Name x _ => decide (sc.names.lookup x = some .local)
  | _ => false
def twB (sc : Scope) : Expr → Expr → Bool
  | .Tuple ts _ _, .Tuple vs _ _ => vs.all (foldedForSure 8) || !(ts.all (isLoc sc))
  | _, _ => true
/-- several names at once -/
def parB (sc : Scope) (ts vs : List Expr) : Bool :=
  (match ts with
    | .Name _ p :: r => r.all fun | .Name _ q => q.line == p.line | _ => false
    | _ => false) && (!(vs.all (foldedForSure 8)) && (!(vs.all (constantsAlone 8)) && decide ((ts.filterMap fun | .Name x _ => some x | _ => none).eraseDups.length = ts.length)))
def locN (N : List Str) (sc : Scope) (i : Nat) (x : Str) : Bool := decide (N[i]? = some x) && (decide (sc.names.lookup x = some .local) && nmB x)
def isNm : Expr → Bool
  | .Name _ _ => true
  | _ => false
def asgO : Stmt → Option (Expr × Expr × Pos)
  | .Assign [t] v p => some (t, v, p)
  | _ => none
theorem asgO_ok {st : Stmt} {t v : Expr} {p : Pos} (h : asgO st = some (t, v, p)) : st = .Assign [t] v p := by
  unfold asgO at h
  split at h
  · cases h; rfl
  · cases h
def exprO : Stmt → Option (Expr × Pos)
  | .Expr v p => some (v, p)
  | _ => none
theorem exprO_ok {st : Stmt} {v : Expr} {p : Pos} (h : exprO st = some (v, p)) : st = .Expr v p := by
  unfold exprO at h
  split at h
  · cases h; rfl
  · cases h
def forO : Stmt → Option (Expr × Expr × List Stmt × Pos)
  | .For t i b [] p => some (t, i, b, p)
  | _ => none
theorem forO_ok {st : Stmt} {t i : Expr} {b : List Stmt} {p : Pos} (h : forO st = some (t, i, b, p)) : st = .For t i b [] p := by
  unfold forO at h
  split at h
  · cases h; rfl
  · cases h
def whlO : Stmt → Option (Expr × List Stmt × Pos)
  | .While t b [] p => some (t, b, p)
  | _ => none
theorem whlO_ok {st : Stmt} {t : Expr} {b : List Stmt} {p : Pos} (h : whlO st = some (t, b, p)) : st = .While t b [] p := by
  unfold whlO at h
  split at h
  · cases h; rfl
  · cases h
def retO : Stmt → Option (Option Expr × Pos)
  | .Return v p => some (v, p)
  | _ => none
theorem retO_ok {st : Stmt} {v : Option Expr} {p : Pos} (h : retO st = some (v, p)) : st = .Return v p := by
  unfold retO at h
  split at h
  · cases h; rfl
  · cases h
def tupO : Expr → Option (List Expr × Nat × Pos)
  | .Tuple es k p => some (es, k, p)
  | _ => none
theorem tupO_ok {e : Expr} {es : List Expr} {k : Nat} {p : Pos} (h : tupO e = some (es, k, p)) : e = .Tuple es k p := by
  unfold tupO at h
  split at h
  · cases h; rfl
  · cases h
def nmO : Expr → Option (Str × Pos)
  | .Name x p => some (x, p)
  | _ => none
theorem nmO_ok {e : Expr} {x : Str} {p : Pos} (h : nmO e = some (x, p)) : e = .Name x p := by
  unfold nmO at h
  split at h
  · cases h; rfl
  · cases h
def callO : Expr → Option (Expr × List Expr × List Keyword × Pos)
  | .Call f as ks p => some (f, as, ks, p)
  | _ => none
theorem callO_ok {e f : Expr} {as : List Expr} {ks : List Keyword} {p : Pos} (h : callO e = some (f, as, ks, p)) : e = .Call f as ks p := by
  unfold callO at h
  split at h
  · cases h; rfl
  · cases h
def attO : Expr → Option (Expr × Str × Pos)
  | .Attribute o m p => some (o, m, p)
  | _ => none
theorem attO_ok {e o : Expr} {m : Str} {p : Pos} (h : attO e = some (o, m, p)) : e = .Attribute o m p := by
  unfold attO at h
  split at h
  · cases h; rfl
  · cases h
def chk1 (f : Expr → Expr → Bool) (st : Stmt) : Bool := match asgO st with
  | some (t, v, _) => f t v
  | none => false
theorem chk1_ok {f : Expr → Expr → Bool} {st : Stmt} (h : chk1 f st = true) : ∃ t v p, st = .Assign [t] v p ∧ f t v = true := by
  unfold chk1 at h
  split at h
  · rename_i e; exact ⟨_, _, _, asgO_ok e, h⟩
  · cases h
def chk2 (f : Str → Pos → Str → Pos → Expr → Expr → Bool) : Stmt → Bool := chk1 fun t v => match tupO t, tupO v with
  | some ([x, y], _, _), some ([u, v], _, _) => (match nmO x, nmO y with
    | some (x, px), some (y, py) => f x px y py u v
    | _, _ => false)
  | _, _ => false
theorem chk2_ok {f : Str → Pos → Str → Pos → Expr → Expr → Bool} {st : Stmt} (h : chk2 f st = true) : ∃ x px y py u v kt pt k2 p2 p, st = .Assign [.Tuple [.Name x px, .Name y py] kt pt] (.Tuple [u, v] k2 p2) p ∧ f x px y py u v = true := by
  obtain ⟨t, v, p, e, h2⟩ := chk1_ok h
  subst e
  clear h
  split at h2
  · rename_i e1 e2
    have e1 := tupO_ok e1
    have e2 := tupO_ok e2
    subst e1; subst e2
    split at h2
    · rename_i e3 e4
      have e3 := nmO_ok e3
      have e4 := nmO_ok e4
      subst e3; subst e4
      exact ⟨_, _, _, _, _, _, _, _, _, _, _, rfl, h2⟩
    · cases h2
  · cases h2
def chk3 (f : Str → Pos → Str → Pos → Str → Pos → Expr → Expr → Expr → Bool) : Stmt → Bool := chk1 fun t v => match tupO t, tupO v with
  | some ([x, y, z], _, _), some ([u, v, w], _, _) => (match nmO x, nmO y, nmO z with
    | some (x, px), some (y, py), some (z, pz) => f x px y py z pz u v w
    | _, _, _ => false)
  | _, _ => false
theorem chk3_ok {f : Str → Pos → Str → Pos → Str → Pos → Expr → Expr → Expr → Bool} {st : Stmt} (h : chk3 f st = true) : ∃ x px y py z pz u v w kt pt k2 p2 p, st = .Assign [.Tuple [.Name x px, .Name y py, .Name z pz] kt pt] (.Tuple [u, v, w] k2 p2) p ∧ f x px y py z pz u v w = true := by
  obtain ⟨t, v, p, e, h2⟩ := chk1_ok h
  subst e
  clear h
  split at h2
  · rename_i e1 e2
    have e1 := tupO_ok e1
    have e2 := tupO_ok e2
    subst e1; subst e2
    split at h2
    · rename_i e3 e4 e5
      have e3 := nmO_ok e3
      have e4 := nmO_ok e4
      have e5 := nmO_ok e5
      subst e3; subst e4; subst e5
      exact ⟨_, _, _, _, _, _, _, _, _, _, _, _, _, _, rfl, h2⟩
    · cases h2
  · cases h2
def chkA (f : Str → Pos → Str → Pos → Expr → Pos → Bool) (st : Stmt) : Bool := match exprO st with
  | some (e, _) => (match callO e with
    | some (a, [v], [], cpos) => (match attO a with
      | some (o, m, apos) => (match nmO o with
        | some (x, p) => f x p m apos v cpos
        | none => false)
      | none => false)
    | _ => false)
  | none => false
theorem chkA_ok {f : Str → Pos → Str → Pos → Expr → Pos → Bool} {st : Stmt} (h : chkA f st = true) : ∃ x p m apos v cpos pos, st = .Expr (.Call (.Attribute (.Name x p) m apos) [v] [] cpos) pos ∧ f x p m apos v cpos = true := by
  unfold chkA at h
  split at h
  · rename_i e1
    have e1 := exprO_ok e1
    subst e1
    split at h
    · rename_i e2
      have e2 := callO_ok e2
      subst e2
      split at h
      · rename_i e3
        have e3 := attO_ok e3
        subst e3
        split at h
        · rename_i e4
          have e4 := nmO_ok e4
          subst e4
          exact ⟨_, _, _, _, _, _, _, rfl, h⟩
        · cases h
      · cases h
    · cases h
  · cases h
def chkF (f : Expr → Expr → List Stmt → Bool) (st : Stmt) : Bool := match forO st with
  | some (t, i, b, _) => f t i b
  | none => false
theorem chkF_ok {f : Expr → Expr → List Stmt → Bool} {st : Stmt} (h : chkF f st = true) : ∃ t i b p, st = .For t i b [] p ∧ f t i b = true := by
  unfold chkF at h
  split at h
  · rename_i e; exact ⟨_, _, _, _, forO_ok e, h⟩
  · cases h
def chkW (f : Expr → List Stmt → Bool) (st : Stmt) : Bool := match whlO st with
  | some (t, b, _) => f t b
  | none => false
theorem chkW_ok {f : Expr → List Stmt → Bool} {st : Stmt} (h : chkW f st = true) : ∃ t b p, st = .While t b [] p ∧ f t b = true := by
  unfold chkW at h
  split at h
  · rename_i e; exact ⟨_, _, _, whlO_ok e, h⟩
  · cases h
def chkR (f : Option Expr → Bool) (st : Stmt) : Bool := match retO st with
  | some (v, _) => f v
  | none => false
theorem chkR_ok {f : Option Expr → Bool} {st : Stmt} (h : chkR f st = true) : ∃ v p, st = .Return v p ∧ f v = true := by
  unfold chkR at h
  split at h
  · rename_i e; exact ⟨_, _, retO_ok e, h⟩
  · cases h
def chkX (f : Expr → Bool) (st : Stmt) : Bool := match exprO st with
  | some (v, _) => f v
  | none => false
theorem chkX_ok {f : Expr → Bool} {st : Stmt} (h : chkX f st = true) : ∃ v p, st = .Expr v p ∧ f v = true := by
  unfold chkX at h
  split at h
  · rename_i e; exact ⟨_, _, exprO_ok e, h⟩
  · cases h
def ifO : Stmt → Option (Expr × List Stmt × List Stmt × Pos)
  | .If t a b p => some (t, a, b, p)
  | _ => none
theorem ifO_ok {st : Stmt} {t : Expr} {a b : List Stmt} {p : Pos} (h : ifO st = some (t, a, b, p)) : st = .If t a b p := by
  unfold ifO at h
  split at h
  · cases h; rfl
  · cases h
def chkC (f : Expr → List Stmt → List Stmt → Bool) (st : Stmt) : Bool := match ifO st with
  | some (t, a, b, _) => f t a b
  | none => false
theorem chkC_ok {f : Expr → List Stmt → List Stmt → Bool} {st : Stmt} (h : chkC f st = true) : ∃ t a b p, st = .If t a b p ∧ f t a b = true := by
  unfold chkC at h
  split at h
  · rename_i e; exact ⟨_, _, _, _, ifO_ok e, h⟩
  · cases h
def isPass : Stmt → Bool
  | .Pass _ => true
  | _ => false
def isBrk : Stmt → Bool
  | .Break _ => true
  | _ => false
def isCont : Stmt → Bool
  | .Continue _ => true
  | _ => false
mutual
def chkS (S : Sig) (N : List Str) (fr : Bool) (sc : Scope) : MS → Stmt → Bool
  | .asg g e, st => chk1 (fun tg v => twB sc tg v && (chkG S N g sc tg && chkE S N e sc v)) st
  | .own i e, st => chk1 (fun tg v => isNm tg && (chkG S N (.nm i) sc tg && (frE S e && chkE S N e sc v))) st
  | .par2 i j a b, st => chk2 (fun x px y py u v => parB sc [.Name x px, .Name y py] [u, v] && (locN N sc i x && (locN N sc j y && (decide (i ≠ j) && (chkE S N a sc u && chkE S N b sc v))))) st
  | .par3 i j k a b c, st => chk3 (fun x px y py z pz u v w => parB sc [.Name x px, .Name y py, .Name z pz] [u, v, w] && (locN N sc i x && (locN N sc j y && (locN N sc k z && (decide (i ≠ j ∧ i ≠ k ∧ j ≠ k) && (chkE S N a sc u && (chkE S N b sc v && chkE S N c sc w))))))) st
  | .app i e, st => chkA (fun x p m apos v cpos => strB m "append" && ((apos.endLine == cpos.line) && (chkE S N (.nm i) sc (.Name x p) && chkE S N e sc v))) st
  | .retn e, st => chkR (fun v => match v with
    | some v => (!fr || frE S e) && chkE S N e sc v
    | none => false) st
  | .retN, st => chkR (fun v => match v with
    | some _ => false
    | none => true) st
  | .ifs t a b, st => chkC (fun c x y => chkT S N t sc c && (chkSs S N fr sc a x && chkSs S N fr sc b y)) st
  | .forr g it b, st => chkF (fun tg iter body => chkI S N it sc tg iter && (chkG S N g sc tg && chkSs S N fr sc b body)) st
  | .whil t b, st => chkW (fun c body => chkT S N t sc c && chkSs S N fr sc b body) st
  | .pass, st => isPass st
  | .brk, st => isBrk st
  | .cont, st => isCont st
  | .freeze _ s, st => chkS S N fr sc s st
  | .never, _ => true
  | .expr e, st => chkX (fun v => !isComp v && chkE S N e sc v) st
def chkSs (S : Sig) (N : List Str) (fr : Bool) (sc : Scope) : MSs → List Stmt → Bool
  | .nil, [] => true
  | .cons s ss, x :: xs => chkS S N fr sc s x && chkSs S N fr sc ss xs
  | _, _ => false
end

/-! ### the reading -/
def NewG (K : PySem.W.Frag) (G : Gh) (H' : Hp) (F : List Addr) (x : V) (v : Val) : Prop := ∀ ds, v = .d (.list ds) → ∃ a vs, x = .ref a ∧ (∀ g ∈ G, g.2 a = none) ∧ H' a = some (.lst vs) ∧ vs.length ≤ sizeLine ∧ RepAll K H' (a :: F) vs ds
def Aft (K : PySem.W.Frag) (fa : Nat → Addr) (fr : Bool) (G : Gh) (F0 : List Addr) (c : Option Addr) (D : Ends) (r : Fl × MEnv) (t' : Tap) : Prop := match r.1 with
  | .nx => ∀ σ' H' F', Ok K fa G H' F' F0 c σ' r.2 t' → D.nx σ' H'
  | .bk => ∀ σ' H' F', Ok K fa G H' F' F0 c σ' r.2 t' → D.bk σ' H'
  | .ct => ∀ σ' H' F', Ok K fa G H' F' F0 c σ' r.2 t' → D.ct σ' H'
  | .rt v => ∀ x H' F', (∀ g ∈ G, Lat g.1 g.2 H') → CellR K H' F' c t' → (∀ a ∈ F0, a ∈ F') → RepV K fa H' F' c x v → (fr = true → NewG K G H' F' x v) → D.rt x H'
def tSt (K : PySem.W.Frag) (fa : Nat → Addr) (fr : Bool) (m : MEnv → Mini.M (Fl × MEnv)) : TS := fun D σ H => ∃ G F F0 c env t r t', Ok K fa G H F F0 c σ env t ∧ m env t = some (r, t') ∧ Aft K fa fr G F0 c D r t'
theorem PS.of {X : Cx} {st : Stmt} {t u : TS} (h : PS X st t) (i : ∀ D σ H, u D σ H → t D σ H) : PS X st u := ⟨fun pins s σ H D I q => h.run pins s σ H D I (i D σ H q)⟩
theorem PS.ofI {X : Cx} {st : Stmt} {t u : TS} (h : PS X st t) (i : ∀ D σ H, σ.length = X.N.length → u D σ H → t D σ H) : PS X st u := ⟨fun pins s σ H D I q => h.run pins s σ H D I (i D σ H I.len q)⟩
theorem PSs.of {X : Cx} {st : List Stmt} {t u : TS} (h : PSs X st t) (i : ∀ D σ H, u D σ H → t D σ H) : PSs X st u := ⟨fun pins s σ H D I q => h.run pins s σ H D I (i D σ H q)⟩
section
variable {K : PySem.W.Frag} {fa : Nat → Addr} {H H' : Hp} {F F0 : List Addr} {c : Option Addr} {σ : L2.St} {env : MEnv} {t t' : Tap} {G : Gh}
/-- a ghost more: the run stands here, and F may change since -/
theorem Ok.push (o : Ok K fa G H F F0 c σ env t) : Ok K fa ((F, H) :: G) H F F0 c σ env t := by
  refine ⟨⟨o.env.len, o.env.val, fun i xs e => ?_, o.env.dis⟩, o.cell, o.full, o.sub, fun g m => ?_, fun g m a e => ?_, fun g m a ha => ?_⟩
  · obtain ⟨a, vs, h1, h2, h3, h4, h5, h6, h7, h8⟩ := o.env.own i xs e
    refine ⟨a, vs, h1, h2, h3, h4, h5, h6, h7, fun g m => ?_⟩
    rcases List.mem_cons.mp m with e | m
    · subst e; exact .inl h5
    · exact h8 g m
  · rcases List.mem_cons.mp m with e | m
    · subst e; exact Lat.refl
    · exact o.gh g m
  · rcases List.mem_cons.mp m with e2 | m
    · subst e2; exact (o.l a e).1
    · exact o.gc g m a e
  · rcases List.mem_cons.mp m with e2 | m
    · subst e2; exact .inr (.inl ha)
    · exact o.gf g m a ha
theorem Ok.pop {g : List Addr × Hp} (o : Ok K fa (g :: G) H F F0 c σ env t) : Ok K fa G H F F0 c σ env t := by
  refine ⟨⟨o.env.len, o.env.val, fun i xs e => ?_, o.env.dis⟩, o.cell, o.full, o.sub, fun g m => o.gh g (List.mem_cons_of_mem _ m), fun g m => o.gc g (List.mem_cons_of_mem _ m), fun g m => o.gf g (List.mem_cons_of_mem _ m)⟩
  obtain ⟨a, vs, h1, h2, h3, h4, h5, h6, h7, h8⟩ := o.env.own i xs e
  exact ⟨a, vs, h1, h2, h3, h4, h5, h6, h7, fun g m => h8 g (List.mem_cons_of_mem _ m)⟩
theorem NewG.pop {g : List Addr × Hp} {x : V} {v : Val} (n : NewG K (g :: G) H' F x v) : NewG K G H' F x v := fun ds e =>
  let ⟨a, vs, h1, h2, h3⟩ := n ds e; ⟨a, vs, h1, fun g m => h2 g (List.mem_cons_of_mem _ m), h3⟩
theorem New.g (o : Ok K fa G H F F0 c σ env t) {x : V} {v : Val} (n : New K H H' F x v) : NewG K G H' F x v := fun ds e =>
  let ⟨a, vs, h1, h2, h3⟩ := n ds e; ⟨a, vs, h1, fun g m => (o.gh g m).dom a h2, h3⟩
/-- the list of one's own becomes data -/
theorem Ok.freeze (o : Ok K fa G H F F0 c σ env t) {i : Nat} {xs : List PyData} (hi : env[i]? = some (.own xs)) : ∃ F', Ok K fa G H F' F0 c σ (env.set i (.v (.d (.list xs)))) t := by
  obtain ⟨a, vs, h1, h2, h3, h4, h5, h6, h7, h8⟩ := o.env.own i xs hi
  have hlt : i < env.length := (List.getElem?_eq_some_iff.mp hi).1
  have old : ∀ {j : Nat} {s : Sl}, j ≠ i → (env.set i (.v (.d (.list xs))))[j]? = some s → env[j]? = some s := fun {j s} n h => by rw [List.getElem?_set_ne (Ne.symm n)] at h; exact h
  have new : ∀ {s : Sl}, (env.set i (.v (.d (.list xs))))[i]? = some s → s = .v (.d (.list xs)) := fun {s} h => by rw [List.getElem?_set_self hlt] at h; exact (Option.some.inj h).symm
  have wk : ∀ b ∈ F.filter (fun b => decide (b ≠ a)), b ∈ F := fun b m => (List.mem_filter.mp m).1
  have na : a ∉ F.filter (fun b => decide (b ≠ a)) := fun m => of_decide_eq_true (List.mem_filter.mp m).2 rfl
  have st : ∀ b ∈ F, b ≠ a → b ∈ F.filter (fun b => decide (b ≠ a)) := fun b m n => List.mem_filter.mpr ⟨m, decide_eq_true n⟩
  refine ⟨F.filter (fun b => decide (b ≠ a)), ⟨by rw [List.length_set]; exact o.env.len, fun j y hj => ?_, fun j us hj => ?_, fun j l us ws b n e1 e2 e3 => ?_⟩, fun b e => ?_, fun b m => o.full b (wk b m), fun b m => st b (o.sub b m) (fun e => h6 (e ▸ m)), o.gh, o.gc, fun g m b hb => o.gf g m b (wk b hb)⟩
  · by_cases e : j = i
    · subst e
      cases new hj
      exact ⟨.ref a, h1, .lst h2 na h3 (RepAll.weak wk h4)⟩
    · obtain ⟨w, k1, k2⟩ := o.env.val j y (old e hj)
      exact ⟨w, k1, RepV.weak wk k2⟩
  · by_cases e : j = i
    · subst e
      cases new hj
    · obtain ⟨b, us', k1, k2, k3, k4, k5, k6, k7, k8⟩ := o.env.own j us (old e hj)
      exact ⟨b, us', k1, k2, k3, RepAll.weak wk k4, st b k5 (fun eb => by
        subst eb
        exact o.env.dis i j xs us b (Ne.symm e) hi (old e hj) h1 k1), k6, k7, k8⟩
  · have n1 : j ≠ i := fun e => by subst e; cases new e1
    have n2 : l ≠ i := fun e => by subst e; cases new e2
    exact o.env.dis j l us ws b n (old n1 e1) (old n2 e2) e3
  · obtain ⟨m, us, k1, k2, k3⟩ := o.cell b e
    exact ⟨st b m (fun eb => h7 (by rw [← eb, e])), us, k1, k2, RepAll.weak wk k3⟩
theorem ints_rep {F' : List Addr} : ∀ {vs : List V} {t : List PyData} {l : List Int}, Mini.ints? t = some l → RepAll K H F vs t → RepAll K H F' vs t
  | _, [], _, _, r => by cases r; exact .nil
  | _, d :: t, l, h, r => by
    cases r with
    | cons r q =>
      cases d with
      | int i =>
        cases r
        unfold Mini.ints? at h
        split at h
        · rename_i l' e
          exact .cons (.int i) (ints_rep e q)
        · cases h
      | _ => cases h
theorem nums_some {t : Tap} {r : Unit × Tap} (h : Mini.nums t = some r) : ∃ l, Mini.ints? t = some l ∧ r.2 = t := by
  unfold Mini.nums at h
  split at h
  · rename_i l e; cases h; exact ⟨l, e, rfl⟩
  · cases h
/-- a new list becomes one's own -/
theorem Ok.own (o : Ok K fa G H F F0 c σ env t) (s : Step c H H') (cl : CellR K H' F c t') {l : List Int} (ht : Mini.ints? t' = some l) {a : Addr} {vs : List V} {ds : List PyData} (h0 : H a = none) (h1 : H' a = some (.lst vs)) (z : vs.length ≤ sizeLine) (r : RepAll K H' (a :: F) vs ds) {i : Nat} (hi : i < env.length) :
    Ok K fa G H' (a :: F) F0 c (σ.set i (some (.ref a))) (env.set i (.own ds)) t' := by
  have cl' : CellR K H' (a :: F) c t' := fun b e =>
    let ⟨m, us, k1, k2, k3⟩ := cl b e
    ⟨List.mem_cons_of_mem _ m, us, k1, k2, ints_rep ht k3⟩
  have o1 := o.add s cl' h0 ⟨vs, h1⟩
  have hs : i < σ.length := by rw [← o.env.len]; exact hi
  have old : ∀ {j : Nat} {s : Sl}, j ≠ i → (env.set i (.own ds))[j]? = some s → env[j]? = some s := fun {j s} n h => by rw [List.getElem?_set_ne (Ne.symm n)] at h; exact h
  have new : ∀ {s : Sl}, (env.set i (.own ds))[i]? = some s → s = .own ds := fun {s} h => by rw [List.getElem?_set_self hi] at h; exact (Option.some.inj h).symm
  have oth : ∀ {j : Nat} {us : List PyData}, env[j]? = some (.own us) → σ[j]? ≠ some (some (.ref a)) := fun {j us} hj hs => by
    obtain ⟨b, us', k1, k2, _⟩ := o.env.own j us hj
    rw [hs] at k1; cases k1
    rw [h0] at k2; cases k2
  refine o1.env' ⟨by rw [List.length_set, List.length_set, o.env.len], fun j y hj => ?_, fun j us hj => ?_, fun j l us ws b n e1 e2 e3 => ?_⟩
  · by_cases e : j = i
    · subst e; cases new hj
    · obtain ⟨w, k1, k2⟩ := o1.env.val j y (old e hj)
      exact ⟨w, by rw [List.getElem?_set_ne (Ne.symm e)]; exact k1, k2⟩
  · by_cases e : j = i
    · subst e
      cases new hj
      refine ⟨a, vs, List.getElem?_set_self hs, h1, z, r, List.mem_cons_self, fun m => ?_, fun e => ?_, fun g m => .inr ((o.gh g m).dom a h0)⟩
      · obtain ⟨us, k⟩ := o.full a (o.sub a m)
        rw [h0] at k; cases k
      · obtain ⟨_, us, k⟩ := o.l a e.symm
        rw [h0] at k; cases k
    · obtain ⟨b, us', k1, k2⟩ := o1.env.own j us (old e hj)
      exact ⟨b, us', by rw [List.getElem?_set_ne (Ne.symm e)]; exact k1, k2⟩
  · by_cases n1 : j = i
    · subst n1
      rw [List.getElem?_set_self hs] at e3
      cases e3
      rw [List.getElem?_set_ne n]
      exact oth (old (Ne.symm n) e2)
    · rw [List.getElem?_set_ne (Ne.symm n1)] at e3
      by_cases n2 : l = i
      · subst n2
        rw [List.getElem?_set_self hs]
        intro e; cases e
        exact oth (old n1 e1) e3
      · rw [List.getElem?_set_ne (Ne.symm n2)]
        exact o.env.dis j l us ws b n (old n1 e1) (old n2 e2) e3
end
end Snd

end

section
set_option Elab.async false
set_option linter.all false
set_option maxRecDepth 100000
set_option maxHeartbeats 16000000
/-! Statements: each does what the mini language says. -/
namespace Snd
open PySem PySem.Spec PyProof.Rows L2
open Mini (ME MEs MT MTs MI MG MGs MS MSs Val Sl Tap Sig Def bnd ret fail lft cond peek look Fl)
section
variable {S : Sig} {C : Mini.Call} {fa : Nat → Addr} {k : Nat} {N : List Str} {sc : Scope}
theorem blk_fn {env : Env} (hk : env.scope.kind = .function) : env.blockKind = .function := by unfold Env.blockKind; rw [hk]; rfl
theorem sw_eq {m : ME} {v tg : Expr} {l : Nat} {env : Env} (he : env.scope = sc) (hk : sc.kind = .function) (c : chkE S N m sc v = true) : swapsWith v (some tg) l env = pure (swB sc v tg) := by
  have hb := blk_fn (env := env) (by rw [he]; exact hk)
  cases v with
  | ListComp x gs scope pos =>
    cases tg with
    | Name t py =>
      have kt : env.kindOf t = sc.names.lookup t := by rw [← he]; rfl
      have kd : (sc.names.lookup t == some NameKind.local) = decide (sc.names.lookup t = some NameKind.local) := by
        generalize sc.names.lookup t = q
        cases q with
        | none => rfl
        | some q => cases q <;> rfl
      unfold swapsWith
      simp only [hb, kt, Expr.pos, kd]
      unfold swB
      dsimp only
      rw [Bool.and_assoc, Bool.and_assoc]
      rfl
    | _ => rfl
  | _ => first | rfl | (cases m <;> exact absurd c (fun z => Bool.false_ne_true z))
theorem sw_none {m : ME} {v : Expr} {l : Nat} {env : Env} (c : chkE S N m sc v = true) (h : isComp v = false) : swapsWith v none l env = pure false := by
  cases v with
  | ListComp x gs scope pos => cases h
  | _ => first | rfl | (cases m <;> exact absurd c (fun z => Bool.false_ne_true z))
theorem few {α β : Type} {f : α → Option β} : ∀ {l : List α}, (l.filterMap f).length = l.length → ∀ x ∈ l, ∃ y, f x = some y
  | [], _, x, m => by cases m
  | a :: l, h, x, m => by
    cases e : f a with
    | none =>
      rw [List.filterMap_cons_none e, List.length_cons] at h
      have := List.length_filterMap_le f l
      omega
    | some y =>
      rw [List.filterMap_cons_some e, List.length_cons, List.length_cons] at h
      rcases List.mem_cons.mp m with q | q
      · subst q; exact ⟨y, e⟩
      · exact few (by omega) x q
theorem tw_eq {g : MG} {v tg : Expr} {env : Env} (he : env.scope = sc) (c : chkG S N g sc tg = true) (h : twB sc tg v = true) : swappedStores [tg] v env = pure none := by
  cases tg with
  | Tuple ts k p =>
    cases v with
    | Tuple vs k2 p2 =>
      have h : (vs.all (foldedForSure 8) || !(ts.all (isLoc sc))) = true := h
      rcases Bool.or_eq_true_iff.mp h with h | h
      · unfold swappedStores
        simp only [h, if_true, ite_self]
        repeat' split
        all_goals rfl
      · rw [Bool.not_eq_true'] at h
        obtain ⟨t, ht, hn⟩ := List.all_eq_false.mp h
        unfold swappedStores
        dsimp only
        split
        · rfl
        · split
          · rfl
          · split
            · rfl
            · rename_i hz
              exfalso
              simp only [Bool.or_eq_true, bne_iff_ne, ne_eq, not_or, Decidable.not_not] at hz
              obtain ⟨y, hy⟩ := few hz.1 t ht
              cases t with
              | Name x q =>
                dsimp only at hy
                split at hy
                · rename_i hq
                  obtain ⟨q1, _⟩ := and2 hq
                  have kx : env.kindOf x = sc.names.lookup x := by rw [← he]; rfl
                  rw [kx] at q1
                  apply hn
                  show decide (sc.names.lookup x = some .local) = true
                  generalize sc.names.lookup x = z at q1
                  cases z with
                  | none => cases q1
                  | some z => cases z <;> first | rfl | cases q1
                · cases hy
              | _ => cases hy
    | _ => rfl
  | List ts p => cases g <;> exact absurd c (fun z => Bool.false_ne_true z)
  | _ => rfl
def isStar : Expr → Bool
  | .Starred .. => true
  | _ => false
theorem notStar {m : ME} {v : Expr} (c : chkE S N m sc v = true) : isStar v = false := by
  cases v with
  | Starred _ _ => cases m <;> exact absurd c (fun z => Bool.false_ne_true z)
  | _ => rfl
/-- a name's store, whichever way the list of a comprehension goes -/
theorem set_P {X : Cx} {m : ME} {i : Nat} {y : Str} {v : Expr} {py spos : Pos} (g : Gd S C fa k N sc sc X) (hk : sc.kind = .function) (ct : chkG S N (.nm i) sc (.Name y py) = true) (c : chkE S N m sc v = true) :
    PS X (.Assign [.Name y py] v spos) (fun D σ H => tE X.K fa (Mini.ev S C m) (frE S m) σ H fun x H1 => D.nx (σ.set i (some x)) H1) := by
  obtain ⟨c1, c2⟩ := and2 (show (decide (N[i]? = some y) && (locB sc y && nmB y)) = true from ct)
  obtain ⟨c2, c3⟩ := and2 c2
  have hi : X.N[i]? = some y := by rw [g.hN]; exact of_decide_eq_true c1
  obtain ⟨hl, hf⟩ := g.hf y (locB_ok c2)
  have hs := sw_eq (tg := .Name y py) (l := spos.line) g.scope hk c
  cases hb : swB sc v (.Name y py) with
  | false =>
    rw [hb] at hs
    exact PS.of (ps_set (by rw [g.hN]; exact g.nd) hi hl (sE m g c) hs hf) fun D σ H h => h
  | true =>
    rw [hb] at hs
    cases v with
    | ListComp x gs scope pos =>
      have hy : X.env.scope.names.lookup y = some .local := by
        unfold swB at hb
        dsimp only at hb
        rw [g.scope]
        exact of_decide_eq_true (and2 hb).1
      cases m with
      | comp elt gg it =>
        match gs, c, hs with
        | [⟨tg, iter, [], 0⟩], c, hs =>
          obtain ⟨d1, z1⟩ := and2 (show (blkC N sc scope (ownOf gg tg) && (flatG gg && (chkI S N it sc tg iter && (chkG S N gg scope tg && chkE S N elt (relS scope sc) x)))) = true from c)
          obtain ⟨d2, z2⟩ := and2 z1
          obtain ⟨d3, z3⟩ := and2 z2
          obtain ⟨d4, d5⟩ := and2 z3
          have base := ps_setLc (pos := pos) (g := tG X.K fa (Mini.asgn S C gg) (Mini.gslots gg) true) (te := tE X.K fa (Mini.ev S C elt) (frE S elt)) g.calm (by rw [g.hN]; exact g.nd) hi hy hs (sI it (strict := false) g d3) (by rw [g.hN, g.scope]; exact blkOk_by d1) (fun s H D cl fp => by have q := sG gg (g.blk scope s H D cl fp) (.inl d2) d4; rw [d2] at q; exact q) (fun _ _ _ _ _ => pts_nil)
            (fun s H D cl fp => sE elt (g.blk scope s H D cl fp) d5) (nofoldI (X := X) d3 X.env)
          rw [own_map d2 d4] at base
          refine PS.of base fun D σ H h => comp_imp (mt := fun _ => ret true) (fun σ H Q ⟨G, F, F0, cc, env, t, b, t', o, he, q⟩ => by cases he; exact q H Step.refl o.cell) ?_
          obtain ⟨G, F, F0, cc, env, t, w, t', o, he, q⟩ := h
          simp only [Mini.ev] at he
          exact ⟨G, F, F0, cc, env, t, w, t', o, he, q⟩
      | compIf elt gg it tt =>
        match gs, c, hs with
        | [⟨tg, iter, [d], 0⟩], c, hs =>
          obtain ⟨d1, z1⟩ := and2 (show (blkC N sc scope (ownOf gg tg) && (flatG gg && (chkI S N it sc tg iter && (chkG S N gg scope tg && (chkT S N tt (relS scope sc) d && chkE S N elt (relS scope sc) x))))) = true from c)
          obtain ⟨d2, z2⟩ := and2 z1
          obtain ⟨d3, z3⟩ := and2 z2
          obtain ⟨d4, z4⟩ := and2 z3
          obtain ⟨d5, d6⟩ := and2 z4
          have base := ps_setLc (pos := pos) (g := tG X.K fa (Mini.asgn S C gg) (Mini.gslots gg) true) (te := tE X.K fa (Mini.ev S C elt) (frE S elt)) g.calm (by rw [g.hN]; exact g.nd) hi hy hs (sI it (strict := false) g d3) (by rw [g.hN, g.scope]; exact blkOk_by d1) (fun s H D cl fp => by have q := sG gg (g.blk scope s H D cl fp) (.inl d2) d4; rw [d2] at q; exact q) (fun s H D cl fp => pts_one (t := tT X.K fa (Mini.tst S C tt)) (sT tt (g.blk scope s H D cl fp) d5))
            (fun s H D cl fp => sE elt (g.blk scope s H D cl fp) d6) (nofoldI (X := X) d3 X.env)
          rw [own_map d2 d4] at base
          refine PS.of base fun D σ H h => comp_imp (fun σ H Q h => h) ?_
          obtain ⟨G, F, F0, cc, env, t, w, t', o, he, q⟩ := h
          simp only [Mini.ev] at he
          exact ⟨G, F, F0, cc, env, t, w, t', o, he, q⟩
      | _ => exact absurd c (fun z => Bool.false_ne_true z)
    | _ => cases hb
theorem ne_names (nd : N.Nodup) {i j : Nat} {x y : Str} (h1 : N[i]? = some x) (h2 : N[j]? = some y) (h : i ≠ j) : x ≠ y := fun e => by
  subst e
  obtain ⟨a1, a2⟩ := List.getElem?_eq_some_iff.mp h1
  obtain ⟨b1, b2⟩ := List.getElem?_eq_some_iff.mp h2
  exact h ((List.getElem_inj nd).mp (a2.trans b2.symm))
theorem locN_ok {i : Nat} {x : Str} (h : locN N sc i x = true) : N[i]? = some x ∧ sc.names.lookup x = some .local ∧ nmB x = true := by
  obtain ⟨h1, h2⟩ := and2 h
  obtain ⟨h2, h3⟩ := and2 h2
  exact ⟨of_decide_eq_true h1, of_decide_eq_true h2, h3⟩
theorem par2_eq {x y : Str} {px py pt : Pos} {kt k2 pt2} {u v : Expr} {a b : ME} {env : Env} (he : env.scope = sc) (hk : sc.kind = .function) (hx : sc.names.lookup x = some .local) (hy : sc.names.lookup y = some .local) (hxy : x ≠ y) (ca : chkE S N a sc u = true) (cb : chkE S N b sc v = true)
    (h : parB sc [.Name x px, .Name y py] [u, v] = true) : swappedStores [.Tuple [.Name x px, .Name y py] kt pt] (.Tuple [u, v] k2 pt2) env = pure (some [x, y]) := by
  have hb := blk_fn (env := env) (by rw [he]; exact hk)
  obtain ⟨h1, h2⟩ := and2 h
  obtain ⟨h2, h3⟩ := and2 h2
  obtain ⟨h3, h4⟩ := and2 h3
  have h4 : ([x, y] : List Str).eraseDups.length = 2 := of_decide_eq_true h4
  have h2 : [u, v].all (foldedForSure 8) = false := by rw [Bool.not_eq_true'] at h2; exact h2
  have h3 : [u, v].all (constantsAlone 8) = false := by rw [Bool.not_eq_true'] at h3; exact h3
  have h1 : (py.line == px.line) = true := by simpa using h1
  have kx : env.kindOf x = some .local := by rw [← hx, ← he]; rfl
  have ky : env.kindOf y = some .local := by rw [← hy, ← he]; rfl
  have s1 := notStar ca
  have s2 := notStar cb
  have hyx : (y == x) = false := by simpa using (Ne.symm hxy)
  have hx1 : (px.line == px.line) = true := by simp
  have fs : (fun x : Expr => match x with | .Starred .. => true | _ => false) = isStar := by
    funext x; cases x <;> rfl
  have e1 : [u, v].any (fun | .Starred .. => true | _ => false) = false := by
    rw [fs, List.any_cons, List.any_cons, List.any_nil, s1, s2]; rfl
  have e2 : ([.Name x px, .Name y py] : List Expr).filterMap (fun
    | .Name id pos => if env.kindOf id == some .local && pos.line == px.line then some id else none
    | _ => none) = [x, y] := by
    rw [List.filterMap_cons_some (b := x) (by show (if _ then _ else _) = _; rw [kx, hx1]; rfl), List.filterMap_cons_some (b := y) (by show (if _ then _ else _) = _; rw [ky, h1]; rfl)]
    rfl
  unfold swappedStores
  simp only [hb, h2, h3, List.head?_cons, Option.map_some, Option.getD_some, Expr.pos]
  generalize hg : List.filterMap _ [Expr.Name x px, Expr.Name y py] = names
  have en : names = [x, y] := hg.symm.trans e2
  subst en
  refine (if_neg (fun z => Bool.false_ne_true z)).trans ((if_neg (fun z => ?_)).trans ?_)
  · have e1' := e1.symm.trans z
    cases e1'
  · rw [h4]
    rfl
theorem par3_eq {x y z : Str} {px py pz pt : Pos} {kt k2 pt2} {u v w : Expr} {a b c : ME} {env : Env} (he : env.scope = sc) (hk : sc.kind = .function) (hx : sc.names.lookup x = some .local) (hy : sc.names.lookup y = some .local) (hz : sc.names.lookup z = some .local) (ca : chkE S N a sc u = true) (cb : chkE S N b sc v = true) (cc : chkE S N c sc w = true)
    (h : parB sc [.Name x px, .Name y py, .Name z pz] [u, v, w] = true) : swappedStores [.Tuple [.Name x px, .Name y py, .Name z pz] kt pt] (.Tuple [u, v, w] k2 pt2) env = pure (some [x, y, z]) := by
  have hb := blk_fn (env := env) (by rw [he]; exact hk)
  obtain ⟨h1, h2⟩ := and2 h
  obtain ⟨h2, h3⟩ := and2 h2
  obtain ⟨h3, h4⟩ := and2 h3
  have h4 : ([x, y, z] : List Str).eraseDups.length = 3 := of_decide_eq_true h4
  have h2 : [u, v, w].all (foldedForSure 8) = false := by rw [Bool.not_eq_true'] at h2; exact h2
  have h3 : [u, v, w].all (constantsAlone 8) = false := by rw [Bool.not_eq_true'] at h3; exact h3
  have h1 : (py.line == px.line) = true ∧ (pz.line == px.line) = true := by simpa using h1
  have kx : env.kindOf x = some .local := by rw [← hx, ← he]; rfl
  have ky : env.kindOf y = some .local := by rw [← hy, ← he]; rfl
  have kz : env.kindOf z = some .local := by rw [← hz, ← he]; rfl
  have s1 := notStar ca
  have s2 := notStar cb
  have s3 := notStar cc
  have hx1 : (px.line == px.line) = true := by simp
  have fs : (fun x : Expr => match x with | .Starred .. => true | _ => false) = isStar := by
    funext x; cases x <;> rfl
  have e1 : [u, v, w].any (fun | .Starred .. => true | _ => false) = false := by
    rw [fs, List.any_cons, List.any_cons, List.any_cons, List.any_nil, s1, s2, s3]; rfl
  have e2 : ([.Name x px, .Name y py, .Name z pz] : List Expr).filterMap (fun
    | .Name id pos => if env.kindOf id == some .local && pos.line == px.line then some id else none
    | _ => none) = [x, y, z] := by
    rw [List.filterMap_cons_some (b := x) (by show (if _ then _ else _) = _; rw [kx, hx1]; rfl), List.filterMap_cons_some (b := y) (by show (if _ then _ else _) = _; rw [ky, h1.1]; rfl), List.filterMap_cons_some (b := z) (by show (if _ then _ else _) = _; rw [kz, h1.2]; rfl)]
    rfl
  unfold swappedStores
  simp only [hb, h2, h3, List.head?_cons, Option.map_some, Option.getD_some, Expr.pos]
  generalize hg : List.filterMap _ [Expr.Name x px, Expr.Name y py, Expr.Name z pz] = names
  have en : names = [x, y, z] := hg.symm.trans e2
  subst en
  refine (if_neg (fun z => Bool.false_ne_true z)).trans ((if_neg (fun z => ?_)).trans ?_)
  · have e1' := e1.symm.trans z
    cases e1'
  · rw [h4]
    rfl
end
end Snd

end

section
set_option Elab.async false
set_option linter.all false
set_option maxRecDepth 100000
set_option maxHeartbeats 16000000
/-! Statements: each does what the mini language says. -/
namespace Snd
open PySem PySem.Spec PyProof.Rows L2
open Mini (ME MEs MT MTs MI MG MGs MS MSs Val Sl Tap Sig Def bnd ret fail lft cond peek look Fl)
section
variable {S : Sig} {C : Mini.Call} {fa : Nat → Addr} {k : Nat} {N : List Str} {sc : Scope}
theorem get_lt {σ : L2.St} {env : MEnv} {i : Nat} {x : Str} {M : List Str} (h1 : σ.length = M.length) (h2 : env.length = σ.length) (hi : M[i]? = some x) : i < env.length := by
  rw [h2, h1]
  exact (List.getElem?_eq_some_iff.mp hi).1
/-- a list grows -/
theorem app_P {X : Cx} {m : ME} {i : Nat} {x mth : Str} {v : Expr} {p apos cpos pos : Pos} {fr : Bool} (g : Gd S C fa k N sc sc X) (c0 : strB mth "append" = true) (c1 : (apos.endLine == cpos.line) = true) (c2 : chkE S N (.nm i) sc (.Name x p) = true) (c3 : chkE S N m sc v = true) :
    PS X (.Expr (.Call (.Attribute (.Name x p) mth apos) [v] [] cpos) pos) (tSt X.K fa fr (Mini.exec S C (.app i m))) := by
  have em := strB_ok c0
  subst em
  have hn : ∀ es, starEach (v :: es) X.env = (false, eval v X.env) :: starEach es X.env := fun es => ns c3 es X.env
  refine PS.of (ps_expr (pe_bm PySem.F.plainAttrs_list PySem.F.slot_list_append PySem.F.type_list_append mt_append (var_P g c2) (pa_cons (sE m g c3) pa_nil (hn [])) rfl (by rw [hn]; rfl) c1 (hn []) rfl)) fun D σ H ⟨G, F, F0, cc, env, t, r, t', o, he, q⟩ => ?_
  simp only [Mini.exec] at he
  obtain ⟨u, t1, h1, he⟩ := bnd_some he
  generalize hi : env[i]? = so at he
  match u, so, he, h1 with
  | .d d, some (.own xs), he, h1 =>
    dsimp only at he
    split at he
    · rename_i hz
      cases he
      obtain ⟨a, vs0, k1, k2, _⟩ := o.env.own i xs hi
      refine ⟨.ref a, k1, .inl ⟨rfl, _, SqL.of k2⟩, G, F, F0, cc, env, t, _, _, o, h1, fun z H2 s2 l2 r2 _ => ?_⟩
      have o2 := o.step s2 l2
      obtain ⟨a', vs, k3, k4, k5, k6, k7⟩ := o2.env.own i xs hi
      rw [k1] at k3; cases k3
      have hl := k6.length
      have rz : Rep X.K H2 F z d := r2
      obtain ⟨q1, q2⟩ := o2.putOwn (ws := vs ++ [z]) (ys := xs ++ [d]) hi k1 k4 (by rw [List.length_append, List.length_singleton, hl, ← line_eq]; omega) (k6.append (.cons rz .nil))
      exact ⟨a, vs, z, rfl, rfl, k4, by rw [hl, ← line_eq]; exact hz, q _ _ _ q1⟩
    · cases he
theorem ret_ok {X : Cx} {m : ME} {v : Expr} {pos : Pos} {fr : Bool} (g : Gd S C fa k N sc sc X) (c0 : (!fr || frE S m) = true) (c : chkE S N m sc v = true) : PS X (.Return (some v) pos) (tSt X.K fa fr (Mini.exec S C (.retn m))) := by
  refine PS.of (ps_ret (sE m g c)) fun D σ H ⟨G, F, F0, cc, env, t, r, t', o, he, q⟩ => ?_
  simp only [Mini.exec] at he
  obtain ⟨u, t1, h1, he⟩ := bnd_some he
  cases he
  refine ⟨G, F, F0, cc, env, t, u, _, o, h1, fun x H2 s2 l2 r2 n2 => ?_⟩
  have o2 := o.step s2 l2
  refine q x H2 F o2.gh l2 o.sub r2 fun z => New.g o (n2 ?_)
  subst z
  simpa using c0
theorem for_W {K : PySem.W.Frag} {fr : Bool} {b : MEnv → Mini.M (Fl × MEnv)} {ma : Val → MEnv → Mini.M MEnv} {gl : List Nat} {flat : Bool} {J : It} {H1 : Hp} {σ : L2.St} {xs : List PyData} {G : Gh} {F F0 : List Addr} {c : Option Addr} {env : MEnv} {t t' : Tap} {r : Fl × MEnv} {D : Ends}
    (jk : Jk K F c true J H1 xs) (o : Ok K fa G H1 F F0 c σ env t) (he : Mini.forL (fun x env => ma (.d x) env) b xs env t = some (r, t')) (q : Aft K fa fr G F0 c D r t') :
    ∃ W : Nat → Nat → L2.St → Hp → Prop, (∃ m, W 0 m σ H1) ∧ ∀ i m σ H, W i m σ H →
      (J.stop i H ∧ D.nx σ H) ∨ (J.go i H ∧ ∃ N : L2.St → Hp → Prop, (∀ σ' H', N σ' H' → ∃ m', m' < m ∧ W (i + 1) m' σ' H') ∧ ∀ x H', J.yld i H x H' → tG K fa ma gl flat x σ H' fun σ2 H2 => tSt K fa fr b { D with nx := N, ct := N, bk := D.nx } σ2 H2) := by
  refine ⟨fun i m σ H => m = xs.length - i ∧ i ≤ xs.length ∧ ∃ F' env t, Ok K fa ((F, H1) :: G) H F' F0 c σ env t ∧ Mini.forL (fun x env => ma (.d x) env) b (xs.drop i) env t = some (r, t'), ⟨_, rfl, Nat.zero_le _, F, env, t, o.push, he⟩, ?_⟩
  rintro i m σ H ⟨rfl, hi, F', env, t, o', he⟩
  have hF : ∀ a ∈ F', a ∈ F ∨ H1 a = none := fun a m => by
    rcases o'.gf (F, H1) List.mem_cons_self a m with z | z | z
    · exact .inl (o.sub a z)
    · exact .inl z
    · exact .inr z
  obtain ⟨j1, j2⟩ := jk.run F F' H i (fun a m => .inl ⟨rfl, m⟩) hF (o'.gh (F, H1) List.mem_cons_self)
  by_cases hlt : i < xs.length
  · obtain ⟨g1, g2⟩ := j1 hlt
    refine .inr ⟨g1, fun σ H => ∃ F' env t, Ok K fa ((F, H1) :: G) H F' F0 c σ env t ∧ Mini.forL (fun x env => ma (.d x) env) b (xs.drop (i + 1)) env t = some (r, t'), fun σ' H' h => ⟨_, by omega, rfl, hlt, h⟩, fun x H3 hy => ?_⟩
    obtain ⟨d, k1, k2, k3⟩ := g2 x H3 hy
    have ed : xs.drop i = d :: xs.drop (i + 1) := by
      rw [List.getElem?_eq_getElem hlt] at k1
      cases k1
      exact List.drop_eq_getElem_cons hlt
    rw [ed] at he
    simp only [Mini.forL] at he
    obtain ⟨env1, t1, h1, he⟩ := bnd_some he
    obtain ⟨⟨f, env2⟩, t2, h2, he⟩ := bnd_some he
    refine ⟨(F, H1) :: G, F', F0, c, env, t, .d d, env1, t1, o'.step k2.wk (o'.cell.still k2), k3, h1, fun σ2 H2 o2 _ _ _ => ?_⟩
    refine ⟨(F, H1) :: G, F', F0, c, env1, t1, (f, env2), t2, o2, h2, ?_⟩
    cases f with
    | nx => exact fun σ' H' F'' o'' => ⟨F'', env2, t2, o'', he⟩
    | ct => exact fun σ' H' F'' o'' => ⟨F'', env2, t2, o'', he⟩
    | bk =>
      cases he
      exact fun σ' H' F'' o'' => q σ' H' F'' o''.pop
    | rt v =>
      cases he
      exact fun x H' F'' gh cl sub rv n => q x H' F'' (fun g m => gh g (List.mem_cons_of_mem _ m)) cl sub rv fun z => (n z).pop
  · have ei : i = xs.length := by omega
    subst ei
    rw [List.drop_length] at he
    cases he
    exact .inl ⟨j2 (Nat.le_refl _), q σ H F' o'.pop⟩
theorem while_W {K : PySem.W.Frag} {fr : Bool} {mt : MEnv → Mini.M Bool} {b : MEnv → Mini.M (Fl × MEnv)} {H : Hp} {σ : L2.St} {G : Gh} {F F0 : List Addr} {c : Option Addr} {env : MEnv} {t t' : Tap} {r : Fl × MEnv} {D : Ends}
    (o : Ok K fa G H F F0 c σ env t) (he : Mini.whileL mt b Mini.turns env t = some (r, t')) (q : Aft K fa fr G F0 c D r t') : tWhile (tT K fa mt) (tSt K fa fr b) D σ H := by
  refine ⟨fun m σ H => ∃ F env t, Ok K fa G H F F0 c σ env t ∧ Mini.whileL mt b m env t = some (r, t'), ⟨_, F, env, t, o, he⟩, ?_⟩
  rintro m σ H ⟨F, env, t, o, he⟩
  cases m with
  | zero => cases he
  | succ m =>
    simp only [Mini.whileL] at he
    obtain ⟨u, t1, h1, he⟩ := bnd_some he
    obtain ⟨k1, k2⟩ := cond_some he
    refine ⟨G, F, F0, c, env, t, u, t1, o, h1, fun H1 s1 l1 => ?_⟩
    cases u with
    | true =>
      obtain ⟨⟨f, env2⟩, t2, h2, he⟩ := bnd_some (k1 rfl)
      refine ⟨fun σ H => ∃ F env t, Ok K fa G H F F0 c σ env t ∧ Mini.whileL mt b m env t = some (r, t'), fun σ' H' h => ⟨m, Nat.lt_succ_self m, h⟩, G, F, F0, c, env, t1, (f, env2), t2, o.step s1 l1, h2, ?_⟩
      cases f with
      | nx => exact fun σ' H' F'' o'' => ⟨F'', env2, t2, o'', he⟩
      | ct => exact fun σ' H' F'' o'' => ⟨F'', env2, t2, o'', he⟩
      | bk => cases he; exact q
      | rt v => cases he; exact q
    | false =>
      have he := k2 rfl
      cases he
      exact q σ H1 F (o.step s1 l1)
mutual
theorem sS : ∀ (m : MS) {X : Cx} {st : Stmt} {fr : Bool}, Gd S C fa k N sc sc X → sc.kind = .function → PassesOwn (model X.prog X.w) X.A X.env X.xe → chkS S N fr sc m st = true → PS X st (tSt X.K fa fr (Mini.exec S C m))
  | .asg tg e, X, st, fr, g, hk, hp, c => by
    · · obtain ⟨t0, v, pos, es, c⟩ := chk1_ok (show chk1 _ st = true from c)
        subst es
        obtain ⟨d1, z1⟩ := and2 c
        obtain ⟨d2, d3⟩ := and2 z1
        have main : (∀ x p, t0 ≠ .Name x p) → PS X (.Assign [t0] v pos) (tSt X.K fa fr (Mini.exec S C (.asg tg e))) := fun hn => by
          have hs := sw_eq (tg := t0) (l := pos.line) g.scope hk d3
          have hb : swB sc v t0 = false := by
            cases t0 with
            | Name x p => exact absurd rfl (hn x p)
            | _ => cases v <;> rfl
          rw [hb] at hs
          refine PS.of (ps_asg (sE e g d3) (sG tg g (.inr rfl) d2) hs (tw_eq g.scope d2 d1) (by rw [ng d2]; rfl)) fun D σ H ⟨G, F, F0, cc, env, t, r, t', o, he, q⟩ => ?_
          simp only [Mini.exec] at he
          obtain ⟨u, t1, h1, he⟩ := bnd_some he
          obtain ⟨env1, t2, h2, he⟩ := bnd_some he
          cases he
          refine ⟨G, F, F0, cc, env, t, u, t1, o, h1, fun x H1 s1 l1 r1 _ => ?_⟩
          exact ⟨G, F, F0, cc, env, t1, u, env1, _, o.step s1 l1, r1, h2, fun σ' H' o' _ _ _ => q σ' H' F o'⟩
        cases tg with
        | nm i =>
          cases t0 with
          | Name x p =>
            have hi : X.N[i]? = some x := by rw [g.hN]; exact of_decide_eq_true (and2 (show (decide (N[i]? = some x) && (locB sc x && nmB x)) = true from d2)).1
            refine PS.ofI (set_P (py := p) (spos := pos) g hk d2 d3) fun D σ H hl ⟨G, F, F0, cc, env, t, r, t', o, he, q⟩ => ?_
            simp only [Mini.exec] at he
            obtain ⟨u, t1, h1, he⟩ := bnd_some he
            obtain ⟨env1, t2, h2, he⟩ := bnd_some he
            simp only [Mini.asgn] at h2
            cases h2
            cases he
            refine ⟨G, F, F0, cc, env, t, u, _, o, h1, fun y H1 s1 l1 r1 _ => ?_⟩
            have o1 := o.step s1 l1
            exact q _ H1 F (o1.env' (o1.env.set (get_lt hl o.env.len hi) r1))
          | _ => exact absurd d2 (fun z => Bool.false_ne_true z)
        | tup gs => exact main fun x p e => by subst e; exact absurd d2 (fun z => Bool.false_ne_true z)
        | sub i e2 => exact main fun x p e => by subst e; exact absurd d2 (fun z => Bool.false_ne_true z)
  | .own i e, X, st, fr, g, hk, hp, c => by
    · · obtain ⟨t0, v, pos, es, c⟩ := chk1_ok (show chk1 _ st = true from c)
        subst es
        obtain ⟨d1, z1⟩ := and2 c
        obtain ⟨d2, z2⟩ := and2 z1
        obtain ⟨d3, d4⟩ := and2 z2
        cases t0 with
        | Name x p =>
          have hi : X.N[i]? = some x := by rw [g.hN]; exact of_decide_eq_true (and2 (show (decide (N[i]? = some x) && (locB sc x && nmB x)) = true from d2)).1
          refine PS.ofI (set_P (py := p) (spos := pos) g hk d2 d4) fun D σ H hl ⟨G, F, F0, cc, env, t, r, t', o, he, q⟩ => ?_
          simp only [Mini.exec] at he
          obtain ⟨u, t1, h1, he1⟩ := bnd_some he
          clear he
          obtain ⟨_, t2, h2, he2⟩ := bnd_some he1
          clear he1
          obtain ⟨l, hl2, et⟩ := nums_some h2
          simp only at et
          subst et
          match u, he2, h1 with
          | .d (.list xs), he2, h1 =>
            cases he2
            refine ⟨G, F, F0, cc, env, t, _, _, o, h1, fun y H1 s1 l1 r1 n1 => ?_⟩
            obtain ⟨a, vs, ey, h0, hh, z, ra⟩ := n1 d3 xs rfl
            subst ey
            exact q _ H1 (a :: F) (o.own s1 l1 hl2 h0 hh z ra (get_lt hl o.env.len hi))
        | _ => exact absurd d2 (fun z => Bool.false_ne_true z)
  | .par2 i j a b, X, st, fr, g, hk, hp, c => by
    · · obtain ⟨x, px, y, py, u, v, kt, pt, k2, pt2, pos, es, c⟩ := chk2_ok (show chk2 _ st = true from c)
        subst es
        obtain ⟨d1, z1⟩ := and2 c
        obtain ⟨d2, z2⟩ := and2 z1
        obtain ⟨d3, z3⟩ := and2 z2
        obtain ⟨d4, z4⟩ := and2 z3
        obtain ⟨d5, d6⟩ := and2 z4
        obtain ⟨a1, a2, a3⟩ := locN_ok d2
        obtain ⟨b1, b2, b3⟩ := locN_ok d3
        have hij := of_decide_eq_true d4
        have hi : X.N[i]? = some x := by rw [g.hN]; exact a1
        have hj : X.N[j]? = some y := by rw [g.hN]; exact b1
        refine PS.ofI (ps_par g.calm (by rw [g.hN]; exact g.nd) hi hj hij (by rw [g.scope]; exact a2) (by rw [g.scope]; exact b2) (pa_cons (sE a g d5) (pa_cons (sE b g d6) pa_nil (ns d6 _ _)) (ns d5 _ _)) (par2_eq g.scope hk a2 b2 (ne_names g.nd a1 b1 hij) d5 d6 d1)) fun D σ H hl ⟨G, F, F0, cc, env, t, r, t', o, he, q⟩ => ?_
        simp only [Mini.exec] at he
        obtain ⟨x1, t1, h1, he⟩ := bnd_some he
        obtain ⟨x2, t2, h2, he⟩ := bnd_some he
        cases he
        refine ⟨G, F, F0, cc, env, t, x1, t1, o, h1, fun w1 H1 s1 l1 r1 _ => ?_⟩
        refine ⟨G, F, F0, cc, env, t1, x2, _, o.step s1 l1, h2, fun w2 H2 s2 l2 r2 _ => ?_⟩
        refine ⟨w1, w2, rfl, ?_⟩
        have o2 := (o.step s1 l1).step s2 l2
        have r1' := r1.step s2 l1.l
        have e1 := o2.env.set (get_lt hl o.env.len hi) r1'
        exact q _ H2 F (o2.env' (e1.set (get_lt (by rw [List.length_set]; exact hl) e1.len hj) r2))
  | .par3 i j l a b e, X, st, fr, g, hk, hp, c => by
    · · obtain ⟨x, px, y, py, z, pz, u, v, w, kt, pt, k2, pt2, pos, es, c⟩ := chk3_ok (show chk3 _ st = true from c)
        subst es
        obtain ⟨d1, z1⟩ := and2 c
        obtain ⟨d2, z2⟩ := and2 z1
        obtain ⟨d3, z3⟩ := and2 z2
        obtain ⟨d3z, z3⟩ := and2 z3
        obtain ⟨d4, z4⟩ := and2 z3
        obtain ⟨d5, z5⟩ := and2 z4
        obtain ⟨d6, d7⟩ := and2 z5
        obtain ⟨a1, a2, a3⟩ := locN_ok d2
        obtain ⟨b1, b2, b3⟩ := locN_ok d3
        obtain ⟨c1, c2, c3⟩ := locN_ok d3z
        obtain ⟨hij, hil, hjl⟩ := of_decide_eq_true d4
        have hi : X.N[i]? = some x := by rw [g.hN]; exact a1
        have hj : X.N[j]? = some y := by rw [g.hN]; exact b1
        have hz : X.N[l]? = some z := by rw [g.hN]; exact c1
        refine PS.ofI (ps_par3 g.calm (by rw [g.hN]; exact g.nd) hi hj hz hij hil hjl (by rw [g.scope]; exact a2) (by rw [g.scope]; exact b2) (by rw [g.scope]; exact c2) (pa_cons (sE a g d5) (pa_cons (sE b g d6) (pa_cons (sE e g d7) pa_nil (ns d7 _ _)) (ns d6 _ _)) (ns d5 _ _)) (par3_eq g.scope hk a2 b2 c2 d5 d6 d7 d1)) fun D σ H hl ⟨G, F, F0, cc, env, t, r, t', o, he, q⟩ => ?_
        simp only [Mini.exec] at he
        obtain ⟨x1, t1, h1, he⟩ := bnd_some he
        obtain ⟨x2, t2, h2, he⟩ := bnd_some he
        obtain ⟨x3, t3, h3, he⟩ := bnd_some he
        cases he
        refine ⟨G, F, F0, cc, env, t, x1, t1, o, h1, fun w1 H1 s1 l1 r1 _ => ?_⟩
        refine ⟨G, F, F0, cc, env, t1, x2, t2, o.step s1 l1, h2, fun w2 H2 s2 l2 r2 _ => ?_⟩
        refine ⟨G, F, F0, cc, env, t2, x3, _, (o.step s1 l1).step s2 l2, h3, fun w3 H3 s3 l3 r3 _ => ?_⟩
        refine ⟨w1, w2, w3, rfl, ?_⟩
        have o3 := ((o.step s1 l1).step s2 l2).step s3 l3
        have r1' := (r1.step s2 l1.l).step s3 l2.l
        have r2' := r2.step s3 l2.l
        have e1 := o3.env.set (get_lt hl o.env.len hi) r1'
        have e2 := e1.set (get_lt (by rw [List.length_set]; exact hl) e1.len hj) r2'
        exact q _ H3 F (o3.env' (e2.set (get_lt (by rw [List.length_set, List.length_set]; exact hl) e2.len hz) r3))
  | .app i e, X, st, fr, g, hk, hp, c => by
    obtain ⟨x, p, mth, apos, v, cpos, pos, es, c⟩ := chkA_ok (show chkA _ st = true from c)
    subst es
    obtain ⟨d1, z1⟩ := and2 c
    obtain ⟨d2, z2⟩ := and2 z1
    obtain ⟨d3, d4⟩ := and2 z2
    exact app_P g d1 d2 d3 d4
  | .retn e, X, st, fr, g, hk, hp, c => by
    obtain ⟨v, pos, es, c⟩ := chkR_ok (show chkR _ st = true from c)
    subst es
    cases v with
    | none => cases c
    | some v =>
      obtain ⟨d1, d2⟩ := and2 c
      exact ret_ok g d1 d2
  | .retN, X, st, fr, g, hk, hp, c => by
    obtain ⟨v, pos, es, c⟩ := chkR_ok (show chkR _ st = true from c)
    subst es
    cases v with
    | some v => cases c
    | none =>
      refine PS.of ps_retN fun D σ H ⟨G, F, F0, cc, env, t, r, t', o, he, q⟩ => ?_
      simp only [Mini.exec] at he
      cases he
      exact q .non H F o.gh o.cell o.sub .non fun _ ds e => by cases e
  | .ifs tt a b, X, st, fr, g, hk, hp, c => by
    · obtain ⟨x, y, z, pos, es, c⟩ := chkC_ok (show chkC _ st = true from c)
      subst es
      obtain ⟨d1, z1⟩ := and2 c
      obtain ⟨d2, d3⟩ := and2 z1
      refine PS.of (ps_if (sT tt g d1) (sSs a g hk hp d2) (sSs b g hk hp d3)) fun D σ H ⟨G, F, F0, cc, env, t, r, t', o, he, q⟩ => ?_
      simp only [Mini.exec] at he
      obtain ⟨u, t1, h1, he⟩ := bnd_some he
      refine ⟨G, F, F0, cc, env, t, u, t1, o, h1, fun H1 s1 l1 => ?_⟩
      obtain ⟨k1, k2⟩ := cond_some he
      cases u with
      | true => exact ⟨G, F, F0, cc, env, t1, r, t', o.step s1 l1, k1 rfl, q⟩
      | false => exact ⟨G, F, F0, cc, env, t1, r, t', o.step s1 l1, k2 rfl, q⟩
  | .forr tg it b, X, st, fr, g, hk, hp, c => by
    · obtain ⟨t0, iter, body, pos, es, c⟩ := chkF_ok (show chkF _ st = true from c)
      subst es
      obtain ⟨d1, z1⟩ := and2 c
      obtain ⟨d2, d3⟩ := and2 z1
      refine PS.of (ps_for hp g.calm (sI it (strict := true) g d1) (sG tg g (.inr rfl) d2) (sSs b g hk hp d3) (nofoldI (X := X) d1 X.env)) fun D σ H ⟨G, F, F0, cc, env, t, r, t', o, he, q⟩ => ?_
      simp only [Mini.exec] at he
      obtain ⟨xs, t1, h1, he⟩ := bnd_some he
      exact ⟨G, F, F0, cc, env, t, xs, t1, o, h1, fun J H1 s1 l1 jk => for_W jk (o.step s1 l1) he q⟩
  | .whil tt b, X, st, fr, g, hk, hp, c => by
    · obtain ⟨x, body, pos, es, c⟩ := chkW_ok (show chkW _ st = true from c)
      subst es
      obtain ⟨d1, d2⟩ := and2 c
      refine PS.of (ps_while hp (sT tt g d1) (sSs b g hk hp d2)) fun D σ H ⟨G, F, F0, cc, env, t, r, t', o, he, q⟩ => ?_
      simp only [Mini.exec] at he
      exact while_W o he q
  | .pass, X, st, fr, g, hk, hp, c => by
    cases st with
    | Pass pos =>
      refine PS.of ps_pass fun D σ H ⟨G, F, F0, cc, env, t, r, t', o, he, q⟩ => ?_
      simp only [Mini.exec] at he
      cases he
      exact q σ H F o
    | _ => exact absurd c (fun z => Bool.false_ne_true z)
  | .brk, X, st, fr, g, hk, hp, c => by
    cases st with
    | Break pos =>
      refine PS.of ps_break fun D σ H ⟨G, F, F0, cc, env, t, r, t', o, he, q⟩ => ?_
      simp only [Mini.exec] at he
      cases he
      exact q σ H F o
    | _ => exact absurd c (fun z => Bool.false_ne_true z)
  | .cont, X, st, fr, g, hk, hp, c => by
    cases st with
    | Continue pos =>
      refine PS.of ps_continue fun D σ H ⟨G, F, F0, cc, env, t, r, t', o, he, q⟩ => ?_
      simp only [Mini.exec] at he
      cases he
      exact q σ H F o
    | _ => exact absurd c (fun z => Bool.false_ne_true z)
  | .freeze i s, X, st, fr, g, hk, hp, c => by
    have c : chkS S N fr sc s st = true := c
    refine PS.of (sS s g hk hp c) fun D σ H ⟨G, F, F0, cc, env, t, r, t', o, he, q⟩ => ?_
    simp only [Mini.exec] at he
    generalize hi : env[i]? = so at he
    have old : Mini.exec S C s env t = some (r, t') → tSt X.K fa fr (Mini.exec S C s) D σ H := fun he => ⟨G, F, F0, cc, env, t, r, t', o, he, q⟩
    match so, he, hi with
    | some (.own xs), he, hi =>
      obtain ⟨F', o'⟩ := o.freeze hi
      exact ⟨G, F', F0, cc, _, t, r, t', o', he, q⟩
    | none, he, hi => exact old he
    | some .non, he, hi => exact old he
    | some (.v _), he, hi => exact old he
  | .never, X, st, fr, g, hk, hp, c => by
    refine PS.of ps_never fun D σ H ⟨G, F, F0, cc, env, t, r, t', o, he, q⟩ => ?_
    simp only [Mini.exec] at he
    cases he
  | .expr e, X, st, fr, g, hk, hp, c => by
    · obtain ⟨v, pos, es, c⟩ := chkX_ok (show chkX _ st = true from c)
      subst es
      obtain ⟨d1, d2⟩ := and2 c
      have d1 : isComp v = false := by rw [Bool.not_eq_true'] at d1; exact d1
      refine PS.of (ps_expr (sE e g d2) (sw_none d2 d1)) fun D σ H ⟨G, F, F0, cc, env, t, r, t', o, he, q⟩ => ?_
      simp only [Mini.exec] at he
      obtain ⟨u, t1, h1, he⟩ := bnd_some he
      cases he
      exact ⟨G, F, F0, cc, env, t, u, _, o, h1, fun x H1 s1 l1 r1 _ => q σ H1 F (o.step s1 l1)⟩
theorem sSs : ∀ (m : MSs) {X : Cx} {st : List Stmt} {fr : Bool}, Gd S C fa k N sc sc X → sc.kind = .function → PassesOwn (model X.prog X.w) X.A X.env X.xe → chkSs S N fr sc m st = true → PSs X st (tSt X.K fa fr (Mini.execs S C m))
  | .nil, X, st, fr, g, hk, hp, c => by
    cases st with
    | nil =>
      refine PSs.of pss_nil fun D σ H ⟨G, F, F0, cc, env, t, r, t', o, he, q⟩ => ?_
      simp only [Mini.execs] at he
      cases he
      exact q σ H F o
    | cons _ _ => exact absurd c (fun z => Bool.false_ne_true z)
  | .cons s ss, X, st, fr, g, hk, hp, c => by
    cases st with
    | nil => exact absurd c (fun z => Bool.false_ne_true z)
    | cons x xs =>
      obtain ⟨d1, d2⟩ := and2 (show (chkS S N fr sc s x && chkSs S N fr sc ss xs) = true from c)
      refine PSs.of (pss_cons (sS s g hk hp d1) (sSs ss g hk hp d2)) fun D σ H ⟨G, F, F0, cc, env, t, r, t', o, he, q⟩ => ?_
      simp only [Mini.execs] at he
      obtain ⟨⟨f, env1⟩, t1, h1, he⟩ := bnd_some he
      refine ⟨G, F, F0, cc, env, t, (f, env1), t1, o, h1, ?_⟩
      cases f with
      | nx => exact fun σ' H' F' o' => ⟨G, F', F0, cc, env1, t1, r, t', o', he, q⟩
      | bk => cases he; exact q
      | ct => cases he; exact q
      | rt v => cases he; exact q
end
end
end Snd

end

section
set_option Elab.async false
set_option linter.all false
set_option maxRecDepth 100000
set_option maxHeartbeats 8000000
/-! The defs of a text: each does what its mini text says. -/
namespace Snd
open PySem PySem.Spec PyProof.Rows L2
open Mini (ME MEs MT MTs MI MG MGs MS MSs Val Sl Tap Sig Def bnd ret fail lft cond peek look Fl)
/-! ### a def, by its body -/
theorem RepVs.getD {R : V → Val → Prop} : ∀ {vs : List V} {as : List Val} {i : Nat} {a : Val}, RepVs R vs as → as[i]? = some a → ∃ v, vs[i]? = some v ∧ R v a
  | _, _, _, _, .nil, e => by simp at e
  | _, _, 0, _, .cons r _, e => by simp at e; subst e; exact ⟨_, rfl, r⟩
  | _, _, i + 1, a, .cons _ q, e => by
    obtain ⟨v, h1, h2⟩ := RepVs.getD (i := i) (a := a) q (by simpa using e)
    exact ⟨v, by simpa using h1, h2⟩
theorem Ok.start {K : PySem.W.Frag} {fa : Nat → Addr} {H : Hp} {F : List Addr} {c : Option Addr} {vs : List V} {as : List Val} {t : Tap} {N : List Str} {d : Def} (hN : d.slots = N) (cl : CellR K H F c t) (fl : ∀ a ∈ F, ∃ vs, H a = some (.lst vs)) (r : RepVs (RepV K fa H F c) vs as) :
    Ok K fa [(c.toList, H)] H F F c (L2.start N vs) (Mini.start d as) t := by
  have hl := r.length
  have get : ∀ (i : Nat) (s : Sl), (Mini.start d as)[i]? = some s → s = .non ∨ ∃ a, as[i]? = some a ∧ s = .v a := fun i s h => by
    unfold Mini.start at h
    by_cases hi : i < (as.map Sl.v).length
    · rw [List.getElem?_append_left hi, List.getElem?_map] at h
      cases e : as[i]? with
      | none => rw [e] at h; cases h
      | some a =>
        rw [e] at h
        cases h
        exact .inr ⟨a, rfl, rfl⟩
    · rw [List.getElem?_append_right (Nat.le_of_not_lt hi)] at h
      exact .inl (List.mem_replicate.mp (List.mem_of_getElem? h)).2
  refine ⟨⟨?_, fun i x h => ?_, fun i xs h => ?_, fun i j xs ys a n h => ?_⟩, cl, fl, fun _ m => m, fun g m => ?_, fun g m a e => ?_, fun g m a ha => .inl ha⟩
  · unfold Mini.start L2.start
    simp only [List.length_append, List.length_map, List.length_replicate, hN, hl]
  · rcases get i _ h with e | ⟨a, e1, e2⟩
    · cases e
    · cases e2
      obtain ⟨v, k1, k2⟩ := RepVs.getD r e1
      refine ⟨v, ?_, k2⟩
      unfold L2.start
      have hi : i < (vs.map some).length := by
        rw [List.length_map]
        exact (List.getElem?_eq_some_iff.mp k1).1
      rw [List.getElem?_append_left hi, List.getElem?_map, k1]
      rfl
  · rcases get i _ h with e | ⟨a, e1, e2⟩ <;> cases ‹_›
  · rcases get i _ h with e | ⟨a, e1, e2⟩ <;> cases ‹_›
  · cases List.mem_singleton.mp m; exact Lat.refl
  · cases List.mem_singleton.mp m
    subst e
    exact List.mem_singleton.mpr rfl
/-- a def's promise is what its text does -/
theorem run_body {K : PySem.W.Frag} {fa : Nat → Addr} {S : Sig} {C : Mini.Call} {d : Def} {N : List Str} {vs : List V} {H : Hp} {Q : VK} (hN : d.slots = N) (h : spD K fa d.fresh (Mini.run S C d) vs H Q) :
    vs.length = d.params.length ∧ tSt K fa d.fresh (Mini.execs S C d.body) { nx := fun _ H' => Q .non H', rt := Q } (L2.start N vs) H := by
  obtain ⟨F, c, t, as, r, t', cl, fl, rv, he, q⟩ := h
  unfold Mini.run at he
  by_cases hl : as.length = d.params.length
  · rw [if_pos hl] at he
    refine ⟨rv.length.trans hl, ?_⟩
    have o := Ok.start (d := d) hN cl fl rv
    have wk : ∀ {H' : Hp}, Lat c.toList H H' → Step c H H' := fun l => ⟨fun a ob na h => l.keep a ob (fun m => na (by
      cases c with
      | none => cases m
      | some b => rw [List.mem_singleton.mp m])) h, l.dom⟩
    have wc : ∀ {H' : Hp} {F' : List Addr}, (∀ a ∈ F, a ∈ F') → CellR K H' F' c t' → CellR K H' F c t' := fun hs l a e =>
      let ⟨_, us, k1, k2, k3⟩ := l a e
      ⟨(cl a e).1, us, k1, k2, RepAll.weak hs k3⟩
    split at he
    · rename_i v env1 t1 hx
      cases he
      refine ⟨_, F, F, c, _, t, _, _, o, hx, fun x H' F' gh l sub rx n => q x H' (wk (gh _ List.mem_cons_self)) (wc sub l) (RepV.weak sub rx) fun fr ds e => ?_⟩
      obtain ⟨a, us, k1, k2, k3, k4, k5⟩ := n fr ds e
      refine ⟨a, us, k1, k2 _ List.mem_cons_self, k3, k4, RepAll.weak (fun b m => ?_) k5⟩
      rcases List.mem_cons.mp m with e | m
      · rw [e]; exact List.mem_cons_self
      · exact List.mem_cons_of_mem _ (sub b m)
    · rename_i env1 t1 hx
      cases he
      exact ⟨_, F, F, c, _, t, _, _, o, hx, fun σ' H' F' o' => q .non H' (wk (o'.gh _ List.mem_cons_self)) (wc o'.sub o'.cell) .non fun _ ds e => by cases e⟩
    · cases he
  · rw [if_neg hl] at he; cases he
/-- how a text's defs take their arguments -/
def Bnd (d : Def) (st : Stmt) : Prop := ∀ n ks, (n, ks) ∈ d.forms → ∀ (kV doc pm cdv ct : Value) (an : Option Addr) (us ws zs : List Value), us.length = n → ws.length = ks.length → Mini.bindKw d.params ks us ws = some zs →
  bindArgs (PySem.W.fnOf d.name d.name (defArgs st) (defBody st) (defScope st) .none kV doc pm an cdv ct) ⟨us, ks.zip ws⟩ = pure (d.params.zip zs)
def chkD (S : Sig) (d : Def) (st : Stmt) : Bool := chkSs S d.slots d.fresh (defScope st) d.body (defBody st) && C8.scC d.slots d.params (defScope st)
/-- what the module says of a text -/
structure MF (S : Sig) (tops : List Stmt) (K : PySem.W.Frag) (mg : Str → Option Value) (fa : Nat → Addr) : Prop where
  blt : ∀ x : Str, x ∈ ([("len" : Str), "abs", "int", "tuple", "list", "max", "min", "sum", "all", "repr", "divmod", "isinstance", "range", "zip", "enumerate", "bool", "str"] : List Str) → mg x = none
  imp : ∀ (x : Str) (id : String), S.imps.lookup x = some id → mg x = some (.builtin id)
  con : ∀ (i : Nat) (p : Str × PyData), S.consts[i]? = some p → ∃ u v, mg p.1 = some u ∧ RelV v u ∧ ∀ H F, Rep K H F v p.2
  defs : ∀ (i : Nat) (d : Def), S.defs[i]? = some d → ∃ st fd, tops[i]? = some st ∧ FunD K d.name d.name (defArgs st) (defBody st) (defScope st) [] [] (fa i) fd ∧ mg d.name = some (.ref (fa i))
theorem fnG_all {S : Sig} {tops : List Stmt} {P : Program} {w : World} {K : PySem.W.Frag} {mg : Str → Option Value} {base : Heap} {fa : Nat → Addr} (M : MF S tops K mg fa) (hc : ∀ (i : Nat) (d : Def) (st : Stmt), S.defs[i]? = some d → tops[i]? = some st → chkD S d st = true ∧ Bnd d st) :
    ∀ (n i : Nat) (d : Def), S.defs[i]? = some d → FnG P w K mg base fa n (fa i) d (Mini.call S n i) := by
  intro n
  induction n with
  | zero =>
    intro i d hd
    obtain ⟨st, fd, h1, F, h2⟩ := M.defs i d hd
    obtain ⟨c1, c2⟩ := hc i d st hd h1
    refine ⟨F.kp, fd, fun n ks hm s us ws zs hu hw hz => ?_, fun A outer s H args us vs Q hg hr e0 hb r ⟨F, c, t, as, x, t', _, _, _, he, _⟩ => ?_⟩
    · obtain ⟨oc, od, dV, kV, doc, pm, an, cdv, ct, osl, rfl, lk, hcd, hdv, hkw⟩ := F.ex
      have edv : dV = .none := by
        rcases hdv with ⟨_, e⟩ | ⟨e, _⟩
        · exact e
        · exact absurd rfl e
      subst edv
      exact .of_eq (c2 n ks hm kV doc pm cdv ct an us ws zs hu hw hz)
    · cases he
  | succ n ih =>
    intro i d hd
    obtain ⟨st, fd, h1, F, h2⟩ := M.defs i d hd
    obtain ⟨c1, c2⟩ := hc i d st hd h1
    obtain ⟨c1, c3⟩ := and2 c1
    have S2 := C8.fnScope_by c3
    obtain ⟨oc, od, dV, kV, doc, pm, an, cdv, ct, osl, rfl, lk, hcd, hdv, hkw⟩ := F.ex
    have edv : dV = .none := by
      rcases hdv with ⟨_, e⟩ | ⟨e, _⟩
      · exact e
      · exact absurd rfl e
    subst edv
    refine ⟨F.kp, _, fun m ks hm s us ws zs hu hw hz => .of_eq (c2 m ks hm kV doc pm cdv ct an us ws zs hu hw hz), fun A outer s H args us vs Q hg hr e0 hb r hsp => ?_⟩
    have hsp : spD K fa d.fresh (Mini.run S (Mini.call S n) d) vs H Q := by
      obtain ⟨F, c, t, as, x, t', k1, k2, k3, he, k4⟩ := hsp
      simp only [Mini.call, hd] at he
      exact ⟨F, c, t, as, x, t', k1, k2, k3, he, k4⟩
    obtain ⟨hl, hq⟩ := run_body (N := d.slots) rfl hsp
    have g : Gd S (Mini.call S n) fa n d.slots (defScope st) (defScope st) (cxOf noX P w K mg base d.slots d.name (defScope st) (fa i) cdv A outer s H (fun _ _ _ => False)).nox :=
      ⟨rfl, rfl, rfl, S2.nd, fun x hx => ⟨hx, .inl rfl⟩, hg, hr.deeper _, M.blt, M.imp, M.con, fun j e hj => by
        obtain ⟨_, _, _, _, k⟩ := M.defs j e hj
        exact ⟨k, ih j e hj⟩⟩
    have ht := (sSs d.body g S2.kind PassesOwn.never c1).nox
    have inH : K.In s.heap := e0.mod.kin.keeps fun b o e => (e0.bs b o e).1
    have lim : s.heap.NoLimit := e0.mod.nolimit.keeps fun b o e => (e0.bs b o e).1
    have kinds : ∀ y ∈ d.params.zip us, (defScope st).names.lookup y.1 = some .local ∨ ((defScope st).names.lookup y.1 = some .cell ∧ ((cellsFrom (s.heap.objs.size + 1) (defScope st).names []).lookup y.1).isSome = true) := by
      rintro ⟨x, v⟩ hy
      exact (S2.par x (List.of_mem_zip hy).1).imp id fun q => ⟨q, PySem.W.cellsFrom_some _ _ _ (.inl q)⟩
    refine codeAny_call_function hr.depth (inH _ _ lk) rfl S2.co S2.gen rfl (PySem.W.codeRec_of inH hcd) (hb _ _ _ _ (wpAny_newFunctionEnv_cells S2.kind kinds fun env he s1 x => ?_))
    subst he
    refine ⟨lim.keeps x.toInCall.keep, codeAny_func (wpAny_mono (ht.run [] s1 _ H _ (inv_start S2 hr.hd e0 hl r x) hq) (fun fl s' hs => ?_) fun e s' hs => hs)⟩
    cases fl with
    | ret u =>
      obtain ⟨v, σ', H', J, rv, q⟩ := hs
      exact ⟨v, H', J.os, J.bare, J.base, J.hok, rv, q⟩
    | next =>
      obtain ⟨σ', H', J, q⟩ := hs
      exact ⟨.non, H', J.os, J.bare, J.base, J.hok, rfl, q⟩
    | brk =>
      obtain ⟨_, _, _, q⟩ := hs
      exact q.elim
    | cont =>
      obtain ⟨_, _, _, q⟩ := hs
      exact q.elim
end Snd

end

section
set_option Elab.async false
set_option linter.all false
set_option maxRecDepth 100000
set_option maxHeartbeats 8000000
/-! What stands behind the top; a law's end. -/
namespace Snd
open PySem PySem.Spec PyProof.Rows L2
open Mini (ME MEs MT MTs MI MG MGs MS MSs Val Sl Tap Sig Def)
/-! ### constants -/
mutual
def datB (K : PySem.W.Frag) : PyData → Value → Bool
  | .none, u => (match u with | .none => true | _ => false)
  | .bool c, u => (match u with | .bool b => b == c | _ => false)
  | .int j, u => (match u with | .int i _ => decide (i = j) | _ => false)
  | .str y, u => (match u with | .str x _ => decide (x = y) | _ => false)
  | .tuple ds, u => (match u with
    | .ref a => (match K.lookup a with
      | some ⟨.type c, _, .seq its _, _⟩ => decide (c = "tuple") && (decide (its.size ≤ sizeLine) && datAll K ds its.toList)
      | _ => false)
    | _ => false)
  | _, _ => false
def datAll (K : PySem.W.Frag) : List PyData → List Value → Bool
  | [], us => us.isEmpty
  | d :: ds, us => (match us with
    | u :: us => datB K d u && datAll K ds us
    | [] => false)
end
def datV : Value → V
  | .bool b => .bl b
  | .int i _ => .int i
  | .str x _ => .str x
  | .ref a => .ref a
  | _ => .non
mutual
theorem datB_ok {K : PySem.W.Frag} : ∀ {d : PyData} {u : Value}, datB K d u = true → RelV (datV u) u ∧ ∀ H F, Rep K H F (datV u) d
  | d, u, h => by
    cases d with
    | none => cases u with
      | none => exact ⟨rfl, fun _ _ => .non⟩
      | _ => cases h
    | bool c => cases u with
      | bool b =>
        have e : b = c := eq_of_beq h
        subst e
        exact ⟨rfl, fun _ _ => .bl b⟩
      | _ => cases h
    | int c => cases u with
      | int b t =>
        have e : b = c := of_decide_eq_true h
        subst e
        exact ⟨⟨t, rfl⟩, fun _ _ => .int b⟩
      | _ => cases h
    | str c => cases u with
      | str b t =>
        have e : b = c := of_decide_eq_true h
        subst e
        exact ⟨⟨t, rfl⟩, fun _ _ => .str b⟩
      | _ => cases h
    | tuple ds => cases u with
      | ref a =>
        unfold datB at h
        dsimp only at h
        split at h
        · rename_i c od its n osl hk
          obtain ⟨h1, h2⟩ := and2 h
          obtain ⟨h2, h3⟩ := and2 h2
          obtain ⟨k1, k2⟩ := datAll_ok (ds := ds) h3
          have h2 := of_decide_eq_true h2
          have hl := k1.length
          refine ⟨rfl, fun H F => .tup (.inr ⟨_, its, n, hk, congrArg Value.type (of_decide_eq_true h1), rfl, h2, k1⟩) ?_ (k2 H F)⟩
          rw [hl, Array.length_toList]; exact h2
        · cases h
      | _ => cases h
    | _ => cases h
theorem datAll_ok {K : PySem.W.Frag} : ∀ {ds : List PyData} {us : List Value}, datAll K ds us = true → Vals (us.map datV) us ∧ ∀ H F, RepAll K H F (us.map datV) ds
  | [], us, h => by
    cases us with
    | nil => exact ⟨.nil, fun _ _ => .nil⟩
    | cons _ _ => cases h
  | d :: ds, us, h => by
    cases us with
    | nil => cases h
    | cons u us =>
      obtain ⟨h1, h2⟩ := and2 (show (datB K d u && datAll K ds us) = true from h)
      obtain ⟨a1, a2⟩ := datB_ok (d := d) h1
      obtain ⟨b1, b2⟩ := datAll_ok (ds := ds) h2
      exact ⟨.cons a1 b1, fun H F => .cons (a2 H F) (b2 H F)⟩
end
/-! ### the look at the module -/
def conB (K : PySem.W.Frag) (p : Str × PyData) : Bool := match PySem.W.nsIn K mainGlobals p.1 with
  | some (some u) => datB K p.2 u
  | _ => false
def impK (K : PySem.W.Frag) (p : Str × String) : Bool := He.eqO (PySem.W.nsIn K mainGlobals p.1) (some (some (.builtin p.2)))
def gloB (K : PySem.W.Frag) (x : Str) : Bool := He.eqO (PySem.W.nsIn K mainGlobals x) (some (some (.ref (He.ga K x))))
def freeB (K : PySem.W.Frag) (x : Str) : Bool := He.eqO (PySem.W.nsIn K mainGlobals x) (some none)
def blts : List Str := [("len" : Str), "abs", "int", "tuple", "list", "max", "min", "sum", "all", "repr", "divmod", "isinstance", "range", "zip", "enumerate", "bool", "str"]
def modB (S : Sig) (K : PySem.W.Frag) : Bool := S.consts.all (conB K) && (S.imps.all (impK K) && (S.defs.all (fun d => gloB K d.name) && blts.all (freeB K)))
def defD (d : Def) (st : Stmt) : He.DefD := ⟨(d.name, none), d.name, d.name, defArgs st, defBody st, defScope st, [], []⟩
def defDs (S : Sig) (tops : List Stmt) : List He.DefD := List.zipWith defD S.defs tops
def obsM (S : Sig) (tops : List Stmt) (K : PySem.W.Frag) : He.AlD := (modB S K && (He.obsD [] (defDs S tops) K).1, (He.obsD [] (defDs S tops) K).2)
def valM (S : Sig) (tops : List Stmt) : He.AlD := He.valD (defDs S tops)
def obsMG (n : Nat) (S : Sig) (tops : List Stmt) (g : Addr → Option Obj) : He.AlD := obsM S tops (He.frG g (He.asD g n))
def hookM (n : Nat) (S : Sig) (tops : List Stmt) : PySem.W.Hook where
  α := He.AlD
  obs := fun s => obsMG n S tops s.heap.get?
  val := fun _ => valM S tops
  says := fun _ h => ∃ K : PySem.W.Frag, K.In h ∧ obsM S tops K = valM S tops
  of := fun _ _ e => ⟨_, He.frG_in, e⟩
  keeps := fun _ _ _ ⟨K, hK, c⟩ k => ⟨K, PySem.W.Frag.In.keeps hK k, c⟩
theorem obsMG_eq {n : Nat} {S : Sig} {tops : List Stmt} {g : Addr → Option Obj} {s : Shared} (h : ∀ a, g a = s.heap.get? a) : obsMG n S tops g = (hookM n S tops).obs s := by
  have e : g = s.heap.get? := funext h
  rw [e]; rfl
def faOf (S : Sig) (K : PySem.W.Frag) (i : Nat) : Addr := match S.defs[i]? with
  | some d => He.ga K d.name
  | none => 0
theorem mf_of {S : Sig} {tops : List Stmt} {K : PySem.W.Frag} {h : Heap} {mg : Str → Option Value} (hl : tops.length = S.defs.length) (X : K.In h) (G : h.Ns mainGlobals mg) (c : obsM S tops K = valM S tops) : MF S tops K mg (faOf S K) := by
  have c1 : (modB S K && (He.obsD [] (defDs S tops) K).1) = true := congrArg (fun z : He.AlD => z.1) c
  obtain ⟨c1, c2⟩ := and2 c1
  have c4 : (obsM S tops K).2 = (valM S tops).2 := by rw [c]
  have c4 : (He.obsD [] (defDs S tops) K).2 = (He.valD (defDs S tops)).2 := c4
  have c3 : He.SaysD [] (defDs S tops) K := Prod.ext c2 c4
  obtain ⟨d1, z1⟩ := and2 c1
  obtain ⟨d2, z2⟩ := and2 z1
  obtain ⟨d3, d4⟩ := and2 z2
  refine ⟨fun x hx => PySem.W.mg_none_of X G (He.eqO_ok (List.all_eq_true.mp d4 x hx)), fun x id hx => ?_, fun i p hp => ?_, fun i d hd => ?_⟩
  · exact PySem.W.mg_of X G (He.eqO_ok (List.all_eq_true.mp d2 (x, id) (PySem.mem_of_lookup hx)))
  · have k := List.all_eq_true.mp d1 p (List.mem_of_getElem? hp)
    unfold conB at k
    split at k
    · rename_i u e
      obtain ⟨k1, k2⟩ := datB_ok k
      exact ⟨u, _, PySem.W.mg_of X G e, k1, k2⟩
    · cases k
  · have hi : i < S.defs.length := (List.getElem?_eq_some_iff.mp hd).1
    have hs : tops[i]? = some (tops[i]'(by omega)) := List.getElem?_eq_getElem _
    have hz : (defDs S tops)[i]? = some (defD d (tops[i]'(by omega))) := by
      unfold defDs
      rw [List.getElem?_zipWith, hd, hs]
    obtain ⟨fd, F⟩ := c3.def_ i hz
    have ef : faOf S K i = He.ga K d.name := by
      unfold faOf; rw [hd]
    refine ⟨_, fd, hs, ?_, ?_⟩
    · rw [ef]; exact F
    · rw [ef]; exact PySem.W.mg_of X G (He.eqO_ok (List.all_eq_true.mp d3 d (List.mem_of_getElem? hd)))
/-! ### the law's call -/
theorem law_G {P : Program} {w : World} {K : PySem.W.Frag} {mg mb : Str → Option Value} {fa : Nat → Addr} {k : Nat} {f a : Addr} {d : Def} {x : Str} {m : List Val → Mini.M Val} {s : Shared} {vs : List Value} {ns : List Int} {t' : Tap}
    (inK : K.In s.heap) (hm : s.heap.Ns mainGlobals mg) (hb : s.heap.Ns builtinsNs mb) (hbb : ∀ x : Str, x ≠ "__name__" → mb x = bootBuiltins x) (lim : s.heap.NoLimit) (hg : s.gens = #[])
    (ha : s.heap.get? a = some { cls := .type "list", data := .seq vs.toArray }) (hi : IntsAre vs ns) (hl : ns.length ≤ sizeLine) (hr : Room k callerA)
    (F : ∀ base : Heap, K.In base → base.Ns mainGlobals mg → FnG P w K mg base fa k f d m) (hp : d.params = [x]) (hf : (1, []) ∈ d.forms) (hm1 : m [.scr (ns.map PyData.int)] [] = some (.d (.bool true), t')) :
    codeAny (model P w) callerA (.call (.ref f) ⟨[.ref a], []⟩) (fun r s' => r = .ok (.ret (.bool true)) ∧ OldK s.heap s'.heap ∧ s'.os = s.os ∧ AllBare s'.gens) s := by
  have rv := vals_ints hi
  have lenV := hi.length
  have repI : ∀ {H : Hp} (l : List Int), RepAll K H [] (l.map V.int) (l.map PyData.int) := fun {H} l => by
    induction l with
    | nil => exact .nil
    | cons i l ih => exact .cons (.int i) ih
  have go : ∀ H : Hp, (∀ b u, H b = some u → b = a ∧ ∃ o ws, u = .frz o (.lst ws)) → SqZ K H a (ns.map V.int) → HOk P w H s.heap → (H a ≠ none → K.lookup a = none) →
      codeAny (model P w) callerA (.call (.ref f) ⟨[.ref a], []⟩) (fun r s' => r = .ok (.ret (.bool true)) ∧ OldK s.heap s'.heap ∧ s'.os = s.os ∧ AllBare s'.gens) s := by
    intro H hH hS hok hK
    have low : ∀ {b : Addr} {o : Obj}, s.heap.get? b = some o → H b = none → (hidT s.heap H).get? b = some o := fun e n => hidT_get e n
    have dic : ∀ {b : Addr} {o : Obj} {es : Array DictEntry} {ep : Nat}, s.heap.get? b = some o → o.data = .dict es ep → H b = none := fun {b o es ep} e q => by
      cases z : H b with
      | none => rfl
      | some u =>
        obtain ⟨eb, _⟩ := hH b u z
        rw [eb, ha] at e
        cases e
        cases q
    have nsl : ∀ {b : Addr} {g : Str → Option Value}, s.heap.Ns b g → (hidT s.heap H).Ns b g := fun ⟨o, es, ep, e, q, r⟩ => ⟨o, es, ep, low e (dic e q), q, r⟩
    have inB : K.In (hidT s.heap H) := fun b o e => low (inK b o e) (by
      cases z : H b with
      | none => rfl
      | some u =>
        obtain ⟨eb, _⟩ := hH b u z
        subst eb
        rw [hK (by rw [z]; intro q; cases q)] at e
        cases e)
    have limB : (hidT s.heap H).NoLimit := by
      obtain ⟨mc, h1, h2⟩ := lim
      exact ⟨mc, nsl h1, h2⟩
    have en : Env0 P w K mg (hidT s.heap H) callerA [] s H := ⟨rfl, ⟨inB, nsl hm, ⟨mb, nsl hb, hbb⟩, limB⟩, fun b o e => of_hidT e, Nat.le_of_eq (hidT_size _ _), trivial, fun b z => (List.not_mem_nil z).elim, hok, .of_eq hg⟩
    have G := F _ inB (nsl hm)
    obtain ⟨fd, bf, run⟩ := G.run
    have bt := bf 1 [] hf s [.ref a] [] [.ref a] rfl rfl (by rw [hp]; rfl)
    refine codeAny_mono (run callerA [] s H ⟨[.ref a], []⟩ [.ref a] [.ref a] (fun v _ => v = .bl true) rfl hr en bt (.cons rfl .nil) ?_) fun r s' h => ?_
    · refine ⟨[], none, [], [.scr (ns.map PyData.int)], _, t', (fun _ e => by cases e), (fun _ z => (List.not_mem_nil z).elim), .cons ⟨a, _, rfl, hS, by rw [List.length_map]; exact hl, repI ns⟩ .nil, hm1, fun y H' _ _ ry _ => ?_⟩
      cases (show Rep K H' [] y (.bool true) from ry)
      rfl
    · cases r with
      | error e => exact h.elim
      | ok fl =>
        cases fl with
        | ret u =>
          obtain ⟨v, H', hos, bare, un, hok', ru, q⟩ := h
          subst q
          obtain rfl : u = Value.bool true := ru
          refine ⟨rfl, OldK.of_keep fun b o e => ?_, hos, bare⟩
          cases z : H b with
          | none => exact un.keep b o e z (fun m => (List.not_mem_nil m).elim) (fun m => (List.not_mem_nil m).elim)
          | some u =>
            obtain ⟨_, ob, ws, eu⟩ := hH b u z
            subst eu
            obtain ⟨e1, _⟩ := hok b _ z
            obtain ⟨e2, _⟩ := hok' b _ (un.frzs b ob _ z)
            rw [e] at e1; cases e1
            exact e2
        | next => exact h.elim
        | brk => exact h.elim
        | cont => exact h.elim
  cases hk : K.lookup a with
  | some o =>
    have e := inK a o hk
    rw [ha] at e
    cases e
    refine go (fun _ => none) (fun b u z => by cases z) (.inr ⟨_, vs.toArray, _, hk, rfl, rfl, rfl, by rw [List.size_toArray, lenV]; exact hl, by simpa using rv⟩) (fun b u z => by cases z) fun z => absurd rfl z
  | none =>
    refine go (fun b => if b = a then some (.frz { cls := .type "list", data := .seq vs.toArray } (.lst (ns.map V.int))) else none) (fun b u z => ?_) (.inl ⟨_, if_pos rfl⟩) (fun b u z => ?_) fun _ => hk
    · try dsimp only at z
      by_cases hb : b = a
      · rw [if_pos hb] at z; cases z; exact ⟨hb, _, _, rfl⟩
      · rw [if_neg hb] at z; cases z
    · try dsimp only at z
      by_cases hb : b = a
      · rw [if_pos hb] at z; cases z
        subst hb
        exact ⟨ha, by rw [List.length_map]; exact hl, vs, _, rv, ha⟩
      · rw [if_neg hb] at z; cases z
theorem walk_G {l : PySem.W.OpenLaw} {n k lv iL : Nat} {q : Program} {loose : List Str} {XP : (Str → Option Value) → Heap → Prop} {d : DefRec} {S : Sig} {tops : List Stmt} {dL : Def} {x : Str}
    (hn : l.most = some n) (hn2 : n ≤ sizeLine) (hdf : d.params.defaults = []) (hr : Room lv callerA) (hL : S.defs[iL]? = some dL) (hp : dL.params = [x]) (hf : (1, []) ∈ dL.forms) (hnm : d.name = dL.name) (hlen : tops.length = S.defs.length)
    (hc : ∀ (i : Nat) (d : Def) (st : Stmt), S.defs[i]? = some d → tops[i]? = some st → chkD S d st = true ∧ Bnd d st)
    (hlaw : ∀ ns : List Int, ns.length ≤ n → ∃ t', Mini.call S lv iL [.scr (ns.map PyData.int)] [] = some (.d (.bool true), t')) :
    PySem.W.WalkO q loose XP (hookM k S tops).says l.row.toRowW d [] (fun f vs => PySem.call f vs) := by
  refine Att.attach_call hn hdf fun w s₀ s₁ mg mb f o pm cd doc a vs ns G Y ho hd hcd hmg hobj hints hlen2 hg => ?_
  obtain ⟨K, KX, c⟩ := Y
  have M := mf_of hlen KX G.T.g c
  obtain ⟨st, fd, _, _, h2⟩ := M.defs iL dL hL
  have e : faOf S K iL = f := by
    rw [hnm] at hmg
    have z := h2.symm.trans hmg
    cases z
    rfl
  obtain ⟨t', ht⟩ := hlaw ns hlen2
  refine law_G (fa := faOf S K) (d := dL) KX G.T.g G.T.b G.T.builtins G.T.nolimit hg hobj hints (Nat.le_trans hlen2 hn2) hr (fun base k1 k2 => ?_) hp hf ht
  rw [← e]
  exact fnG_all M hc lv iL dL hL
end Snd

end

section
/-! printed by gen.py -/
namespace K29
open Mini PySem
set_option maxRecDepth 100000
def d0 : Def := ⟨"is_whole", ["value"], ["value"], (.cons (.retn (.boolv true (.cons (.isin (.nm 0) .int) (.cons (.notv (.isin (.nm 0) .bool)) .nil)))) .nil), false, [(1, [])]⟩
def d1 : Def := ⟨"are_wholes", ["value", "many"], ["value", "many", "each"], (.cons (.retn (.boolv true (.cons (.isin (.nm 0) .tuple) (.cons (.cmp .eq (.bi .len (.cons (.nm 0) .nil)) (.nm 1)) (.cons (.cmp .eq (.compIf (.nm 2) (.nm 2) (.seq (.nm 0)) (.not (.val (.call 0 (.cons (.nm 2) .nil) [] .nil)))) (.lst .nil)) .nil))))) .nil), false, [(2, [])]⟩
def d2 : Def := ⟨"common_part", ["numbers"], ["numbers", "found", "number"], (.cons (.asg (.nm 1) (.int 0)) (.cons (.forr (.nm 2) (.seq (.nm 0)) (.cons (.asg (.nm 1) (.bi .gcd (.cons (.nm 1) (.cons (.nm 2) .nil)))) .nil)) (.cons (.retn (.nm 1)) .nil))), false, [(1, [])]⟩
def d3 : Def := ⟨"lowest", ["numbers"], ["numbers", "part", "number"], (.cons (.asg (.nm 1) (.call 2 (.cons (.nm 0) .nil) [] .nil)) (.cons (.retn (.bi .tuple (.cons (.comp (.bin .fdiv (.nm 2) (.nm 1)) (.nm 2) (.seq (.nm 0))) .nil))) .nil)), false, [(1, [])]⟩
def d4 : Def := ⟨"lowest_over", ["numbers", "below"], ["numbers", "below", "factor", "number"], (.cons (.asg (.nm 2) (.ife (.cmp .gt (.nm 1) (.int 0)) (.int 1) (.neg (.int 1)))) (.cons (.retn (.call 3 (.cons (.bin .add (.comp (.bin .mul (.nm 2) (.nm 3)) (.nm 3) (.seq (.nm 0))) (.lst (.cons (.bin .mul (.nm 2) (.nm 1)) .nil))) .nil) [] .nil)) .nil)), false, [(2, [])]⟩
def d5 : Def := ⟨"upright_to", ["row"], ["row"], (.cons (.retn (.ife (.all false (.cons (.cmp .ne (.idx (.nm 0) (.int 0)) (.int 0)) (.cons (.cmp .ne (.idx (.nm 0) (.int 1)) (.int 0)) .nil))) (.tup (.cons (.idx (.nm 0) (.int 1)) (.cons (.neg (.idx (.nm 0) (.int 0))) (.cons (.int 0) .nil)))) (.tup (.cons (.int 1) (.cons (.int 0) (.cons (.int 0) .nil)))))) .nil), false, [(1, [])]⟩
def d6 : Def := ⟨"is_whole_turn", ["value"], ["value", "number"], (.cons (.ifs (.all false (.cons (.not (.val (.call 1 (.cons (.nm 0) (.cons (.int 4) .nil)) [] .nil))) (.cons (.cmp .ne (.call 2 (.cons (.nm 0) .nil) [] .nil) (.int 1)) .nil))) (.cons (.retn (.bl false)) .nil) .nil) (.cons (.retn (.cmp .gt (.idx (.compIf (.nm 1) (.nm 1) (.seq (.nm 0)) (.cmp .ne (.nm 1) (.int 0))) (.int 0)) (.int 0))) .nil)), false, [(1, [])]⟩
def d7 : Def := ⟨"check_turn", ["value"], ["value"], (.cons (.ifs (.not (.val (.call 6 (.cons (.nm 0) .nil) [] .nil))) (.cons .never .nil) .nil) .nil), false, [(1, [])]⟩
def d8 : Def := ⟨"turn_with", ["numbers"], ["numbers", "first", "number"], (.cons (.asg (.nm 1) (.idx (.compIf (.nm 2) (.nm 2) (.seq (.nm 0)) (.cmp .ne (.nm 2) (.int 0))) (.int 0))) (.cons (.retn (.slHi (.call 4 (.cons (.comp (.ife (.cmp .gt (.nm 1) (.int 0)) (.nm 2) (.neg (.nm 2))) (.nm 2) (.seq (.nm 0))) (.cons (.call 2 (.cons (.nm 0) .nil) [] .nil) .nil)) [] .nil) (.int 4))) .nil)), false, [(1, [])]⟩
def d9 : Def := ⟨"is_turn", ["value"], ["value"], (.cons (.retn (.call 6 (.cons (.nm 0) .nil) [] .nil)) .nil), false, [(1, [])]⟩
def d10 : Def := ⟨"quaternion_product", ["first", "second"], ["first", "second", "a", "b", "c", "d", "e", "f", "g", "h"], (.cons (.asg (.tup (.cons (.nm 2) (.cons (.nm 3) (.cons (.nm 4) (.cons (.nm 5) .nil))))) (.nm 0)) (.cons (.asg (.tup (.cons (.nm 6) (.cons (.nm 7) (.cons (.nm 8) (.cons (.nm 9) .nil))))) (.nm 1)) (.cons (.retn (.tup (.cons (.bin .sub (.bin .sub (.bin .sub (.bin .mul (.nm 2) (.nm 6)) (.bin .mul (.nm 3) (.nm 7))) (.bin .mul (.nm 4) (.nm 8))) (.bin .mul (.nm 5) (.nm 9))) (.cons (.bin .sub (.bin .add (.bin .add (.bin .mul (.nm 2) (.nm 7)) (.bin .mul (.nm 3) (.nm 6))) (.bin .mul (.nm 4) (.nm 9))) (.bin .mul (.nm 5) (.nm 8))) (.cons (.bin .add (.bin .add (.bin .sub (.bin .mul (.nm 2) (.nm 8)) (.bin .mul (.nm 3) (.nm 9))) (.bin .mul (.nm 4) (.nm 6))) (.bin .mul (.nm 5) (.nm 7))) (.cons (.bin .add (.bin .sub (.bin .add (.bin .mul (.nm 2) (.nm 9)) (.bin .mul (.nm 3) (.nm 8))) (.bin .mul (.nm 4) (.nm 7))) (.bin .mul (.nm 5) (.nm 6))) .nil)))))) .nil))), false, [(2, [])]⟩
def d11 : Def := ⟨"turn_after", ["turn", "other"], ["turn", "other"], (.cons (.retn (.call 8 (.cons (.call 10 (.cons (.nm 1) (.cons (.nm 0) .nil)) [] .nil) .nil) [] .nil)) .nil), false, [(2, [])]⟩
def d12 : Def := ⟨"joined_turns", ["turn", "other"], ["turn", "other"], (.cons (.expr (.call 7 (.cons (.nm 0) .nil) [] .nil)) (.cons (.expr (.call 7 (.cons (.nm 1) .nil) [] .nil)) (.cons (.retn (.call 11 (.cons (.nm 0) (.cons (.nm 1) .nil)) [] .nil)) .nil))), false, [(2, [])]⟩
def d13 : Def := ⟨"two_halves", ["turn"], ["turn", "first"], (.cons (.expr (.call 7 (.cons (.nm 0) .nil) [] .nil)) (.cons (.asg (.nm 1) (.tup (.cons (.int 0) (.star (.call 5 (.cons (.slLo (.nm 0) (.int 1)) .nil) [] .nil) .nil)))) (.cons (.retn (.tup (.cons (.call 8 (.cons (.nm 1) .nil) [] .nil) (.cons (.call 8 (.cons (.call 10 (.cons (.nm 0) (.cons (.nm 1) .nil)) [] .nil) .nil) [] .nil) .nil)))) .nil))), false, [(0, ["turn"]), (1, [])]⟩
def d14 : Def := ⟨"linear_and_round", ["turn"], ["turn", "a", "b", "c", "d"], (.cons (.expr (.call 7 (.cons (.nm 0) .nil) [] .nil)) (.cons (.asg (.tup (.cons (.nm 1) (.cons (.nm 2) (.cons (.nm 3) (.cons (.nm 4) .nil))))) (.nm 0)) (.cons (.ifs (.all true (.cons (.cmp .eq (.nm 1) (.int 0)) (.cons (.cmp .eq (.nm 4) (.int 0)) .nil))) (.cons (.retn (.tup (.cons (.nm 0) (.cons (.gl 0) .nil)))) .nil) .nil) (.cons (.retn (.tup (.cons (.call 8 (.cons (.tup (.cons (.bin .add (.bin .mul (.nm 1) (.nm 1)) (.bin .mul (.nm 4) (.nm 4))) (.cons (.bin .add (.bin .mul (.nm 1) (.nm 2)) (.bin .mul (.nm 3) (.nm 4))) (.cons (.bin .sub (.bin .mul (.nm 1) (.nm 3)) (.bin .mul (.nm 2) (.nm 4))) (.cons (.int 0) .nil))))) .nil) [] .nil) (.cons (.call 8 (.cons (.tup (.cons (.nm 1) (.cons (.int 0) (.cons (.int 0) (.cons (.nm 4) .nil))))) .nil) [] .nil) .nil)))) .nil)))), false, [(0, ["turn"]), (1, [])]⟩
def d15 : Def := ⟨"_law_source", ["_law_script", "_law_at"], ["_law_script", "_law_at", "_law_own", "_law_mixed", "_law_cell", "_law_state"], (.cons (.asg (.nm 2) (.ife (.cmp .lt (.nm 1) (.bi .len (.cons (.nm 0) .nil))) (.bi .int (.cons (.idx (.nm 0) (.nm 1)) .nil)) (.bin .add (.bin .mul (.int 983) (.nm 1)) (.int 57)))) (.cons (.asg (.nm 3) (.bin .add (.int 60013) (.bin .mul (.int 4001) (.nm 1)))) (.cons (.forr (.nm 4) (.seq (.slHi (.nm 0) (.int 8))) (.cons (.asg (.nm 3) (.bin .mod (.bi .int (.cons (.bin .add (.bin .add (.bin .mul (.nm 3) (.int 48611)) (.bin .mod (.bi .int (.cons (.nm 4) .nil)) (.int 2147483587))) (.int 19)) .nil)) (.int 2147483629))) .nil)) (.cons (.asg (.nm 5) (.bin .mod (.bi .int (.cons (.bin .add (.bin .mul (.nm 3) (.int 83)) (.bin .mul (.bin .mod (.bi .int (.cons (.nm 2) .nil)) (.int 2147483587)) (.int 20011))) .nil)) (.int 2147483629))) (.cons (.retn (.lst (.cons (.ife (.all false (.cons (.cmp .lt (.nm 2) (.int 0)) (.cons (.cmp .ge (.nm 2) (.bin .pow (.int 10) (.int 17))) .nil))) (.bi .abs (.cons (.nm 2) .nil)) (.int 0)) (.cons (.nm 5) (.cons (.int 0) .nil))))) .nil))))), true, [(2, [])]⟩
def d16 : Def := ⟨"_law_draw", ["_law_source_here", "_law_top"], ["_law_source_here", "_law_top", "_law_step", "_law_figure"], (.cons (.ifs (.cmp .gt (.idx (.nm 0) (.int 0)) (.int 0)) (.cons (.asg (.tup (.cons (.sub 0 (.int 0)) (.cons (.nm 3) .nil))) (.bi .divmod (.cons (.idx (.nm 0) (.int 0)) (.cons (.nm 1) .nil)))) (.cons (.retn (.nm 3)) .nil)) .nil) (.cons (.asg (.sub 0 (.int 2)) (.bin .add (.idx (.nm 0) (.int 2)) (.int 1))) (.cons (.asg (.nm 2) (.bin .mod (.bi .int (.cons (.bin .add (.bin .mul (.idx (.nm 0) (.int 1)) (.int 16807)) (.bin .mul (.idx (.nm 0) (.int 2)) (.int 65539))) .nil)) (.int 2147483587))) (.cons (.asg (.sub 0 (.int 1)) (.bin .mod (.bi .int (.cons (.bin .add (.bin .mul (.nm 2) (.bin .add (.bin .mul (.int 2) (.bin .fdiv (.nm 2) (.int 11))) (.int 30011))) (.idx (.nm 0) (.int 2))) .nil)) (.int 2147483629))) (.cons (.retn (.bin .mod (.bi .int (.cons (.bin .fdiv (.idx (.nm 0) (.int 1)) (.int 257)) .nil)) (.nm 1))) .nil))))), false, [(2, [])]⟩
def d17 : Def := ⟨"_law_pick", ["_law_source_here", "_law_some"], ["_law_source_here", "_law_some"], (.cons (.retn (.idx (.nm 1) (.call 16 (.cons (.nm 0) (.cons (.bi .len (.cons (.nm 1) .nil)) .nil)) [] .nil))) .nil), false, [(2, [])]⟩
def d18 : Def := ⟨"_law_about", ["_law_source_here", "_law_most"], ["_law_source_here", "_law_most"], (.cons (.retn (.bin .sub (.call 16 (.cons (.nm 0) (.cons (.bin .add (.bin .mul (.int 2) (.nm 1)) (.int 1)) .nil)) [] .nil) (.nm 1))) .nil), false, [(2, [])]⟩
def d19 : Def := ⟨"_law_common", ["_law_row"], ["_law_row", "_law_found", "_law_part", "_law_one", "_law_two"], (.cons (.asg (.nm 1) (.int 0)) (.cons (.forr (.nm 2) (.seq (.nm 0)) (.cons (.par2 3 4 (.nm 1) (.bi .abs (.cons (.nm 2) .nil))) (.cons (.whil (.cmp .ne (.nm 4) (.int 0)) (.cons (.par2 3 4 (.nm 4) (.bin .mod (.bi .int (.cons (.nm 3) .nil)) (.nm 4))) .nil)) (.cons (.asg (.nm 1) (.nm 3)) .nil)))) (.cons (.retn (.nm 1)) .nil))), false, [(1, [])]⟩
def d20 : Def := ⟨"_law_low", ["_law_row"], ["_law_row", "_law_found", "_law_part"], (.cons (.asg (.nm 1) (.bi .max2 (.cons (.int 1) (.cons (.call 19 (.cons (.nm 0) .nil) [] .nil) .nil)))) (.cons (.retn (.bi .tuple (.cons (.comp (.bin .fdiv (.nm 2) (.nm 1)) (.nm 2) (.seq (.nm 0))) .nil))) .nil)), false, [(1, [])]⟩
def d21 : Def := ⟨"_law_along", ["_law_four"], ["_law_four", "_law_low_here", "_law_lead", "_law_part"], (.cons (.asg (.nm 1) (.call 20 (.cons (.nm 0) .nil) [] .nil)) (.cons (.asg (.nm 2) (.idx (.compIf (.nm 3) (.nm 3) (.seq (.nm 1)) (.cmp .ne (.nm 3) (.int 0))) (.int 0))) (.cons (.retn (.ife (.cmp .gt (.nm 2) (.int 0)) (.nm 1) (.bi .tuple (.cons (.comp (.bin .sub (.int 0) (.nm 3)) (.nm 3) (.seq (.nm 1))) .nil)))) .nil))), false, [(1, [])]⟩
def d22 : Def := ⟨"_law_mult", ["_law_one", "_law_two"], ["_law_one", "_law_two", "_law_real", "_law_a", "_law_b", "_law_c", "_law_d", "_law_e", "_law_f", "_law_g", "_law_h"], (.cons (.asg (.tup (.cons (.nm 3) (.cons (.nm 4) (.cons (.nm 5) (.cons (.nm 6) .nil))))) (.nm 0)) (.cons (.asg (.tup (.cons (.nm 7) (.cons (.nm 8) (.cons (.nm 9) (.cons (.nm 10) .nil))))) (.nm 1)) (.cons (.asg (.nm 2) (.bin .sub (.bin .sub (.bin .sub (.bin .mul (.nm 3) (.nm 7)) (.bin .mul (.nm 4) (.nm 8))) (.bin .mul (.nm 5) (.nm 9))) (.bin .mul (.nm 6) (.nm 10)))) (.cons (.retn (.tup (.cons (.nm 2) (.cons (.bin .sub (.bin .add (.bin .add (.bin .mul (.nm 3) (.nm 8)) (.bin .mul (.nm 4) (.nm 7))) (.bin .mul (.nm 5) (.nm 10))) (.bin .mul (.nm 6) (.nm 9))) (.cons (.bin .add (.bin .add (.bin .sub (.bin .mul (.nm 3) (.nm 9)) (.bin .mul (.nm 4) (.nm 10))) (.bin .mul (.nm 5) (.nm 7))) (.bin .mul (.nm 6) (.nm 8))) (.cons (.bin .add (.bin .sub (.bin .add (.bin .mul (.nm 3) (.nm 10)) (.bin .mul (.nm 4) (.nm 9))) (.bin .mul (.nm 5) (.nm 8))) (.bin .mul (.nm 6) (.nm 7))) .nil)))))) .nil)))), false, [(2, [])]⟩
def d23 : Def := ⟨"_law_both", ["_law_one", "_law_two"], ["_law_one", "_law_two"], (.cons (.retn (.call 21 (.cons (.call 22 (.cons (.nm 1) (.cons (.nm 0) .nil)) [] .nil) .nil) [] .nil)) .nil), false, [(2, [])]⟩
def d24 : Def := ⟨"_law_spin", ["_law_source_here"], ["_law_source_here", "_law_four", "_law_way", "_law_most", "_law_k"], (.cons (.asg (.tup (.cons (.nm 2) (.cons (.nm 3) .nil))) (.tup (.cons (.call 16 (.cons (.nm 0) (.cons (.int 8) .nil)) [] .nil) (.cons (.call 17 (.cons (.nm 0) (.cons (.tup (.cons (.int 1) (.cons (.int 1) (.cons (.int 2) (.cons (.int 3) (.cons (.int 9) (.cons (.int 100) .nil))))))) .nil)) [] .nil) .nil)))) (.cons (.own 1 (.comp (.call 18 (.cons (.nm 0) (.cons (.nm 3) .nil)) [] .nil) (.nm 4) (.rng1 (.int 4)))) (.cons (.ifs (.cmp .eq (.nm 2) (.int 0)) (.cons (.own 1 (.bi .list (.cons (.call 17 (.cons (.nm 0) (.cons (.tup (.cons (.tup (.cons (.int 1) (.cons (.int 1) (.cons (.int 1) (.cons (.int 1) .nil))))) (.cons (.tup (.cons (.int 1) (.cons (.int 1) (.cons (.int 0) (.cons (.int 0) .nil))))) (.cons (.tup (.cons (.int 3) (.cons (.int 1) (.cons (.int 1) (.cons (.int 1) .nil))))) (.cons (.tup (.cons (.int 0) (.cons (.int 1) (.cons (.int 1) (.cons (.int 0) .nil))))) (.cons (.tup (.cons (.int 1) (.cons (.int 0) (.cons (.int 0) (.cons (.int 0) .nil))))) (.cons (.tup (.cons (.int 1) (.cons (.int 0) (.cons (.int 0) (.cons (.int 1) .nil))))) .nil))))))) .nil)) [] .nil) .nil))) .nil) .nil) (.cons (.ifs (.cmp .eq (.nm 2) (.int 1)) (.cons (.asg (.sub 1 (.int 0)) (.int 0)) .nil) .nil) (.cons (.ifs (.cmp .eq (.nm 2) (.int 2)) (.cons (.own 1 (.lst (.cons (.idx (.nm 1) (.int 0)) (.cons (.int 0) (.cons (.int 0) (.cons (.idx (.nm 1) (.int 3)) .nil)))))) .nil) .nil) (.cons (.ifs (.cmp .eq (.nm 2) (.int 3)) (.cons (.asg (.sub 1 (.int 3)) (.int 0)) .nil) .nil) (.cons (.freeze 1 (.retn (.ife (.cmp .ne (.nm 1) (.lst (.cons (.int 0) (.cons (.int 0) (.cons (.int 0) (.cons (.int 0) .nil)))))) (.call 21 (.cons (.nm 1) .nil) [] .nil) (.tup (.cons (.int 0) (.cons (.int 0) (.cons (.int 0) (.cons (.int 1) .nil)))))))) .nil))))))), false, [(1, [])]⟩
def d25 : Def := ⟨"_law_number", ["_law_source_here", "_law_most"], ["_law_source_here", "_law_most"], (.cons (.ifs (.cmp .gt (.nm 1) (.int 0)) (.cons (.retn (.call 18 (.cons (.nm 0) (.cons (.nm 1) .nil)) [] .nil)) .nil) .nil) (.cons (.retn (.bin .add (.bin .mul (.call 18 (.cons (.nm 0) (.cons (.int 999999) .nil)) [] .nil) (.bin .pow (.int 10) (.int 6))) (.call 16 (.cons (.nm 0) (.cons (.bin .pow (.int 10) (.int 6)) .nil)) [] .nil))) .nil)), false, [(2, [])]⟩
def d26 : Def := ⟨"_law_great", ["_law_source_here"], ["_law_source_here", "_law_most", "_law_four", "_law_k"], (.cons (.ifs (.cmp .gt (.call 16 (.cons (.nm 0) (.cons (.int 3) .nil)) [] .nil) (.int 0)) (.cons (.retn (.call 24 (.cons (.nm 0) .nil) [] .nil)) .nil) .nil) (.cons (.asg (.nm 1) (.call 17 (.cons (.nm 0) (.cons (.tup (.cons (.int 30) (.cons (.int 1000) (.cons (.int 0) .nil)))) .nil)) [] .nil)) (.cons (.asg (.nm 2) (.comp (.call 25 (.cons (.nm 0) (.cons (.nm 1) .nil)) [] .nil) (.nm 3) (.rng1 (.int 4)))) (.cons (.retn (.ife (.cmp .ne (.nm 2) (.lst (.cons (.int 0) (.cons (.int 0) (.cons (.int 0) (.cons (.int 0) .nil)))))) (.call 21 (.cons (.nm 2) .nil) [] .nil) (.tup (.cons (.int 1) (.cons (.int 0) (.cons (.int 0) (.cons (.int 0) .nil))))))) .nil)))), false, [(1, [])]⟩
def d27 : Def := ⟨"_law_is_pair", ["_law_told", "_law_spin_here"], ["_law_told", "_law_spin_here", "_law_each", "_law_part"], (.cons (.ifs (.all false (.cons (.not (.val (.isin (.nm 0) .tuple))) (.cons (.cmp .ne (.bi .len (.cons (.nm 0) .nil)) (.int 2)) .nil))) (.cons (.retn (.bl false)) .nil) .nil) (.cons (.forr (.nm 2) (.seq (.nm 0)) (.cons (.ifs (.all false (.cons (.not (.val (.isin (.nm 2) .tuple))) (.cons (.cmp .ne (.bi .len (.cons (.nm 2) .nil)) (.int 4)) (.cons (.not (.val (.call 9 (.cons (.nm 2) .nil) [] .nil))) .nil)))) (.cons (.retn (.bl false)) .nil) .nil) (.cons (.ifs (.cmp .ne (.compIf (.nm 3) (.nm 3) (.seq (.nm 2)) (.all false (.cons (.not (.val (.isin (.nm 3) .int))) (.cons (.val (.isin (.nm 3) .bool)) .nil)))) (.lst .nil)) (.cons (.retn (.bl false)) .nil) .nil) (.cons (.ifs (.all false (.cons (.cmp .eq (.nm 2) (.tup (.cons (.int 0) (.cons (.int 0) (.cons (.int 0) (.cons (.int 0) .nil)))))) (.cons (.cmp .ne (.call 21 (.cons (.nm 2) .nil) [] .nil) (.nm 2)) .nil))) (.cons (.retn (.bl false)) .nil) .nil) .nil)))) (.cons (.retn (.boolv true (.cons (.cmp .eq (.call 23 (.cons (.idx (.nm 0) (.int 0)) (.cons (.idx (.nm 0) (.int 1)) .nil)) [] .nil) (.nm 1)) (.cons (.cmp .eq (.bi .repr (.cons (.call 12 (.cons (.idx (.nm 0) (.int 0)) (.cons (.idx (.nm 0) (.int 1)) .nil)) [] .nil) .nil)) (.bi .repr (.cons (.nm 1) .nil))) .nil)))) .nil))), false, [(2, [])]⟩
def d28 : Def := ⟨"_law_right", ["_law_source_here"], ["_law_source_here", "_law_spin_here", "_law_halves", "_law_due", "_law_told", "_law_a", "_law_b", "_law_c", "_law_d"], (.cons (.asg (.nm 1) (.call 26 (.cons (.nm 0) .nil) [] .nil)) (.cons (.asg (.tup (.cons (.nm 5) (.cons (.nm 6) (.cons (.nm 7) (.cons (.nm 8) .nil))))) (.nm 1)) (.cons (.asg (.nm 2) (.call 13 (.cons (.nm 1) .nil) [] .nil)) (.cons (.ifs (.all false (.cons (.not (.val (.call 27 (.cons (.nm 2) (.cons (.nm 1) .nil)) [] .nil))) (.cons (.cmp .ne (.idx (.idx (.nm 2) (.int 0)) (.int 0)) (.int 0)) (.cons (.cmp .ne (.idx (.idx (.nm 2) (.int 1)) (.int 0)) (.int 0)) .nil)))) (.cons (.retn (.bl false)) .nil) .nil) (.cons (.asg (.nm 3) (.tup (.cons (.nm 1) (.cons (.tup (.cons (.int 1) (.cons (.int 0) (.cons (.int 0) (.cons (.int 0) .nil))))) .nil)))) (.cons (.ifs (.all false (.cons (.cmp .ne (.nm 5) (.int 0)) (.cons (.cmp .ne (.nm 8) (.int 0)) .nil))) (.cons (.asg (.nm 3) (.tup (.cons (.call 21 (.cons (.tup (.cons (.bin .add (.bin .mul (.nm 5) (.nm 5)) (.bin .mul (.nm 8) (.nm 8))) (.cons (.bin .add (.bin .mul (.nm 5) (.nm 6)) (.bin .mul (.nm 7) (.nm 8))) (.cons (.bin .sub (.bin .mul (.nm 5) (.nm 7)) (.bin .mul (.nm 6) (.nm 8))) (.cons (.int 0) .nil))))) .nil) [] .nil) (.cons (.call 21 (.cons (.tup (.cons (.nm 5) (.cons (.int 0) (.cons (.int 0) (.cons (.nm 8) .nil))))) .nil) [] .nil) .nil)))) .nil) .nil) (.cons (.asg (.nm 4) (.call 14 (.cons (.nm 1) .nil) [] .nil)) (.cons (.ifs (.all false (.cons (.not (.val (.call 27 (.cons (.nm 4) (.cons (.nm 1) .nil)) [] .nil))) (.cons (.cmp .ne (.idx (.idx (.nm 4) (.int 0)) (.int 3)) (.int 0)) (.cons (.cmp .ne (.idx (.idx (.nm 4) (.int 1)) (.int 1)) (.int 0)) (.cons (.cmp .ne (.idx (.idx (.nm 4) (.int 1)) (.int 2)) (.int 0)) .nil))))) (.cons (.retn (.bl false)) .nil) .nil) (.cons (.retn (.cmp .eq (.bi .repr (.cons (.lst (.cons (.nm 4) (.cons (.call 14 .nil ["turn"] (.cons (.nm 1) .nil)) (.cons (.call 13 .nil ["turn"] (.cons (.nm 1) .nil)) .nil)))) .nil)) (.bi .repr (.cons (.lst (.cons (.nm 3) (.cons (.nm 3) (.cons (.nm 2) .nil)))) .nil)))) .nil))))))))), false, [(1, [])]⟩
def d29 : Def := ⟨"law", ["_law_script"], ["_law_script", "_law_k"], (.cons (.retn (.bi .all (.cons (.comp (.callT 28 (.call 15 (.cons (.nm 0) (.cons (.nm 1) .nil)) [] .nil) .nil) (.nm 1) (.rng1 (.bi .max2 (.cons (.int 2) (.cons (.bi .min2 (.cons (.bi .len (.cons (.nm 0) .nil)) (.cons (.int 4) .nil))) .nil))))) .nil))) .nil), false, [(1, [])]⟩
def S : Sig := ⟨[d0, d1, d2, d3, d4, d5, d6, d7, d8, d9, d10, d11, d12, d13, d14, d15, d16, d17, d18, d19, d20, d21, d22, d23, d24, d25, d26, d27, d28, d29], [("NO_TURN", (.tuple [(.int (1)), (.int (0)), (.int (0)), (.int (0))]))], [("gcd", "math.gcd")]⟩
def ix : List Nat := [5, 6, 7, 8, 9, 11, 13, 14, 15, 18, 19, 20, 21, 22, 23, 25, 26, 27, 28, 29, 30, 31, 32, 33, 34, 35, 36, 37, 38, 39]
-- binds: "LightError", "InvalidTurn", "is_whole", "are_wholes", "common_part", "lowest", "lowest_over", "upright_to", "is_whole_turn", "check_turn", "turn_with", "is_turn", "quaternion_product", "turn_after", "joined_turns", "two_halves", "linear_and_round", "_law_source", "_law_draw", "_law_pick", "_law_about", "_law_common", "_law_low", "_law_along", "_law_mult", "_law_both", "_law_spin", "_law_number", "_law_great", "_law_is_pair", "_law_right", "law"; "NO_TURN"; "gcd"
end K29

end

section
set_option Elab.async false
set_option linter.all false
/-! Rows of whole numbers: their common part, the row in its one form. -/
namespace Gm
def gF : Nat → List Int → Nat
  | g, [] => g
  | g, x :: l => gF (Nat.gcd g x.natAbs) l
def gL (l : List Int) : Nat := gF 0 l
def fst0 (l : List Int) : Int := (l.filter (fun x => decide (x ≠ 0))).headD 0
def sg (l : List Int) : Int := if 0 < fst0 l then 1 else -1
def nrm (l : List Int) : List Int := l.map fun x => sg l * (x / (gL l : Int))
theorem gF_scale (c : Int) : ∀ (l : List Int) (g : Nat), gF (c.natAbs * g) (l.map (c * ·)) = c.natAbs * gF g l
  | [], g => rfl
  | x :: l, g => by
    rw [List.map_cons]
    show gF (Nat.gcd (c.natAbs * g) (c * x).natAbs) (l.map (c * ·)) = _
    rw [Int.natAbs_mul, Nat.gcd_mul_left]
    exact gF_scale c l _
theorem gL_scale (c : Int) (l : List Int) : gL (l.map (c * ·)) = c.natAbs * gL l := by
  have h := gF_scale c l 0
  rw [Nat.mul_zero] at h
  exact h
theorem gF_dvd : ∀ (l : List Int) (g : Nat), gF g l ∣ g ∧ ∀ x ∈ l, gF g l ∣ x.natAbs
  | [], g => ⟨Nat.dvd_refl _, fun _ h => by cases h⟩
  | x :: l, g => by
    obtain ⟨h1, h2⟩ := gF_dvd l (Nat.gcd g x.natAbs)
    refine ⟨Nat.dvd_trans h1 (Nat.gcd_dvd_left _ _), fun y hy => ?_⟩
    rcases List.mem_cons.mp hy with e | hy
    · subst e; exact Nat.dvd_trans h1 (Nat.gcd_dvd_right _ _)
    · exact h2 y hy
theorem gL_dvd {l : List Int} {x : Int} (h : x ∈ l) : (gL l : Int) ∣ x := Int.ofNat_dvd_left.mpr ((gF_dvd l 0).2 x h)
theorem gF_zero : ∀ (l : List Int) (g : Nat), gF g l = 0 → g = 0 ∧ ∀ x ∈ l, x = 0
  | [], g, h => ⟨h, fun _ h => by cases h⟩
  | x :: l, g, h => by
    obtain ⟨h1, h2⟩ := gF_zero l _ h
    obtain ⟨h3, h4⟩ := Nat.gcd_eq_zero_iff.mp h1
    refine ⟨h3, fun y hy => ?_⟩
    rcases List.mem_cons.mp hy with e | hy
    · subst e; exact Int.natAbs_eq_zero.mp h4
    · exact h2 y hy
theorem gL_ne {l : List Int} {x : Int} (h : x ∈ l) (hx : x ≠ 0) : gL l ≠ 0 := fun e => hx ((gF_zero l 0 e).2 x h)
theorem fst0_scale {c : Int} (hc : c ≠ 0) : ∀ l : List Int, fst0 (l.map (c * ·)) = c * fst0 l
  | [] => by simp [fst0]
  | x :: l => by
    unfold fst0
    rw [List.map_cons]
    by_cases hx : x = 0
    · rw [List.filter_cons_of_neg (by simp [hx]), List.filter_cons_of_neg (by simp [hx])]
      exact fst0_scale hc l
    · rw [List.filter_cons_of_pos (by simp [hx, hc]), List.filter_cons_of_pos (by simp [hx])]
      rfl
theorem fst0_ne : ∀ {l : List Int}, gL l ≠ 0 → fst0 l ≠ 0 := by
  intro l h
  have main : ∀ l : List Int, fst0 l = 0 → ∀ x ∈ l, x = 0 := by
    intro l
    induction l with
    | nil => intro _ x hx; cases hx
    | cons y l ih =>
      intro h x hx
      unfold fst0 at h
      by_cases hy : y = 0
      · rw [List.filter_cons_of_neg (by simp [hy])] at h
        rcases List.mem_cons.mp hx with e | hx
        · rw [e]; exact hy
        · exact ih h x hx
      · rw [List.filter_cons_of_pos (by simp [hy])] at h
        exact absurd h hy
  intro e
  apply h
  have z := main l e
  have all : ∀ (l : List Int), (∀ x ∈ l, x = 0) → gF 0 l = 0 := by
    intro l
    induction l with
    | nil => intro _; rfl
    | cons y l ih =>
      intro h
      have hy := h y List.mem_cons_self
      subst hy
      exact ih fun x hx => h x (List.mem_cons_of_mem _ hx)
  exact all l z
theorem sg_sq (l : List Int) : sg l * sg l = 1 := by unfold sg; split <;> rfl
theorem sg_ne (l : List Int) : sg l ≠ 0 := by unfold sg; split <;> decide
/-- the row is a multiple of its one form -/
theorem nrm_mul (l : List Int) : l = (nrm l).map (sg l * (gL l : Int) * ·) := by
  unfold nrm
  rw [List.map_map]
  conv => lhs; rw [← List.map_id l]
  refine List.map_congr_left fun x hx => ?_
  have h := Int.ediv_mul_cancel (gL_dvd hx)
  show x = sg l * (gL l : Int) * (sg l * (x / (gL l : Int)))
  have h2 := sg_sq l
  generalize sg l = s at *
  generalize x / (gL l : Int) = q at *
  rw [← h]
  grind
theorem gL_nrm {l : List Int} (h : gL l ≠ 0) : gL (nrm l) = 1 := by
  have e := congrArg gL (nrm_mul l)
  rw [gL_scale, Int.natAbs_mul] at e
  have s : (sg l).natAbs = 1 := by unfold sg; split <;> rfl
  rw [s, Nat.one_mul, Int.natAbs_natCast] at e
  have : gL l * 1 = gL l * gL (nrm l) := by rw [Nat.mul_one]; exact e
  exact (Nat.eq_of_mul_eq_mul_left (Nat.pos_of_ne_zero h) this).symm
theorem fst0_nrm {l : List Int} (h : gL l ≠ 0) : 0 < fst0 (nrm l) := by
  have hc : sg l * (gL l : Int) ≠ 0 := Int.mul_ne_zero (sg_ne l) (by omega)
  have e := congrArg fst0 (nrm_mul l)
  rw [fst0_scale hc] at e
  have n := fst0_ne h
  have gp : (0 : Int) < gL l := by omega
  unfold sg at e
  by_cases hp : 0 < fst0 l
  · rw [if_pos hp, Int.one_mul] at e
    rw [e] at hp
    rcases Int.lt_trichotomy (fst0 (nrm l)) 0 with q | q | q
    · have := Int.mul_neg_of_pos_of_neg gp q
      omega
    · rw [q, Int.mul_zero] at hp; omega
    · exact q
  · rw [if_neg hp] at e
    have hn : fst0 l < 0 := by omega
    rw [e] at hn
    have : -(((gL l : Int)) * fst0 (nrm l)) < 0 := by
      have q : -1 * (gL l : Int) * fst0 (nrm l) = -((gL l : Int) * fst0 (nrm l)) := by grind
      rw [← q]; exact hn
    have p : 0 < (gL l : Int) * fst0 (nrm l) := by omega
    rcases Int.lt_trichotomy (fst0 (nrm l)) 0 with q | q | q
    · have := Int.mul_neg_of_pos_of_neg gp q
      omega
    · rw [q, Int.mul_zero] at p; omega
    · exact q
/-- a row in its one form -/
def T (l : List Int) : Prop := gL l = 1 ∧ 0 < fst0 l
theorem T_nrm {l : List Int} (h : gL l ≠ 0) : T (nrm l) := ⟨gL_nrm h, fst0_nrm h⟩
theorem nrm_T {l : List Int} (h : T l) : nrm l = l := by
  unfold nrm sg
  rw [if_pos h.2, h.1]
  conv => rhs; rw [← List.map_id l]
  refine List.map_congr_left fun x _ => ?_
  show 1 * (x / ((1 : Nat) : Int)) = x
  rw [Int.one_mul]; exact Int.ediv_one x
theorem nrm_scale {c : Int} (hc : c ≠ 0) (l : List Int) : nrm (l.map (c * ·)) = nrm l := by
  unfold nrm
  rw [List.map_map]
  refine List.map_congr_left fun x hx => ?_
  show sg (l.map (c * ·)) * (c * x / (gL (l.map (c * ·)) : Int)) = sg l * (x / (gL l : Int))
  rw [gL_scale]
  have ⟨q, hq⟩ := gL_dvd hx
  by_cases g0 : gL l = 0
  · have x0 := (gF_zero l 0 g0).2 x hx
    rw [x0, g0]; simp
  have gp : (gL l : Int) ≠ 0 := by omega
  have e1 : x / (gL l : Int) = q := by rw [hq]; exact Int.mul_ediv_cancel_left q gp
  rw [e1]
  have n := fst0_ne g0
  rcases Int.lt_trichotomy c 0 with h | h | h
  · have ec : (c.natAbs : Int) = -c := by omega
    have e2 : c * x / ((c.natAbs * gL l : Nat) : Int) = -q := by
      rw [Int.natCast_mul, ec, hq]
      have : c * ((gL l : Int) * q) = (-c * (gL l : Int)) * (-q) := by grind
      rw [this]
      exact Int.mul_ediv_cancel_left _ (Int.mul_ne_zero (by omega) gp)
    rw [e2]
    unfold sg
    rw [fst0_scale hc]
    rcases Int.lt_trichotomy (fst0 l) 0 with k | k | k
    · rw [if_pos (Int.mul_pos_of_neg_of_neg h k), if_neg (by omega)]; omega
    · exact absurd k n
    · have := Int.mul_neg_of_neg_of_pos h k
      rw [if_neg (by omega), if_pos k]; omega
  · exact absurd h hc
  · have ec : (c.natAbs : Int) = c := by omega
    have e2 : c * x / ((c.natAbs * gL l : Nat) : Int) = q := by
      rw [Int.natCast_mul, ec, hq]
      have : c * ((gL l : Int) * q) = (c * (gL l : Int)) * q := by grind
      rw [this]
      exact Int.mul_ediv_cancel_left _ (Int.mul_ne_zero hc gp)
    rw [e2]
    unfold sg
    rw [fst0_scale hc]
    rcases Int.lt_trichotomy (fst0 l) 0 with k | k | k
    · have := Int.mul_neg_of_pos_of_neg h k
      rw [if_neg (by omega), if_neg (by omega)]
    · exact absurd k n
    · rw [if_pos (Int.mul_pos h k), if_pos k]
/-- .. is no longer -/
theorem nrm_le {l : List Int} {B : Nat} (h : ∀ x ∈ l, x.natAbs ≤ B) : ∀ x ∈ nrm l, x.natAbs ≤ B := by
  intro x hx
  obtain ⟨y, hy, rfl⟩ := List.mem_map.mp hx
  have s : (sg l).natAbs = 1 := by unfold sg; split <;> rfl
  rw [Int.natAbs_mul, s, Nat.one_mul]
  refine Nat.le_trans ?_ (h y hy)
  obtain ⟨q, hq⟩ := gL_dvd hy
  by_cases g0 : gL l = 0
  · rw [g0]; simp
  · have e1 : y / (gL l : Int) = q := by rw [hq]; exact Int.mul_ediv_cancel_left q (by omega)
    rw [e1, hq, Int.natAbs_mul, Int.natAbs_natCast]
    exact Nat.le_mul_of_pos_left _ (Nat.pos_of_ne_zero g0)
end Gm

end

section
set_option Elab.async false
set_option linter.all false
set_option maxRecDepth 100000
/-! Plain laws of the mini language's runs. -/
namespace Mini
open PySem (PyData Str)
def W {α : Type} (m : M α) (t : Tap) (Q : α → Tap → Prop) : Prop := ∃ a t', m t = some (a, t') ∧ Q a t'
section
variable {α β : Type} {t : Tap}
theorem W_ret {a : α} {Q : α → Tap → Prop} : W (ret a) t Q ↔ Q a t := ⟨fun ⟨_, _, e, q⟩ => by cases e; exact q, fun q => ⟨_, _, rfl, q⟩⟩
theorem W_fail {Q : α → Tap → Prop} : W fail t Q ↔ False := ⟨fun ⟨_, _, e, q⟩ => (by cases e), fun q => q.elim⟩
theorem W_bnd {m : M α} {f : α → M β} {Q : β → Tap → Prop} : W (bnd m f) t Q ↔ W m t fun a t1 => W (f a) t1 Q := by
  constructor
  · rintro ⟨b, t', e, q⟩
    unfold bnd at e
    split at e
    · cases e
    · rename_i a t1 e1; exact ⟨a, t1, e1, b, t', e, q⟩
  · rintro ⟨a, t1, e1, b, t', e, q⟩
    refine ⟨b, t', ?_, q⟩
    unfold bnd
    rw [e1]; exact e
theorem W_lft {a : α} {Q : α → Tap → Prop} : W (lft (some a)) t Q ↔ Q a t := ⟨fun ⟨_, _, e, q⟩ => by cases e; exact q, fun q => ⟨_, _, rfl, q⟩⟩
theorem W_lft0 {Q : α → Tap → Prop} : W (lft none) t Q ↔ False := ⟨fun ⟨_, _, e, q⟩ => (by cases e), fun q => q.elim⟩
theorem W_cond {c : Bool} {a b : M α} {Q : α → Tap → Prop} : W (Mini.cond c a b) t Q ↔ (if c = true then W a t Q else W b t Q) := by
  cases c <;> exact Iff.rfl
theorem W_mono {m : M α} {Q R : α → Tap → Prop} (h : W m t Q) (i : ∀ a t', Q a t' → R a t') : W m t R := let ⟨a, t', e, q⟩ := h; ⟨a, t', e, i a t' q⟩
theorem W_fun {m : Tap → Option (α × Tap)} {Q : α → Tap → Prop} {a : α} {t' : Tap} (e : m t = some (a, t')) (q : Q a t') : W m t Q := ⟨a, t', e, q⟩
end
def IL (l : List Int) : List PyData := l.map .int
theorem IL_nil : IL [] = [] := rfl
theorem IL_cons (a : Int) (l : List Int) : IL (a :: l) = .int a :: IL l := rfl
/-! ### calls -/
theorem W_call {S : Sig} {n k : Nat} {d : Def} {vs : List Val} {t : Tap} {Q : Val → Tap → Prop} (hd : S.defs[k]? = some d) (hl : vs.length = d.params.length)
    (h : W (execs S (call S n) d.body (start d vs)) t fun r t' => match r.1 with | .rt v => Q v t' | .nx => Q (.d .none) t' | _ => False) : W (call S (n + 1) k vs) t Q := by
  obtain ⟨⟨f, env⟩, t', e, q⟩ := h
  unfold W
  simp only [call, hd]
  unfold run
  rw [if_pos hl, e]
  cases f with
  | rt v => exact ⟨v, t', rfl, q⟩
  | nx => exact ⟨_, t', rfl, q⟩
  | bk => exact q.elim
  | ct => exact q.elim
/-! ### sizes -/
/-- small enough to be multiplied -/
def Sm (x : Int) : Prop := x.natAbs < 2 ^ 8000
theorem log_lt {x : Int} (h : Sm x) : bits x < 8001 := by
  unfold bits
  by_cases e : x.natAbs = 0
  · rw [e]; decide
  · exact Nat.lt_succ_of_lt ((Nat.log2_lt e).mpr h)
theorem mul_ok {a b : Int} (ha : Sm a) (hb : Sm b) : mulOk a b = true := by
  have := log_lt ha
  have := log_lt hb
  unfold mulOk
  exact decide_eq_true (by omega)
theorem div_ok {b : Int} (h0 : b ≠ 0) (hb : Sm b) : divOk b = true := by
  have := log_lt hb
  unfold divOk
  rw [decide_eq_true h0, decide_eq_true (by omega)]; rfl
theorem sm_le {x : Int} {n : Nat} (h : x.natAbs ≤ n) (hn : n < 2 ^ 8000) : Sm x := Nat.lt_of_le_of_lt h hn
/-! ### comprehensions -/
theorem W_comp {as : PyData → M Env} {mt : Env → M Bool} {me : Env → M Val} {p : Int → Bool} {f : Int → PyData} {t : Tap} : ∀ (l : List Int) {Q : List PyData → Tap → Prop},
    (∀ x ∈ l, W (as (.int x)) t fun env t1 => t1 = t ∧ W (mt env) t fun b t2 => t2 = t ∧ b = p x ∧ (p x = true → W (me env) t fun y t3 => t3 = t ∧ y = .d (f x))) → Q ((l.filter p).map f) t → W (evC as mt me (IL l)) t Q
  | [], Q, _, q => ⟨[], t, rfl, q⟩
  | x :: l, Q, h, q => by
    rw [IL_cons]
    unfold evC
    rw [W_bnd]
    refine W_mono (h x List.mem_cons_self) ?_
    rintro env t1 ⟨rfl, h1⟩
    rw [W_bnd]
    refine W_mono h1 ?_
    rintro b t2 ⟨rfl, hb, h2⟩
    rw [W_cond]
    have ih := fun {Q} => W_comp (as := as) (mt := mt) (me := me) (p := p) (f := f) l (Q := Q) fun y hy => h y (List.mem_cons_of_mem _ hy)
    subst hb
    cases hp : p x with
    | false =>
      rw [if_neg Bool.false_ne_true]
      rw [List.filter_cons_of_neg (by rw [hp]; exact Bool.false_ne_true)] at q
      exact ih q
    | true =>
      rw [if_pos rfl, W_bnd]
      refine W_mono (h2 hp) ?_
      rintro y t3 ⟨rfl, rfl⟩
      rw [W_bnd]
      refine ih (Q := fun ys t' => W (ret (f x :: ys)) t' Q) ?_
      rw [W_ret]
      rw [List.filter_cons_of_pos hp, List.map_cons] at q
      exact q
/-! ### for over whole numbers -/
theorem W_for {as : PyData → Env → M Env} {b : Env → M (Fl × Env)} {I : List Int → Env → Prop} {t : Tap} {Q : Fl × Env → Tap → Prop} (hq : ∀ env, I [] env → Q (.nx, env) t) :
    ∀ (l : List Int) (env : Env), I l env → (∀ x r env, I (x :: r) env → W (as (.int x) env) t fun env1 t1 => t1 = t ∧ W (b env1) t fun f t2 => t2 = t ∧ f.1 = .nx ∧ I r f.2) → W (forL as b (IL l) env) t Q
  | [], env, i, _ => ⟨_, t, rfl, hq env i⟩
  | x :: l, env, i, h => by
    rw [IL_cons]
    unfold forL
    rw [W_bnd]
    refine W_mono (h x l env i) ?_
    rintro env1 t1 ⟨rfl, h1⟩
    rw [W_bnd]
    refine W_mono h1 ?_
    rintro ⟨f, env2⟩ t2 ⟨rfl, hf, i2⟩
    simp only at hf
    subst hf
    exact W_for hq l env2 i2 h
/-! ### Euclid's loop -/
theorem W_gcd {mt : Env → M Bool} {b : Env → M (Fl × Env)} {st : Nat → Nat → Env → Prop} {t : Tap} (h1 : ∀ x y env, st x y env → W (mt env) t fun c t1 => t1 = t ∧ c = decide (y ≠ 0))
    (h2 : ∀ x y env, st x y env → y ≠ 0 → W (b env) t fun f t1 => t1 = t ∧ f.1 = .nx ∧ st y (x % y) f.2) :
    ∀ (k n x y : Nat) (env : Env), y < 2 ^ k → 2 * k + 1 ≤ n → st x y env → W (whileL mt b n env) t fun f t1 => t1 = t ∧ f.1 = .nx ∧ st (Nat.gcd x y) 0 f.2 := by
  have one : ∀ (n x y : Nat) (env : Env) (Q : Fl × Env → Tap → Prop), st x y env → (y = 0 → Q (.nx, env) t) → (y ≠ 0 → ∀ env2, st y (x % y) env2 → W (whileL mt b n env2) t Q) → W (whileL mt b (n + 1) env) t Q := by
    intro n x y env Q s q0 q1
    unfold whileL
    rw [W_bnd]
    refine W_mono (h1 x y env s) ?_
    rintro c t1 ⟨rfl, rfl⟩
    rw [W_cond]
    by_cases hy : y = 0
    · rw [if_neg (by simp [hy]), W_ret]; exact q0 hy
    · rw [if_pos (by simp [hy]), W_bnd]
      refine W_mono (h2 x y env s hy) ?_
      rintro ⟨f, env2⟩ t2 ⟨rfl, hf, s2⟩
      simp only at hf
      subst hf
      exact q1 hy env2 s2
  intro k
  induction k with
  | zero =>
    intro n x y env hy hn s
    have y0 : y = 0 := by simpa using hy
    subst y0
    obtain ⟨m, rfl⟩ : ∃ m, n = m + 1 := ⟨n - 1, by omega⟩
    exact one m x 0 env _ s (fun _ => ⟨rfl, rfl, by rw [Nat.gcd_zero_right]; exact s⟩) fun h => absurd rfl h
  | succ k ih =>
    intro n x y env hy hn s
    obtain ⟨m, rfl⟩ : ∃ m, n = m + 2 := ⟨n - 2, by omega⟩
    refine one (m + 1) x y env _ s (fun h => ⟨rfl, rfl, by subst h; rw [Nat.gcd_zero_right]; exact s⟩) fun hy0 env2 s2 => ?_
    have g1 : Nat.gcd x y = Nat.gcd y (x % y) := by rw [Nat.gcd_comm x y, Nat.gcd_rec y x, Nat.gcd_comm]
    rw [g1]
    generalize hr : x % y = r at s2
    have hlt : r < y := by rw [← hr]; exact Nat.mod_lt _ (Nat.pos_of_ne_zero hy0)
    refine one m y r env2 _ s2 (fun h => ⟨rfl, rfl, by subst h; rw [Nat.gcd_zero_right]; exact s2⟩) fun hr0 env3 s3 => ?_
    have g2 : Nat.gcd y r = Nat.gcd r (y % r) := by rw [Nat.gcd_comm y r, Nat.gcd_rec r y, Nat.gcd_comm]
    rw [g2]
    refine ih m r (y % r) env3 ?_ (by omega) s3
    have a1 := Nat.mod_lt y (Nat.pos_of_ne_zero hr0)
    have a2 := Nat.div_add_mod y r
    have a3 : 1 ≤ y / r := Nat.div_pos (Nat.le_of_lt hlt) (Nat.pos_of_ne_zero hr0)
    have a4 : r * 1 ≤ r * (y / r) := Nat.mul_le_mul_left r a3
    rw [Nat.pow_succ] at hy
    omega
theorem turns_eq : turns = 1000000000000 := by unfold turns; rfl
end Mini
namespace Mini
open PySem (PyData Str)
theorem W_if {α : Type} {p : Tap → Prop} [∀ t, Decidable (p t)] {g : Tap → α × Tap} {t : Tap} {Q : α → Tap → Prop} : W (fun t => if p t then some (g t) else none) t Q ↔ p t ∧ Q (g t).1 (g t).2 := by
  constructor
  · rintro ⟨a, t', e, q⟩
    dsimp only at e
    by_cases h : p t
    · rw [if_pos h] at e
      have e := Option.some.inj e
      rw [e]
      exact ⟨h, q⟩
    · rw [if_neg h] at e; cases e
  · rintro ⟨h, q⟩
    exact ⟨(g t).1, (g t).2, if_pos h, q⟩
theorem W_cel {t : Tap} {Q : Val → Tap → Prop} : W (res .cel) t Q ↔ Q (.d (.list t)) t := ⟨fun ⟨_, _, e, q⟩ => by cases e; exact q, fun q => ⟨_, _, rfl, q⟩⟩
theorem W_resd {x : PyData} {t : Tap} {Q : Val → Tap → Prop} : W (res (.d x)) t Q ↔ Q (.d x) t := ⟨fun ⟨_, _, e, q⟩ => by cases e; exact q, fun q => ⟨_, _, rfl, q⟩⟩
theorem W_nums {t : Tap} {Q : Unit → Tap → Prop} {l : List Int} (h : ints? t = some l) : W nums t Q ↔ Q () t := by
  unfold W nums
  simp only [h]
  exact ⟨fun ⟨_, _, e, q⟩ => by cases e; exact q, fun q => ⟨_, _, rfl, q⟩⟩
theorem W_emp {Q : Unit → Tap → Prop} : W emp [] Q ↔ Q () [] := ⟨fun ⟨_, _, e, q⟩ => by cases e; exact q, fun q => ⟨_, _, rfl, q⟩⟩
theorem bop_mul {a b : Int} (h : mulOk a b = true) : bop .mul (.int a) (.int b) = some (.int (a * b)) := by simp [bop, h]
theorem bop_fdiv {a b : Int} (h : divOk b = true) : bop .fdiv (.int a) (.int b) = some (.int (a.fdiv b)) := by simp [bop, h]
theorem bop_mod {a b : Int} (h : b ≠ 0) : bop .mod (.int a) (.int b) = some (.int (a.fmod b)) := by simp [bop, h]
theorem bop_pow {a b : Int} (h : powOk a b = true) : bop .pow (.int a) (.int b) = some (.int (a ^ b.toNat)) := by simp [bop, h]
end Mini
namespace Mini
open PySem (PyData Str)
theorem bop_add {a b : Int} : bop .add (.int a) (.int b) = some (.int (a + b)) := rfl
theorem bop_sub {a b : Int} : bop .sub (.int a) (.int b) = some (.int (a - b)) := rfl
theorem bop_modP {a b : Int} (h : 0 < b) : bop .mod (.int a) (.int b) = some (.int (a % b)) := by
  rw [bop_mod (by omega), Int.fmod_eq_emod_of_nonneg _ (by omega)]
theorem bop_fdivP {a b : Int} (h : 0 < b) (s : Sm b) : bop .fdiv (.int a) (.int b) = some (.int (a / b)) := by
  rw [bop_fdiv (div_ok (by omega) s), Int.fdiv_eq_ediv_of_nonneg _ (by omega)]
theorem bop_mulP {a b : Int} (h : Sm a) (s : Sm b) : bop .mul (.int a) (.int b) = some (.int (a * b)) := bop_mul (mul_ok h s)
theorem sm_of {x : Int} (h : -1000000000000000000000000000000000000000000000000000000000000 ≤ x ∧ x ≤ 1000000000000000000000000000000000000000000000000000000000000) : Sm x := by
  refine sm_le (n := 1000000000000000000000000000000000000000000000000000000000000) (by omega) ?_
  refine Nat.lt_of_lt_of_le (m := 2 ^ 250) (by decide) (Nat.pow_le_pow_right (by decide) (by decide))
theorem bf_lenL {xs : List PyData} : bfun .len [.list xs] = some (.int xs.length) := rfl
theorem bf_lenT {xs : List PyData} : bfun .len [.tuple xs] = some (.int xs.length) := rfl
theorem bf_abs {i : Int} : bfun .abs [.int i] = some (.int (if i < 0 then -i else i)) := rfl
theorem bf_int {i : Int} : bfun .int [.int i] = some (.int i) := rfl
theorem bf_tupL {xs : List PyData} : bfun .tuple [.list xs] = some (.tuple xs) := rfl
theorem bf_tupT {xs : List PyData} : bfun .tuple [.tuple xs] = some (.tuple xs) := rfl
theorem bf_lisL {xs : List PyData} : bfun .list [.list xs] = some (.list xs) := rfl
theorem bf_lisT {xs : List PyData} : bfun .list [.tuple xs] = some (.list xs) := rfl
theorem bf_max {a b : Int} : bfun .max2 [.int a, .int b] = some (.int (if b > a then b else a)) := rfl
theorem bf_min {a b : Int} : bfun .min2 [.int a, .int b] = some (.int (if b < a then b else a)) := rfl
theorem bf_gcd {a b : Int} : bfun .gcd [.int a, .int b] = some (.int (Nat.gcd a.natAbs b.natAbs : Nat)) := rfl
theorem bf_divmod {a b : Int} (h : 0 < b) (h2 : b < 1073741824) : bfun .divmod [.int a, .int b] = some (.tuple [.int (a / b), .int (a % b)]) := by simp [bfun, h, h2]
theorem co_lt {a b : Int} : cop .lt (.int a) (.int b) = some (decide (a < b)) := rfl
theorem co_le {a b : Int} : cop .le (.int a) (.int b) = some (decide (a ≤ b)) := rfl
theorem co_gt {a b : Int} : cop .gt (.int a) (.int b) = some (decide (b < a)) := rfl
theorem co_ge {a b : Int} : cop .ge (.int a) (.int b) = some (decide (b ≤ a)) := rfl
theorem co_eq {a b : Int} : cop .eq (.int a) (.int b) = some (decide (a = b)) := rfl
theorem co_ne {a b : Int} : cop .ne (.int a) (.int b) = some (!decide (a = b)) := rfl
end Mini
namespace Mini
open PySem (PyData Str)
def Is (X : PyData) (t0 : Tap) (v : Val) (t : Tap) : Prop := v = .d X ∧ t = t0
theorem seqL {xs : List PyData} : seq? (.list xs) = some xs := rfl
theorem seqT {xs : List PyData} : seq? (.tuple xs) = some xs := rfl
theorem IL_head {l : List Int} {x : Int} {r : List Int} (h : l = x :: r) : (IL l)[0]? = some (.int x) := by rw [h]; rfl
theorem IL_len (l : List Int) : (IL l).length = l.length := List.length_map _
end Mini
namespace Gm
def low (l : List Int) : List Int := l.map fun x => x / (gL l : Int)
theorem low_mul (l : List Int) : l = (low l).map ((gL l : Int) * ·) := by
  unfold low
  rw [List.map_map]
  conv => lhs; rw [← List.map_id l]
  refine List.map_congr_left fun x hx => ?_
  exact (Int.mul_ediv_cancel' (gL_dvd hx)).symm
theorem fst0_low {l : List Int} (h : gL l ≠ 0) : (0 < fst0 (low l)) ↔ 0 < fst0 l := by
  have e := congrArg fst0 (low_mul l)
  rw [fst0_scale (by omega)] at e
  have gp : (0 : Int) < gL l := by omega
  rw [e]
  constructor
  · exact fun q => Int.mul_pos gp q
  · intro q
    rcases Int.lt_trichotomy (fst0 (low l)) 0 with k | k | k
    · have := Int.mul_neg_of_pos_of_neg gp k
      omega
    · rw [k, Int.mul_zero] at q; omega
    · exact k
theorem gL_le {l : List Int} {x : Int} (h : x ∈ l) (hx : x ≠ 0) : gL l ≤ x.natAbs := Nat.le_of_dvd (by omega) ((gF_dvd l 0).2 x h)
theorem gL_ex {l : List Int} (h : gL l ≠ 0) : ∃ x ∈ l, x ≠ 0 := by
  refine Classical.byContradiction fun c => h ?_
  have all : ∀ (l : List Int), (∀ x ∈ l, x = 0) → gF 0 l = 0 := by
    intro l
    induction l with
    | nil => intro _; rfl
    | cons y l ih =>
      intro h
      have hy := h y List.mem_cons_self
      subst hy
      exact ih fun x hx => h x (List.mem_cons_of_mem _ hx)
  exact all l fun x hx => Classical.byContradiction fun hn => c ⟨x, hx, hn⟩
theorem fst0_filter {l : List Int} (h : gL l ≠ 0) : ∃ r, l.filter (fun x => decide (x ≠ 0)) = fst0 l :: r := by
  have n := fst0_ne h
  unfold fst0 at *
  cases e : l.filter (fun x => decide (x ≠ 0)) with
  | nil => rw [e] at n; exact absurd rfl n
  | cons x r => exact ⟨r, rfl⟩
theorem nrm_low (l : List Int) : nrm l = (low l).map (sg l * ·) := by
  unfold nrm low
  rw [List.map_map]; rfl
theorem low_ne {l : List Int} (h : gL l ≠ 0) : gL (low l) ≠ 0 := by
  have e := congrArg gL (low_mul l)
  rw [gL_scale] at e
  intro z
  rw [z, Nat.mul_zero] at e
  exact h e
end Gm
namespace Mini
open PySem (PyData Str)
theorem eqv_IL : ∀ a b : List Int, PyData.eqvAll (IL a) (IL b) = decide (a = b)
  | [], [] => rfl
  | [], _ :: _ => rfl
  | _ :: _, [] => rfl
  | x :: a, y :: b => by
    rw [IL_cons, IL_cons]
    unfold PyData.eqvAll PyData.eqv
    rw [eqv_IL a b]
    by_cases h : x = y <;> by_cases h2 : a = b <;> simp [h, h2]
theorem can_IL : ∀ a : List Int, PyData.canLayAll0 (IL a) = true
  | [] => by simp [IL, PyData.canLayAll0]
  | x :: a => by rw [IL_cons]; simp [PyData.canLayAll0, PyData.canLay0, can_IL a]
theorem dep_IL : ∀ a : List Int, PyData.depthAll (IL a) = 0
  | [] => by simp [IL, PyData.depthAll]
  | x :: a => by rw [IL_cons]; simp [PyData.depthAll, PyData.depth, dep_IL a]
theorem shT (a : List Int) : PySem.SeqAt.shaped (.tuple (IL a)) = true := by simp [PySem.SeqAt.shaped, PyData.canLay0, can_IL, PyData.depth, dep_IL]
theorem shL (a : List Int) : PySem.SeqAt.shaped (.list (IL a)) = true := by simp [PySem.SeqAt.shaped, PyData.canLay0, can_IL, PyData.depth, dep_IL]
theorem co_eqT {a b : List Int} : cop .eq (.tuple (IL a)) (.tuple (IL b)) = some (decide (a = b)) := by simp [cop, shT, PyData.eqv, eqv_IL]
theorem co_neT {a b : List Int} : cop .ne (.tuple (IL a)) (.tuple (IL b)) = some (!decide (a = b)) := by simp [cop, shT, PyData.eqv, eqv_IL]
theorem co_eqL {a b : List Int} : cop .eq (.list (IL a)) (.list (IL b)) = some (decide (a = b)) := by simp [cop, shL, PyData.eqv, eqv_IL]
theorem co_neL {a b : List Int} : cop .ne (.list (IL a)) (.list (IL b)) = some (!decide (a = b)) := by simp [cop, shL, PyData.eqv, eqv_IL]
theorem co_eqL0 : cop .eq (.list []) (.list []) = some true := co_eqL (a := []) (b := [])
theorem co_neL0 : cop .ne (.list []) (.list []) = some false := co_neL (a := []) (b := [])
theorem co_neL4 {a : List Int} {x y z w : Int} : cop .ne (.list (IL a)) (.list [.int x, .int y, .int z, .int w]) = some (!decide (a = [x, y, z, w])) := co_neL (b := [x, y, z, w])
theorem co_eqT4 {a : List Int} {x y z w : Int} : cop .eq (.tuple (IL a)) (.tuple [.int x, .int y, .int z, .int w]) = some (decide (a = [x, y, z, w])) := co_eqT (b := [x, y, z, w])
theorem bop_addL {xs ys : List PyData} (h : xs.length + ys.length ≤ line) : bop .add (.list xs) (.list ys) = some (.list (xs ++ ys)) := by simp [bop, h]
theorem IL_app (a b : List Int) : IL (a ++ b) = IL a ++ IL b := List.map_append
/-- numbers not too great -/
def Bd (l : List Int) : Prop := ∀ x ∈ l, x.natAbs ≤ 10000000000000000000000000000000000000000000000000000000000
theorem Bd.sm {l : List Int} (h : Bd l) {x : Int} (hx : x ∈ l) : Sm x := sm_of (by have := h x hx; omega)
end Mini
namespace Gm
open Mini
theorem gL_bd {l : List Int} (h : Bd l) : gL l ≤ 10000000000000000000000000000000000000000000000000000000000 := by
  by_cases g : gL l = 0
  · omega
  · obtain ⟨x, hx, hn⟩ := gL_ex g
    exact Nat.le_trans (gL_le hx hn) (h x hx)
theorem gF_app : ∀ (a b : List Int) (g : Nat), gF g (a ++ b) = gF (gF g a) b
  | [], b, g => rfl
  | x :: a, b, g => gF_app a b _
/-- the row with its common part behind it, the sign laid on -/
theorem low_tail {l : List Int} (h : gL l ≠ 0) : (low ((l.map (sg l * ·)) ++ [(gL l : Int)])).take l.length = nrm l ∧ gL ((l.map (sg l * ·)) ++ [(gL l : Int)]) = gL l := by
  have e : gL ((l.map (sg l * ·)) ++ [(gL l : Int)]) = gL l := by
    unfold gL
    rw [gF_app]
    show gF (Nat.gcd (gL (l.map (sg l * ·))) ((gL l : Int)).natAbs) [] = _
    rw [gL_scale]
    have s : (sg l).natAbs = 1 := by unfold sg; split <;> rfl
    rw [s, Nat.one_mul, Int.natAbs_natCast, Nat.gcd_self]
    rfl
  refine ⟨?_, e⟩
  unfold low
  rw [e, List.map_append, List.take_append_of_le_length (by simp), List.take_of_length_le (by simp), List.map_map]
  unfold nrm
  refine List.map_congr_left fun x hx => ?_
  show sg l * x / (gL l : Int) = sg l * (x / (gL l : Int))
  obtain ⟨q, hq⟩ := gL_dvd hx
  have gp : (gL l : Int) ≠ 0 := by omega
  rw [hq, Int.mul_ediv_cancel_left q gp]
  have : sg l * ((gL l : Int) * q) = (gL l : Int) * (sg l * q) := by grind
  rw [this, Int.mul_ediv_cancel_left _ gp]
end Gm
namespace Mini
open PySem (PyData Str)
theorem W_map {as : PyData → M Env} {mt : Env → M Bool} {me : Env → M Val} {t : Tap} (f : Int → Int) (l : List Int) {Q : List PyData → Tap → Prop}
    (h : ∀ x ∈ l, W (as (.int x)) t fun env t1 => t1 = t ∧ W (mt env) t fun b t2 => t2 = t ∧ b = true ∧ W (me env) t fun y t3 => t3 = t ∧ y = .d (.int (f x))) (q : Q (IL (l.map f)) t) : W (evC as mt me (IL l)) t Q := by
  refine W_comp (p := fun _ => true) (f := fun x => .int (f x)) l (fun x hx => W_mono (h x hx) fun env t1 ⟨e, k⟩ => ⟨e, W_mono k fun b t2 ⟨e2, k2, k3⟩ => ⟨e2, k2, fun _ => k3⟩⟩) ?_
  have e : (l.filter fun _ => true).map (fun x => PyData.int (f x)) = IL (l.map f) := by
    rw [List.filter_eq_self.mpr (fun _ _ => rfl)]
    unfold IL
    rw [List.map_map]; rfl
  rw [e]; exact q
theorem W_fil {as : PyData → M Env} {mt : Env → M Bool} {me : Env → M Val} {t : Tap} (p : Int → Bool) (l : List Int) {Q : List PyData → Tap → Prop}
    (h : ∀ x ∈ l, W (as (.int x)) t fun env t1 => t1 = t ∧ W (mt env) t fun b t2 => t2 = t ∧ b = p x ∧ (p x = true → W (me env) t fun y t3 => t3 = t ∧ y = .d (.int x))) (q : Q (IL (l.filter p)) t) : W (evC as mt me (IL l)) t Q :=
  W_comp (p := p) (f := .int) l h q
end Mini
namespace Mini
open PySem (PyData Str)
theorem co_neLL {a b c d x y z w : Int} : cop .ne (.list [.int a, .int b, .int c, .int d]) (.list [.int x, .int y, .int z, .int w]) = some (!decide ([a, b, c, d] = [x, y, z, w])) := co_neL (a := [a, b, c, d]) (b := [x, y, z, w])
end Mini

end

section
set_option Elab.async false
set_option linter.all false
set_option maxHeartbeats 400000
namespace Mini
open PySem (PyData Str)
theorem log_bd {i : Int} (h : i.natAbs ≤ 10000000000000000000000000000000000000000000000000000000000) : i.natAbs.log2 < 1920 := by
  by_cases e : i.natAbs = 0
  · rw [e]; decide
  · exact Nat.lt_of_lt_of_le ((Nat.log2_lt e).mpr (Nat.lt_of_le_of_lt h (by decide : _ < 2 ^ 250))) (by decide)
theorem sum_IL : ∀ (l : List Int), Bd l → ((PyData.shownAll (IL l)).map (·.length)).sum ≤ 1921 * l.length ∧ (PyData.shownAll (IL l)).length = l.length
  | [], _ => by simp [IL, PyData.shownAll]
  | x :: l, h => by
    obtain ⟨h1, h2⟩ := sum_IL l fun y hy => h y (List.mem_cons_of_mem _ hy)
    have hx := PyProof.Rows.int_text_len_1921 (log_bd (h x List.mem_cons_self))
    rw [IL_cons]
    simp only [PyData.shownAll, List.map_cons, List.sum_cons, List.length_cons, PyData.shown]
    constructor
    · have : ((toString x : String) : Str).length ≤ 1921 := hx
      omega
    · rw [h2]
theorem can_show : ∀ (l : List Int), Bd l → PyData.showableAll (IL l) = true
  | [], _ => by simp [IL, PyData.showableAll]
  | x :: l, h => by
    rw [IL_cons]
    simp [PyData.showableAll, PyData.showable, log_bd (h x List.mem_cons_self), can_show l fun y hy => h y (List.mem_cons_of_mem _ hy)]
theorem lenT {l : List Int} (h : Bd l) : (PyData.shown (.tuple (IL l))).length ≤ 1923 * l.length + 3 := by
  obtain ⟨h1, h2⟩ := sum_IL l h
  have := PySem.tupleText_len_le (PyData.shownAll (IL l))
  rw [h2] at this
  simp only [PyData.shown]
  omega
theorem bf_reprT {l : List Int} (h : Bd l) (hl : l.length = 4) : bfun .repr [.tuple (IL l)] = some (.str (PyData.shown (.tuple (IL l)))) := by
  have a := lenT h
  have b : (PyData.shown (.tuple (IL l))).length ≤ line := by unfold line; omega
  simp [bfun, PyData.showable, can_show l h, b, shT]
/-- a pair of rows of four -/
def Pr (u v : List Int) : PyData := .tuple [.tuple (IL u), .tuple (IL v)]
theorem lenP {u v : List Int} (hu : Bd u) (hv : Bd v) (lu : u.length = 4) (lv : v.length = 4) : (PyData.shown (Pr u v)).length ≤ 16000 := by
  have a := lenT hu
  have b := lenT hv
  have c := PySem.tupleText_len_le (PyData.shownAll [.tuple (IL u), .tuple (IL v)])
  simp only [PyData.shownAll, List.map_cons, List.map_nil, List.sum_cons, List.sum_nil, List.length_cons, List.length_nil] at c
  unfold Pr
  have e : PyData.shown (.tuple [.tuple (IL u), .tuple (IL v)]) = PySem.tupleText (PyData.shownAll [.tuple (IL u), .tuple (IL v)]) := by simp only [PyData.shown]
  rw [e]
  simp only [PyData.shownAll]
  omega
theorem bf_reprL {u1 v1 u2 v2 u3 v3 : List Int} (a1 : Bd u1) (a2 : Bd v1) (a3 : Bd u2) (a4 : Bd v2) (a5 : Bd u3) (a6 : Bd v3) (b1 : u1.length = 4) (b2 : v1.length = 4) (b3 : u2.length = 4) (b4 : v2.length = 4) (b5 : u3.length = 4) (b6 : v3.length = 4) :
    bfun .repr [.list [Pr u1 v1, Pr u2 v2, Pr u3 v3]] = some (.str (PyData.shown (.list [Pr u1 v1, Pr u2 v2, Pr u3 v3]))) := by
  have l1 := lenP a1 a2 b1 b2
  have l2 := lenP a3 a4 b3 b4
  have l3 := lenP a5 a6 b5 b6
  have c := PySem.listText_len_le (PyData.shownAll [Pr u1 v1, Pr u2 v2, Pr u3 v3])
  simp only [PyData.shownAll, List.map_cons, List.map_nil, List.sum_cons, List.sum_nil, List.length_cons, List.length_nil] at c
  have e : PyData.shown (.list [Pr u1 v1, Pr u2 v2, Pr u3 v3]) = PySem.listText (PyData.shownAll [Pr u1 v1, Pr u2 v2, Pr u3 v3]) := by simp only [PyData.shown]
  have b : (PyData.shown (.list [Pr u1 v1, Pr u2 v2, Pr u3 v3])).length ≤ line := by
    rw [e]
    simp only [PyData.shownAll]
    unfold line
    omega
  have s : PySem.SeqAt.shaped (.list [Pr u1 v1, Pr u2 v2, Pr u3 v3]) = true := by
    simp [PySem.SeqAt.shaped, Pr, PyData.canLay0, PyData.canLayAll0, can_IL, PyData.depth, PyData.depthAll, dep_IL]
  have w : PyData.showable (.list [Pr u1 v1, Pr u2 v2, Pr u3 v3]) = true := by
    simp [Pr, PyData.showable, PyData.showableAll, can_show _ a1, can_show _ a2, can_show _ a3, can_show _ a4, can_show _ a5, can_show _ a6]
  simp [bfun, w, b, s]
theorem co_eqS {a b : Str} : cop .eq (.str a) (.str b) = some (decide (a = b)) := rfl
end Mini

end

section
set_option Elab.async false
set_option linter.all false
set_option maxHeartbeats 4000000
namespace K29
open Gm
def qp' (a b c d e f g h : Int) : List Int := [a * e - b * f - c * g - d * h, a * f + b * e + c * h - d * g, a * g - b * h + c * e + d * f, a * h + b * g - c * f + d * e]
theorem four {x0 x1 x2 x3 : Int} (h : gL [x0, x1, x2, x3] ≠ 0) : ∃ y0 y1 y2 y3 k, nrm [x0, x1, x2, x3] = [y0, y1, y2, y3] ∧ k ≠ 0 ∧ x0 = k * y0 ∧ x1 = k * y1 ∧ x2 = k * y2 ∧ x3 = k * y3 := by
  have e := nrm_mul [x0, x1, x2, x3]
  refine ⟨_, _, _, _, sg [x0, x1, x2, x3] * (gL [x0, x1, x2, x3] : Int), rfl, Int.mul_ne_zero (sg_ne _) (by omega), ?_⟩
  injection e with e0 e
  injection e with e1 e
  injection e with e2 e
  injection e with e3 e
  exact ⟨e0, e1, e2, e3⟩
theorem key {s q : List Int} {k c : Int} (hs : T s) (hk : k ≠ 0) (hc : c ≠ 0) (e : q.map (k * ·) = s.map (c * ·)) : nrm q = s ∧ gL q ≠ 0 := by
  constructor
  · rw [← nrm_scale hk q, e, nrm_scale hc, nrm_T hs]
  · intro z
    have g := congrArg gL e
    rw [gL_scale, gL_scale, hs.1, z] at g
    omega
theorem ne_of4 {x0 x1 x2 x3 : Int} (h : x0 ≠ 0 ∨ x1 ≠ 0 ∨ x2 ≠ 0 ∨ x3 ≠ 0) : gL [x0, x1, x2, x3] ≠ 0 := by
  rcases h with h | h | h | h
  · exact gL_ne (x := x0) (by simp) h
  · exact gL_ne (x := x1) (by simp) h
  · exact gL_ne (x := x2) (by simp) h
  · exact gL_ne (x := x3) (by simp) h
theorem ne4 {x0 x1 x2 x3 : Int} (h : gL [x0, x1, x2, x3] ≠ 0) : x0 ≠ 0 ∨ x1 ≠ 0 ∨ x2 ≠ 0 ∨ x3 ≠ 0 := by
  obtain ⟨x, hx, hn⟩ := gL_ex h
  simp only [List.mem_cons, List.not_mem_nil, or_false] at hx
  rcases hx with rfl | rfl | rfl | rfl
  · exact .inl hn
  · exact .inr (.inl hn)
  · exact .inr (.inr (.inl hn))
  · exact .inr (.inr (.inr hn))
theorem sq_pos {x : Int} (h : x ≠ 0) : 0 < x * x := by
  rcases Int.lt_or_gt_of_ne h with q | q
  · exact Int.mul_pos_of_neg_of_neg q q
  · exact Int.mul_pos q q
theorem sq_nn (x : Int) : 0 ≤ x * x := by
  by_cases h : x = 0
  · subst h; decide
  · exact Int.le_of_lt (sq_pos h)
/-- the two halves: f a row of three at right angles to the turn's own -/
theorem halves {a b c d f1 f2 f3 : Int} (hs : T [a, b, c, d]) (hf : f1 ≠ 0 ∨ f2 ≠ 0 ∨ f3 ≠ 0) (ho : b * f1 + c * f2 + d * f3 = 0) :
    gL [0, f1, f2, f3] ≠ 0 ∧ gL (qp' a b c d 0 f1 f2 f3) ≠ 0 ∧ ∃ u1 u2 u3 v1 v2 v3, nrm [0, f1, f2, f3] = [0, u1, u2, u3] ∧ nrm (qp' a b c d 0 f1 f2 f3) = [0, v1, v2, v3] ∧
      nrm (qp' 0 v1 v2 v3 0 u1 u2 u3) = [a, b, c, d] ∧ gL (qp' 0 v1 v2 v3 0 u1 u2 u3) ≠ 0 := by
  have hn : f1 * f1 + f2 * f2 + f3 * f3 ≠ 0 := by
    have p1 := sq_nn f1
    have p2 := sq_nn f2
    have p3 := sq_nn f3
    rcases hf with h | h | h
    · have := sq_pos h; omega
    · have := sq_pos h; omega
    · have := sq_pos h; omega
  have g0 : gL [0, f1, f2, f3] ≠ 0 := ne_of4 (.inr hf)
  have hsn := ne4 (x0 := a) (x1 := b) (x2 := c) (x3 := d) (by rw [hs.1]; decide)
  have g1 : gL (qp' a b c d 0 f1 f2 f3) ≠ 0 := by
    intro z
    have zz := (gF_zero _ _ z).2
    unfold qp' at zz
    have z0 := zz _ (List.mem_cons_self)
    have z1 := zz _ (List.mem_cons_of_mem _ (List.mem_cons_self))
    have z2 := zz _ (List.mem_cons_of_mem _ (List.mem_cons_of_mem _ (List.mem_cons_self)))
    have z3 := zz _ (List.mem_cons_of_mem _ (List.mem_cons_of_mem _ (List.mem_cons_of_mem _ (List.mem_cons_self))))
    have ea : (f1 * f1 + f2 * f2 + f3 * f3) * a = 0 := by grind
    have eb : (f1 * f1 + f2 * f2 + f3 * f3) * b = 0 := by grind
    have ec : (f1 * f1 + f2 * f2 + f3 * f3) * c = 0 := by grind
    have ed : (f1 * f1 + f2 * f2 + f3 * f3) * d = 0 := by grind
    rcases hsn with h | h | h | h
    · exact (Int.mul_ne_zero hn h) ea
    · exact (Int.mul_ne_zero hn h) eb
    · exact (Int.mul_ne_zero hn h) ec
    · exact (Int.mul_ne_zero hn h) ed
  refine ⟨g0, g1, ?_⟩
  obtain ⟨u0, u1, u2, u3, k0, eu, hk0, w0, w1, w2, w3⟩ := four g0
  obtain ⟨v0, v1, v2, v3, k1, ev, hk1, x0, x1, x2, x3⟩ := four g1
  have u0z : u0 = 0 := by
    rcases Int.mul_eq_zero.mp w0.symm with h | h
    · exact absurd h hk0
    · exact h
  have v0z : v0 = 0 := by
    have : k1 * v0 = 0 := by rw [← x0]; grind
    rcases Int.mul_eq_zero.mp this with h | h
    · exact absurd h hk1
    · exact h
  subst u0z; subst v0z
  refine ⟨u1, u2, u3, v1, v2, v3, eu, ev, ?_⟩
  have hc : -(f1 * f1 + f2 * f2 + f3 * f3) ≠ 0 := by omega
  refine key hs (Int.mul_ne_zero hk1 hk0) hc ?_
  unfold qp'
  simp only [List.map_cons, List.map_nil]
  have r0 : k1 * k0 * (0 * 0 - v1 * u1 - v2 * u2 - v3 * u3) = -((k1 * v1) * (k0 * u1)) - (k1 * v2) * (k0 * u2) - (k1 * v3) * (k0 * u3) := by grind
  have r1 : k1 * k0 * (0 * u1 + v1 * 0 + v2 * u3 - v3 * u2) = (k1 * v2) * (k0 * u3) - (k1 * v3) * (k0 * u2) := by grind
  have r2 : k1 * k0 * (0 * u2 - v1 * u3 + v2 * 0 + v3 * u1) = -((k1 * v1) * (k0 * u3)) + (k1 * v3) * (k0 * u1) := by grind
  have r3 : k1 * k0 * (0 * u3 + v1 * u2 - v2 * u1 + v3 * 0) = (k1 * v1) * (k0 * u2) - (k1 * v2) * (k0 * u1) := by grind
  rw [r0, r1, r2, r3, ← w1, ← w2, ← w3, ← x1, ← x2, ← x3]
  have t0 : -((a * f1 + b * 0 + c * f3 - d * f2) * f1) - (a * f2 - b * f3 + c * 0 + d * f1) * f2 - (a * f3 + b * f2 - c * f1 + d * 0) * f3 = -(f1 * f1 + f2 * f2 + f3 * f3) * a := by grind
  have t1 : (a * f2 - b * f3 + c * 0 + d * f1) * f3 - (a * f3 + b * f2 - c * f1 + d * 0) * f2 = -(f1 * f1 + f2 * f2 + f3 * f3) * b + f1 * (b * f1 + c * f2 + d * f3) := by grind
  have t2 : -((a * f1 + b * 0 + c * f3 - d * f2) * f3) + (a * f3 + b * f2 - c * f1 + d * 0) * f1 = -(f1 * f1 + f2 * f2 + f3 * f3) * c + f2 * (b * f1 + c * f2 + d * f3) := by grind
  have t3 : (a * f1 + b * 0 + c * f3 - d * f2) * f2 - (a * f2 - b * f3 + c * 0 + d * f1) * f1 = -(f1 * f1 + f2 * f2 + f3 * f3) * d + f3 * (b * f1 + c * f2 + d * f3) := by grind
  rw [t0, t1, t2, t3, ho]
  simp
/-- the linear and the round part -/
theorem parts {a b c d : Int} (hs : T [a, b, c, d]) (hn : a ≠ 0 ∨ d ≠ 0) :
    gL [a * a + d * d, a * b + c * d, a * c - b * d, 0] ≠ 0 ∧ gL [a, 0, 0, d] ≠ 0 ∧ ∃ l0 l1 l2 r0 r3, nrm [a * a + d * d, a * b + c * d, a * c - b * d, 0] = [l0, l1, l2, 0] ∧ nrm [a, 0, 0, d] = [r0, 0, 0, r3] ∧
      nrm (qp' r0 0 0 r3 l0 l1 l2 0) = [a, b, c, d] ∧ gL (qp' r0 0 0 r3 l0 l1 l2 0) ≠ 0 := by
  have nn : a * a + d * d ≠ 0 := by
    have p1 := sq_nn a
    have p2 := sq_nn d
    rcases hn with h | h
    · have := sq_pos h; omega
    · have := sq_pos h; omega
  have g0 : gL [a * a + d * d, a * b + c * d, a * c - b * d, 0] ≠ 0 := ne_of4 (.inl nn)
  have g1 : gL [a, 0, 0, d] ≠ 0 := ne_of4 (hn.elim .inl fun h => .inr (.inr (.inr h)))
  refine ⟨g0, g1, ?_⟩
  obtain ⟨l0, l1, l2, l3, k0, el, hk0, w0, w1, w2, w3⟩ := four g0
  obtain ⟨r0, r1, r2, r3, k1, er, hk1, x0, x1, x2, x3⟩ := four g1
  have z : ∀ {k y : Int}, k ≠ 0 → (0 : Int) = k * y → y = 0 := fun hk e => (Int.mul_eq_zero.mp e.symm).resolve_left hk
  have l3z := z hk0 w3
  have r1z := z hk1 x1
  have r2z := z hk1 x2
  subst l3z; subst r1z; subst r2z
  refine ⟨l0, l1, l2, r0, r3, el, er, ?_⟩
  refine key hs (Int.mul_ne_zero hk1 hk0) nn ?_
  unfold qp'
  simp only [List.map_cons, List.map_nil]
  have q0 : k1 * k0 * (r0 * l0 - 0 * l1 - 0 * l2 - r3 * 0) = (k1 * r0) * (k0 * l0) := by grind
  have q1 : k1 * k0 * (r0 * l1 + 0 * l0 + 0 * 0 - r3 * l2) = (k1 * r0) * (k0 * l1) - (k1 * r3) * (k0 * l2) := by grind
  have q2 : k1 * k0 * (r0 * l2 - 0 * 0 + 0 * l0 + r3 * l1) = (k1 * r0) * (k0 * l2) + (k1 * r3) * (k0 * l1) := by grind
  have q3 : k1 * k0 * (r0 * 0 + 0 * l2 - 0 * l1 + r3 * l0) = (k1 * r3) * (k0 * l0) := by grind
  rw [q0, q1, q2, q3, ← w0, ← w1, ← w2, ← x0, ← x3]
  have t0 : a * (a * a + d * d) = (a * a + d * d) * a := by grind
  have t1 : a * (a * b + c * d) - d * (a * c - b * d) = (a * a + d * d) * b := by grind
  have t2 : a * (a * c - b * d) + d * (a * b + c * d) = (a * a + d * d) * c := by grind
  have t3 : d * (a * a + d * d) = (a * a + d * d) * d := by grind
  rw [t0, t1, t2, t3]
end K29

end

section
set_option Elab.async false
set_option linter.all false
set_option maxRecDepth 100000
set_option maxHeartbeats 2000000
namespace K29
open Mini Gm
open PySem (PyData Str)
def st (a b k : Int) : Tap := [.int a, .int b, .int k]
theorem h0 : S.defs[0]? = some d0 := rfl
theorem p0 : d0.params = (["value"] : List Str) := rfl
theorem h1 : S.defs[1]? = some d1 := rfl
theorem p1 : d1.params = (["value", "many"] : List Str) := rfl
theorem h2 : S.defs[2]? = some d2 := rfl
theorem p2 : d2.params = (["numbers"] : List Str) := rfl
theorem h3 : S.defs[3]? = some d3 := rfl
theorem p3 : d3.params = (["numbers"] : List Str) := rfl
theorem h4 : S.defs[4]? = some d4 := rfl
theorem p4 : d4.params = (["numbers", "below"] : List Str) := rfl
theorem h5 : S.defs[5]? = some d5 := rfl
theorem p5 : d5.params = (["row"] : List Str) := rfl
theorem h6 : S.defs[6]? = some d6 := rfl
theorem p6 : d6.params = (["value"] : List Str) := rfl
theorem h7 : S.defs[7]? = some d7 := rfl
theorem p7 : d7.params = (["value"] : List Str) := rfl
theorem h8 : S.defs[8]? = some d8 := rfl
theorem p8 : d8.params = (["numbers"] : List Str) := rfl
theorem h9 : S.defs[9]? = some d9 := rfl
theorem p9 : d9.params = (["value"] : List Str) := rfl
theorem h10 : S.defs[10]? = some d10 := rfl
theorem p10 : d10.params = (["first", "second"] : List Str) := rfl
theorem h11 : S.defs[11]? = some d11 := rfl
theorem p11 : d11.params = (["turn", "other"] : List Str) := rfl
theorem h12 : S.defs[12]? = some d12 := rfl
theorem p12 : d12.params = (["turn", "other"] : List Str) := rfl
theorem h13 : S.defs[13]? = some d13 := rfl
theorem p13 : d13.params = (["turn"] : List Str) := rfl
theorem h14 : S.defs[14]? = some d14 := rfl
theorem p14 : d14.params = (["turn"] : List Str) := rfl
theorem h15 : S.defs[15]? = some d15 := rfl
theorem p15 : d15.params = (["_law_script", "_law_at"] : List Str) := rfl
theorem h16 : S.defs[16]? = some d16 := rfl
theorem p16 : d16.params = (["_law_source_here", "_law_top"] : List Str) := rfl
theorem h17 : S.defs[17]? = some d17 := rfl
theorem p17 : d17.params = (["_law_source_here", "_law_some"] : List Str) := rfl
theorem h18 : S.defs[18]? = some d18 := rfl
theorem p18 : d18.params = (["_law_source_here", "_law_most"] : List Str) := rfl
theorem h19 : S.defs[19]? = some d19 := rfl
theorem p19 : d19.params = (["_law_row"] : List Str) := rfl
theorem h20 : S.defs[20]? = some d20 := rfl
theorem p20 : d20.params = (["_law_row"] : List Str) := rfl
theorem h21 : S.defs[21]? = some d21 := rfl
theorem p21 : d21.params = (["_law_four"] : List Str) := rfl
theorem h22 : S.defs[22]? = some d22 := rfl
theorem p22 : d22.params = (["_law_one", "_law_two"] : List Str) := rfl
theorem h23 : S.defs[23]? = some d23 := rfl
theorem p23 : d23.params = (["_law_one", "_law_two"] : List Str) := rfl
theorem h24 : S.defs[24]? = some d24 := rfl
theorem p24 : d24.params = (["_law_source_here"] : List Str) := rfl
theorem h25 : S.defs[25]? = some d25 := rfl
theorem p25 : d25.params = (["_law_source_here", "_law_most"] : List Str) := rfl
theorem h26 : S.defs[26]? = some d26 := rfl
theorem p26 : d26.params = (["_law_source_here"] : List Str) := rfl
theorem h27 : S.defs[27]? = some d27 := rfl
theorem p27 : d27.params = (["_law_told", "_law_spin_here"] : List Str) := rfl
theorem h28 : S.defs[28]? = some d28 := rfl
theorem p28 : d28.params = (["_law_source_here"] : List Str) := rfl
theorem h29 : S.defs[29]? = some d29 := rfl
theorem p29 : d29.params = (["_law_script"] : List Str) := rfl
/-- the source stands so that draws go on -/
def Tq (j : Nat) (t : Tap) : Prop := ∃ a b k : Int, t = [.int a, .int b, .int k] ∧ 0 ≤ a ∧ 0 ≤ b ∧ b < 2147483629 ∧ 0 ≤ k ∧ k ≤ j
def DrQ (m : Int) (j : Nat) (v : Val) (t : Tap) : Prop := ∃ f, v = .d (.int f) ∧ 0 ≤ f ∧ f < m ∧ Tq j t
theorem c16 (n j : Nat) (m : Int) (t : Tap) (hm : 0 < m) (hm2 : m < 1073741824) (hj : j < 1000000) (ht : Tq j t) : W (call S (n+1) 16 [.cel, .d (.int m)]) t (DrQ m (j + 1)) := by
  obtain ⟨a, b, k, rfl, ha, hb, hb2, hk, hk2⟩ := ht
  refine W_call rfl rfl ?_
  by_cases h : 0 < a
  · simp [d16, start, Mini.execs, Mini.exec, Mini.tst, Mini.tsts, Mini.ev, Mini.evs, Mini.evP, Mini.evB, Mini.asgn, Mini.asgns, W_bnd, W_ret, W_lft, W_lft0, W_cond, W_if, W_cel, W_resd, W_fail, peek, look, slot, Mini.pk, Mini.evI, Mini.tsts, dats, seqL, seqT, pyAt, bop_add, bop_sub, bop_mulP, bop_modP, bop_fdivP, bf_lenL, bf_lenT, bf_abs, bf_int, bf_tupL, bf_tupT, bf_lisL, bf_lisT, bf_max, bf_min, bf_gcd, co_lt, co_le, co_gt, co_ge, co_eq, co_ne, truth, isTy, int?, Mini.bindKw, h0, p0, h1, p1, h2, p2, h3, p3, h4, p4, h5, p5, h6, p6, h7, p7, h8, p8, h9, p9, h10, p10, h11, p11, h12, p12, h13, p13, h14, p14, h15, p15, h16, p16, h17, p17, h18, p18, h19, p19, h20, p20, h21, p21, h22, p22, h23, p23, h24, p24, h25, p25, h26, p26, h27, p27, h28, p28, h29, p29, h, hm, hm2, bf_divmod]
    exact ⟨_, rfl, Int.emod_nonneg a (by omega), Int.emod_lt_of_pos a hm, _, _, _, rfl, Int.ediv_nonneg ha (Int.le_of_lt hm), hb, hb2, hk, by omega⟩
  · have s1 : Sm b := sm_of (by omega)
    have s2 : Sm 16807 := sm_of (by omega)
    have s3 : Sm (k + 1) := sm_of (by omega)
    have s4 : Sm 65539 := sm_of (by omega)
    have s5 : Sm 11 := sm_of (by omega)
    have s6 : Sm 257 := sm_of (by omega)
    have s7 : Sm 2 := sm_of (by omega)
    have s8 : Sm ((b * 16807 + (k + 1) * 65539) % 2147483587) := sm_of (by omega)
    have s9 : Sm ((b * 16807 + (k + 1) * 65539) % 2147483587 / 11) := sm_of (by omega)
    have s10 : Sm (2 * ((b * 16807 + (k + 1) * 65539) % 2147483587 / 11) + 30011) := sm_of (by omega)
    simp [d16, start, Mini.execs, Mini.exec, Mini.tst, Mini.tsts, Mini.ev, Mini.evs, Mini.evP, Mini.evB, Mini.asgn, Mini.asgns, W_bnd, W_ret, W_lft, W_lft0, W_cond, W_if, W_cel, W_resd, W_fail, peek, look, slot, Mini.pk, Mini.evI, Mini.tsts, dats, seqL, seqT, pyAt, bop_add, bop_sub, bop_mulP, bop_modP, bop_fdivP, bf_lenL, bf_lenT, bf_abs, bf_int, bf_tupL, bf_tupT, bf_lisL, bf_lisT, bf_max, bf_min, bf_gcd, co_lt, co_le, co_gt, co_ge, co_eq, co_ne, truth, isTy, int?, Mini.bindKw, h0, p0, h1, p1, h2, p2, h3, p3, h4, p4, h5, p5, h6, p6, h7, p7, h8, p8, h9, p9, h10, p10, h11, p11, h12, p12, h13, p13, h14, p14, h15, p15, h16, p16, h17, p17, h18, p18, h19, p19, h20, p20, h21, p21, h22, p22, h23, p23, h24, p24, h25, p25, h26, p26, h27, p27, h28, p28, h29, p29, h, hm, s1, s2, s3, s4, s5, s6, s7, s8, s9, s10]
    exact ⟨_, rfl, Int.emod_nonneg _ (by omega), Int.emod_lt_of_pos _ hm, _, _, _, rfl, ha, Int.emod_nonneg _ (by decide), Int.emod_lt_of_pos _ (by decide), by omega, by omega⟩
def up (b c : Int) : List Int := if b ≠ 0 ∨ c ≠ 0 then [c, -b, 0] else [1, 0, 0]
theorem c5 (n : Nat) (b c d : Int) (t : Tap) : W (call S (n+1) 5 [.d (.tuple (IL [b, c, d]))]) t (Is (.tuple (IL (up b c))) t) := by
  refine W_call rfl rfl ?_
  simp [d5, start, IL_cons, IL_nil, Mini.execs, Mini.exec, Mini.tst, Mini.tsts, Mini.ev, Mini.evs, Mini.evP, Mini.evB, Mini.asgn, Mini.asgns, W_bnd, W_ret, W_lft, W_lft0, W_cond, W_if, W_cel, W_resd, W_fail, peek, look, slot, Mini.pk, Mini.evI, Mini.tsts, dats, seqL, seqT, pyAt, bop_add, bop_sub, bop_mulP, bop_modP, bop_fdivP, bf_lenL, bf_lenT, bf_abs, bf_int, bf_tupL, bf_tupT, bf_lisL, bf_lisT, bf_max, bf_min, bf_gcd, co_lt, co_le, co_gt, co_ge, co_eq, co_ne, truth, isTy, int?, Mini.bindKw, h0, p0, h1, p1, h2, p2, h3, p3, h4, p4, h5, p5, h6, p6, h7, p7, h8, p8, h9, p9, h10, p10, h11, p11, h12, p12, h13, p13, h14, p14, h15, p15, h16, p16, h17, p17, h18, p18, h19, p19, h20, p20, h21, p21, h22, p22, h23, p23, h24, p24, h25, p25, h26, p26, h27, p27, h28, p28, h29, p29]
  unfold up
  by_cases h1 : b = 0 <;> by_cases h2 : c = 0 <;> simp [h1, h2] <;> exact ⟨rfl, rfl⟩
theorem c2 (n : Nat) (x : PyData) (l : List Int) (hx : seq? x = some (IL l)) (t : Tap) : W (call S (n+1) 2 [.d x]) t (Is (.int (gL l)) t) := by
  refine W_call rfl rfl ?_
  simp [d2, start, Mini.execs, Mini.exec, Mini.tst, Mini.tsts, Mini.ev, Mini.evs, Mini.evP, Mini.evB, Mini.asgn, Mini.asgns, W_bnd, W_ret, W_lft, W_lft0, W_cond, W_if, W_cel, W_resd, W_fail, peek, look, slot, Mini.pk, Mini.evI, Mini.tsts, dats, seqL, seqT, pyAt, bop_add, bop_sub, bop_mulP, bop_modP, bop_fdivP, bf_lenL, bf_lenT, bf_abs, bf_int, bf_tupL, bf_tupT, bf_lisL, bf_lisT, bf_max, bf_min, bf_gcd, co_lt, co_le, co_gt, co_ge, co_eq, co_ne, truth, isTy, int?, Mini.bindKw, h0, p0, h1, p1, h2, p2, h3, p3, h4, p4, h5, p5, h6, p6, h7, p7, h8, p8, h9, p9, h10, p10, h11, p11, h12, p12, h13, p13, h14, p14, h15, p15, h16, p16, h17, p17, h18, p18, h19, p19, h20, p20, h21, p21, h22, p22, h23, p23, h24, p24, h25, p25, h26, p26, h27, p27, h28, p28, h29, p29, hx]
  refine W_for (I := fun r env => ∃ (g : Nat) (s : Sl), env = [.v (.d x), .v (.d (.int g)), s] ∧ gF g r = gL l) ?_ l _ ⟨0, _, rfl, rfl⟩ ?_
  · rintro env ⟨g, s, rfl, h⟩
    simp [Mini.execs, Mini.exec, Mini.tst, Mini.tsts, Mini.ev, Mini.evs, Mini.evP, Mini.evB, Mini.asgn, Mini.asgns, W_bnd, W_ret, W_lft, W_lft0, W_cond, W_if, W_cel, W_resd, W_fail, peek, look, slot, Mini.pk, Mini.evI, Mini.tsts, dats, seqL, seqT, pyAt, bop_add, bop_sub, bop_mulP, bop_modP, bop_fdivP, bf_lenL, bf_lenT, bf_abs, bf_int, bf_tupL, bf_tupT, bf_lisL, bf_lisT, bf_max, bf_min, bf_gcd, co_lt, co_le, co_gt, co_ge, co_eq, co_ne, truth, isTy, int?, Mini.bindKw, h0, p0, h1, p1, h2, p2, h3, p3, h4, p4, h5, p5, h6, p6, h7, p7, h8, p8, h9, p9, h10, p10, h11, p11, h12, p12, h13, p13, h14, p14, h15, p15, h16, p16, h17, p17, h18, p18, h19, p19, h20, p20, h21, p21, h22, p22, h23, p23, h24, p24, h25, p25, h26, p26, h27, p27, h28, p28, h29, p29]
    exact ⟨by rw [← h]; rfl, rfl⟩
  · rintro y r env ⟨g, s, rfl, h⟩
    simp [Mini.execs, Mini.exec, Mini.tst, Mini.tsts, Mini.ev, Mini.evs, Mini.evP, Mini.evB, Mini.asgn, Mini.asgns, W_bnd, W_ret, W_lft, W_lft0, W_cond, W_if, W_cel, W_resd, W_fail, peek, look, slot, Mini.pk, Mini.evI, Mini.tsts, dats, seqL, seqT, pyAt, bop_add, bop_sub, bop_mulP, bop_modP, bop_fdivP, bf_lenL, bf_lenT, bf_abs, bf_int, bf_tupL, bf_tupT, bf_lisL, bf_lisT, bf_max, bf_min, bf_gcd, co_lt, co_le, co_gt, co_ge, co_eq, co_ne, truth, isTy, int?, Mini.bindKw, h0, p0, h1, p1, h2, p2, h3, p3, h4, p4, h5, p5, h6, p6, h7, p7, h8, p8, h9, p9, h10, p10, h11, p11, h12, p12, h13, p13, h14, p14, h15, p15, h16, p16, h17, p17, h18, p18, h19, p19, h20, p20, h21, p21, h22, p22, h23, p23, h24, p24, h25, p25, h26, p26, h27, p27, h28, p28, h29, p29]
    exact ⟨_, rfl, h⟩
theorem c0 (n : Nat) (x : Int) (t : Tap) : W (call S (n+1) 0 [.d (.int x)]) t (Is (.bool true) t) := by
  refine W_call rfl rfl ?_
  simp [d0, start, Mini.execs, Mini.exec, Mini.tst, Mini.tsts, Mini.ev, Mini.evs, Mini.evP, Mini.evB, Mini.asgn, Mini.asgns, W_bnd, W_ret, W_lft, W_lft0, W_cond, W_if, W_cel, W_resd, W_fail, peek, look, slot, Mini.pk, Mini.evI, Mini.tsts, dats, seqL, seqT, pyAt, bop_add, bop_sub, bop_mulP, bop_modP, bop_fdivP, bf_lenL, bf_lenT, bf_abs, bf_int, bf_tupL, bf_tupT, bf_lisL, bf_lisT, bf_max, bf_min, bf_gcd, co_lt, co_le, co_gt, co_ge, co_eq, co_ne, truth, isTy, int?, Mini.bindKw, h0, p0, h1, p1, h2, p2, h3, p3, h4, p4, h5, p5, h6, p6, h7, p7, h8, p8, h9, p9, h10, p10, h11, p11, h12, p12, h13, p13, h14, p14, h15, p15, h16, p16, h17, p17, h18, p18, h19, p19, h20, p20, h21, p21, h22, p22, h23, p23, h24, p24, h25, p25, h26, p26, h27, p27, h28, p28, h29, p29]
  exact ⟨rfl, rfl⟩
theorem c1 (n : Nat) (l : List Int) (hl : l.length = 4) (t : Tap) : W (call S (n+2) 1 [.d (.tuple (IL l)), .d (.int 4)]) t (Is (.bool true) t) := by
  refine W_call rfl rfl ?_
  simp [d1, start, Mini.execs, Mini.exec, Mini.tst, Mini.tsts, Mini.ev, Mini.evs, Mini.evP, Mini.evB, Mini.asgn, Mini.asgns, W_bnd, W_ret, W_lft, W_lft0, W_cond, W_if, W_cel, W_resd, W_fail, peek, look, slot, Mini.pk, Mini.evI, Mini.tsts, dats, seqL, seqT, pyAt, bop_add, bop_sub, bop_mulP, bop_modP, bop_fdivP, bf_lenL, bf_lenT, bf_abs, bf_int, bf_tupL, bf_tupT, bf_lisL, bf_lisT, bf_max, bf_min, bf_gcd, co_lt, co_le, co_gt, co_ge, co_eq, co_ne, truth, isTy, int?, Mini.bindKw, h0, p0, h1, p1, h2, p2, h3, p3, h4, p4, h5, p5, h6, p6, h7, p7, h8, p8, h9, p9, h10, p10, h11, p11, h12, p12, h13, p13, h14, p14, h15, p15, h16, p16, h17, p17, h18, p18, h19, p19, h20, p20, h21, p21, h22, p22, h23, p23, h24, p24, h25, p25, h26, p26, h27, p27, h28, p28, h29, p29, IL_len, hl]
  refine W_fil (fun _ => false) l ?_ ?_
  · intro x hx
    simp [Mini.execs, Mini.exec, Mini.tst, Mini.tsts, Mini.ev, Mini.evs, Mini.evP, Mini.evB, Mini.asgn, Mini.asgns, W_bnd, W_ret, W_lft, W_lft0, W_cond, W_if, W_cel, W_resd, W_fail, peek, look, slot, Mini.pk, Mini.evI, Mini.tsts, dats, seqL, seqT, pyAt, bop_add, bop_sub, bop_mulP, bop_modP, bop_fdivP, bf_lenL, bf_lenT, bf_abs, bf_int, bf_tupL, bf_tupT, bf_lisL, bf_lisT, bf_max, bf_min, bf_gcd, co_lt, co_le, co_gt, co_ge, co_eq, co_ne, truth, isTy, int?, Mini.bindKw, h0, p0, h1, p1, h2, p2, h3, p3, h4, p4, h5, p5, h6, p6, h7, p7, h8, p8, h9, p9, h10, p10, h11, p11, h12, p12, h13, p13, h14, p14, h15, p15, h16, p16, h17, p17, h18, p18, h19, p19, h20, p20, h21, p21, h22, p22, h23, p23, h24, p24, h25, p25, h26, p26, h27, p27, h28, p28, h29, p29, Mini.gslots, Mini.wipeE]
    refine W_mono (c0 n x t) ?_
    rintro v t' ⟨rfl, rfl⟩
    dsimp only
    first | (simp [W_lft]) | (simp only [Mini.execs, Mini.exec, Mini.tst, Mini.tsts, Mini.ev, Mini.evs, Mini.evP, Mini.evB, Mini.asgn, Mini.asgns, W_bnd, W_ret, W_lft, W_lft0, W_cond, W_if, W_cel, W_resd, W_fail, peek, look, slot, Mini.pk, Mini.evI, Mini.tsts, dats, seqL, seqT, pyAt, bop_add, bop_sub, bop_mulP, bop_modP, bop_fdivP, bf_lenL, bf_lenT, bf_abs, bf_int, bf_tupL, bf_tupT, bf_lisL, bf_lisT, bf_max, bf_min, bf_gcd, co_lt, co_le, co_gt, co_ge, co_eq, co_ne, truth, isTy, int?, Mini.bindKw, h0, p0, h1, p1, h2, p2, h3, p3, h4, p4, h5, p5, h6, p6, h7, p7, h8, p8, h9, p9, h10, p10, h11, p11, h12, p12, h13, p13, h14, p14, h15, p15, h16, p16, h17, p17, h18, p18, h19, p19, h20, p20, h21, p21, h22, p22, h23, p23, h24, p24, h25, p25, h26, p26, h27, p27, h28, p28, h29, p29])
  · have e : l.filter (fun _ => false) = [] := List.filter_eq_nil_iff.mpr (by simp)
    simp [Mini.execs, Mini.exec, Mini.tst, Mini.tsts, Mini.ev, Mini.evs, Mini.evP, Mini.evB, Mini.asgn, Mini.asgns, W_bnd, W_ret, W_lft, W_lft0, W_cond, W_if, W_cel, W_resd, W_fail, peek, look, slot, Mini.pk, Mini.evI, Mini.tsts, dats, seqL, seqT, pyAt, bop_add, bop_sub, bop_mulP, bop_modP, bop_fdivP, bf_lenL, bf_lenT, bf_abs, bf_int, bf_tupL, bf_tupT, bf_lisL, bf_lisT, bf_max, bf_min, bf_gcd, co_lt, co_le, co_gt, co_ge, co_eq, co_ne, truth, isTy, int?, Mini.bindKw, h0, p0, h1, p1, h2, p2, h3, p3, h4, p4, h5, p5, h6, p6, h7, p7, h8, p8, h9, p9, h10, p10, h11, p11, h12, p12, h13, p13, h14, p14, h15, p15, h16, p16, h17, p17, h18, p18, h19, p19, h20, p20, h21, p21, h22, p22, h23, p23, h24, p24, h25, p25, h26, p26, h27, p27, h28, p28, h29, p29, e, IL_nil, co_eqL0]
    exact ⟨rfl, rfl⟩
theorem c3 (n : Nat) (l : List Int) (h : gL l ≠ 0) (hb : Bd l) (t : Tap) : W (call S (n+2) 3 [.d (.list (IL l))]) t (Is (.tuple (IL (low l))) t) := by
  have gs : Sm (gL l : Int) := sm_of (by have := gL_bd hb; omega)
  have gp : (0 : Int) < gL l := by omega
  refine W_call rfl rfl ?_
  simp [d3, start, Mini.execs, Mini.exec, Mini.tst, Mini.tsts, Mini.ev, Mini.evs, Mini.evP, Mini.evB, Mini.asgn, Mini.asgns, W_bnd, W_ret, W_lft, W_lft0, W_cond, W_if, W_cel, W_resd, W_fail, peek, look, slot, Mini.pk, Mini.evI, Mini.tsts, dats, seqL, seqT, pyAt, bop_add, bop_sub, bop_mulP, bop_modP, bop_fdivP, bf_lenL, bf_lenT, bf_abs, bf_int, bf_tupL, bf_tupT, bf_lisL, bf_lisT, bf_max, bf_min, bf_gcd, co_lt, co_le, co_gt, co_ge, co_eq, co_ne, truth, isTy, int?, Mini.bindKw, h0, p0, h1, p1, h2, p2, h3, p3, h4, p4, h5, p5, h6, p6, h7, p7, h8, p8, h9, p9, h10, p10, h11, p11, h12, p12, h13, p13, h14, p14, h15, p15, h16, p16, h17, p17, h18, p18, h19, p19, h20, p20, h21, p21, h22, p22, h23, p23, h24, p24, h25, p25, h26, p26, h27, p27, h28, p28, h29, p29]
  refine W_mono (c2 n (.list (IL l)) l rfl t) ?_
  rintro v t' ⟨rfl, rfl⟩
  refine W_map (fun x => x / (gL l : Int)) l ?_ ?_
  · intro x hx
    simp [Mini.execs, Mini.exec, Mini.tst, Mini.tsts, Mini.ev, Mini.evs, Mini.evP, Mini.evB, Mini.asgn, Mini.asgns, W_bnd, W_ret, W_lft, W_lft0, W_cond, W_if, W_cel, W_resd, W_fail, peek, look, slot, Mini.pk, Mini.evI, Mini.tsts, dats, seqL, seqT, pyAt, bop_add, bop_sub, bop_mulP, bop_modP, bop_fdivP, bf_lenL, bf_lenT, bf_abs, bf_int, bf_tupL, bf_tupT, bf_lisL, bf_lisT, bf_max, bf_min, bf_gcd, co_lt, co_le, co_gt, co_ge, co_eq, co_ne, truth, isTy, int?, Mini.bindKw, h0, p0, h1, p1, h2, p2, h3, p3, h4, p4, h5, p5, h6, p6, h7, p7, h8, p8, h9, p9, h10, p10, h11, p11, h12, p12, h13, p13, h14, p14, h15, p15, h16, p16, h17, p17, h18, p18, h19, p19, h20, p20, h21, p21, h22, p22, h23, p23, h24, p24, h25, p25, h26, p26, h27, p27, h28, p28, h29, p29, Mini.gslots, Mini.wipeE, bop_fdivP gp gs]
  · exact ⟨rfl, rfl⟩
theorem c4 (n : Nat) (l : List Int) (g : Int) (hg : 0 < g) (h : gL (l ++ [g]) ≠ 0) (hb : Bd (l ++ [g])) (hl : l.length ≤ 1000) (t : Tap) : W (call S (n+3) 4 [.d (.list (IL l)), .d (.int g)]) t (Is (.tuple (IL (low (l ++ [g])))) t) := by
  have s1 : Sm 1 := sm_of (by omega)
  have sg' : Sm g := hb.sm (by simp)
  have ll : l.length + 1 ≤ line := by unfold line; omega
  have k3 := c3 n (l ++ [g]) h hb t
  rw [IL_app, IL_cons, IL_nil] at k3
  refine W_call rfl rfl ?_
  simp [d4, start, Mini.execs, Mini.exec, Mini.tst, Mini.tsts, Mini.ev, Mini.evs, Mini.evP, Mini.evB, Mini.asgn, Mini.asgns, W_bnd, W_ret, W_lft, W_lft0, W_cond, W_if, W_cel, W_resd, W_fail, peek, look, slot, Mini.pk, Mini.evI, Mini.tsts, dats, seqL, seqT, pyAt, bop_add, bop_sub, bop_mulP, bop_modP, bop_fdivP, bf_lenL, bf_lenT, bf_abs, bf_int, bf_tupL, bf_tupT, bf_lisL, bf_lisT, bf_max, bf_min, bf_gcd, co_lt, co_le, co_gt, co_ge, co_eq, co_ne, truth, isTy, int?, Mini.bindKw, h0, p0, h1, p1, h2, p2, h3, p3, h4, p4, h5, p5, h6, p6, h7, p7, h8, p8, h9, p9, h10, p10, h11, p11, h12, p12, h13, p13, h14, p14, h15, p15, h16, p16, h17, p17, h18, p18, h19, p19, h20, p20, h21, p21, h22, p22, h23, p23, h24, p24, h25, p25, h26, p26, h27, p27, h28, p28, h29, p29, hg]
  refine W_map (fun x => x) l ?_ ?_
  · intro x hx
    simp [Mini.execs, Mini.exec, Mini.tst, Mini.tsts, Mini.ev, Mini.evs, Mini.evP, Mini.evB, Mini.asgn, Mini.asgns, W_bnd, W_ret, W_lft, W_lft0, W_cond, W_if, W_cel, W_resd, W_fail, peek, look, slot, Mini.pk, Mini.evI, Mini.tsts, dats, seqL, seqT, pyAt, bop_add, bop_sub, bop_mulP, bop_modP, bop_fdivP, bf_lenL, bf_lenT, bf_abs, bf_int, bf_tupL, bf_tupT, bf_lisL, bf_lisT, bf_max, bf_min, bf_gcd, co_lt, co_le, co_gt, co_ge, co_eq, co_ne, truth, isTy, int?, Mini.bindKw, h0, p0, h1, p1, h2, p2, h3, p3, h4, p4, h5, p5, h6, p6, h7, p7, h8, p8, h9, p9, h10, p10, h11, p11, h12, p12, h13, p13, h14, p14, h15, p15, h16, p16, h17, p17, h18, p18, h19, p19, h20, p20, h21, p21, h22, p22, h23, p23, h24, p24, h25, p25, h26, p26, h27, p27, h28, p28, h29, p29, Mini.gslots, Mini.wipeE, s1, hb.sm (List.mem_append_left _ hx)]
  · simp [Mini.execs, Mini.exec, Mini.tst, Mini.tsts, Mini.ev, Mini.evs, Mini.evP, Mini.evB, Mini.asgn, Mini.asgns, W_bnd, W_ret, W_lft, W_lft0, W_cond, W_if, W_cel, W_resd, W_fail, peek, look, slot, Mini.pk, Mini.evI, Mini.tsts, dats, seqL, seqT, pyAt, bop_add, bop_sub, bop_mulP, bop_modP, bop_fdivP, bf_lenL, bf_lenT, bf_abs, bf_int, bf_tupL, bf_tupT, bf_lisL, bf_lisT, bf_max, bf_min, bf_gcd, co_lt, co_le, co_gt, co_ge, co_eq, co_ne, truth, isTy, int?, Mini.bindKw, h0, p0, h1, p1, h2, p2, h3, p3, h4, p4, h5, p5, h6, p6, h7, p7, h8, p8, h9, p9, h10, p10, h11, p11, h12, p12, h13, p13, h14, p14, h15, p15, h16, p16, h17, p17, h18, p18, h19, p19, h20, p20, h21, p21, h22, p22, h23, p23, h24, p24, h25, p25, h26, p26, h27, p27, h28, p28, h29, p29, s1, sg', bop_addL, ll, IL_len]
    exact W_mono k3 fun v t' q => q
theorem c8 (n : Nat) (l : List Int) (h : gL l ≠ 0) (hb : Bd l) (hl : l.length = 4) (t : Tap) : W (call S (n+4) 8 [.d (.tuple (IL l))]) t (Is (.tuple (IL (nrm l))) t) := by
  obtain ⟨r, hr⟩ := fst0_filter h
  obtain ⟨e1, e2⟩ := low_tail h
  have gp : (0 : Int) < gL l := by omega
  have bd : Bd (l.map (sg l * ·) ++ [(gL l : Int)]) := fun x hx => by
    rcases List.mem_append.mp hx with hx | hx
    · obtain ⟨y, hy, rfl⟩ := List.mem_map.mp hx
      have s : (sg l).natAbs = 1 := by unfold sg; split <;> rfl
      rw [Int.natAbs_mul, s, Nat.one_mul]; exact hb y hy
    · rw [List.mem_singleton.mp hx]; have := gL_bd hb; omega
  refine W_call rfl rfl ?_
  simp [d8, start, Mini.execs, Mini.exec, Mini.tst, Mini.tsts, Mini.ev, Mini.evs, Mini.evP, Mini.evB, Mini.asgn, Mini.asgns, W_bnd, W_ret, W_lft, W_lft0, W_cond, W_if, W_cel, W_resd, W_fail, peek, look, slot, Mini.pk, Mini.evI, Mini.tsts, dats, seqL, seqT, pyAt, bop_add, bop_sub, bop_mulP, bop_modP, bop_fdivP, bf_lenL, bf_lenT, bf_abs, bf_int, bf_tupL, bf_tupT, bf_lisL, bf_lisT, bf_max, bf_min, bf_gcd, co_lt, co_le, co_gt, co_ge, co_eq, co_ne, truth, isTy, int?, Mini.bindKw, h0, p0, h1, p1, h2, p2, h3, p3, h4, p4, h5, p5, h6, p6, h7, p7, h8, p8, h9, p9, h10, p10, h11, p11, h12, p12, h13, p13, h14, p14, h15, p15, h16, p16, h17, p17, h18, p18, h19, p19, h20, p20, h21, p21, h22, p22, h23, p23, h24, p24, h25, p25, h26, p26, h27, p27, h28, p28, h29, p29]
  refine W_fil (fun x => decide (x ≠ 0)) l ?_ ?_
  · intro x hx
    by_cases h0 : x = 0 <;> simp [Mini.execs, Mini.exec, Mini.tst, Mini.tsts, Mini.ev, Mini.evs, Mini.evP, Mini.evB, Mini.asgn, Mini.asgns, W_bnd, W_ret, W_lft, W_lft0, W_cond, W_if, W_cel, W_resd, W_fail, peek, look, slot, Mini.pk, Mini.evI, Mini.tsts, dats, seqL, seqT, pyAt, bop_add, bop_sub, bop_mulP, bop_modP, bop_fdivP, bf_lenL, bf_lenT, bf_abs, bf_int, bf_tupL, bf_tupT, bf_lisL, bf_lisT, bf_max, bf_min, bf_gcd, co_lt, co_le, co_gt, co_ge, co_eq, co_ne, truth, isTy, int?, Mini.bindKw, h0, p0, h1, p1, h2, p2, h3, p3, h4, p4, h5, p5, h6, p6, h7, p7, h8, p8, h9, p9, h10, p10, h11, p11, h12, p12, h13, p13, h14, p14, h15, p15, h16, p16, h17, p17, h18, p18, h19, p19, h20, p20, h21, p21, h22, p22, h23, p23, h24, p24, h25, p25, h26, p26, h27, p27, h28, p28, h29, p29, Mini.gslots, Mini.wipeE, h0]
  · have e0 : (IL (List.filter (fun x => !decide (x = 0)) l))[0]? = some (.int (fst0 l)) := by
      have q : (fun x : Int => !decide (x = 0)) = fun x => decide (x ≠ 0) := by funext x; by_cases h : x = 0 <;> simp [h]
      rw [q]
      exact IL_head hr
    have k2 := c2 (n + 2) (.tuple (IL l)) l rfl t
    have k4 := c4 n (l.map (sg l * ·)) (gL l) gp (by rw [e2]; exact h) bd (by simp [hl]) t
    simp [Mini.execs, Mini.exec, Mini.tst, Mini.tsts, Mini.ev, Mini.evs, Mini.evP, Mini.evB, Mini.asgn, Mini.asgns, W_bnd, W_ret, W_lft, W_lft0, W_cond, W_if, W_cel, W_resd, W_fail, peek, look, slot, Mini.pk, Mini.evI, Mini.tsts, dats, seqL, seqT, pyAt, bop_add, bop_sub, bop_mulP, bop_modP, bop_fdivP, bf_lenL, bf_lenT, bf_abs, bf_int, bf_tupL, bf_tupT, bf_lisL, bf_lisT, bf_max, bf_min, bf_gcd, co_lt, co_le, co_gt, co_ge, co_eq, co_ne, truth, isTy, int?, Mini.bindKw, h0, p0, h1, p1, h2, p2, h3, p3, h4, p4, h5, p5, h6, p6, h7, p7, h8, p8, h9, p9, h10, p10, h11, p11, h12, p12, h13, p13, h14, p14, h15, p15, h16, p16, h17, p17, h18, p18, h19, p19, h20, p20, h21, p21, h22, p22, h23, p23, h24, p24, h25, p25, h26, p26, h27, p27, h28, p28, h29, p29, e0]
    refine W_map (fun x => sg l * x) l ?_ ?_
    · intro x hx
      unfold sg
      by_cases hp : 0 < fst0 l <;> simp [Mini.execs, Mini.exec, Mini.tst, Mini.tsts, Mini.ev, Mini.evs, Mini.evP, Mini.evB, Mini.asgn, Mini.asgns, W_bnd, W_ret, W_lft, W_lft0, W_cond, W_if, W_cel, W_resd, W_fail, peek, look, slot, Mini.pk, Mini.evI, Mini.tsts, dats, seqL, seqT, pyAt, bop_add, bop_sub, bop_mulP, bop_modP, bop_fdivP, bf_lenL, bf_lenT, bf_abs, bf_int, bf_tupL, bf_tupT, bf_lisL, bf_lisT, bf_max, bf_min, bf_gcd, co_lt, co_le, co_gt, co_ge, co_eq, co_ne, truth, isTy, int?, Mini.bindKw, h0, p0, h1, p1, h2, p2, h3, p3, h4, p4, h5, p5, h6, p6, h7, p7, h8, p8, h9, p9, h10, p10, h11, p11, h12, p12, h13, p13, h14, p14, h15, p15, h16, p16, h17, p17, h18, p18, h19, p19, h20, p20, h21, p21, h22, p22, h23, p23, h24, p24, h25, p25, h26, p26, h27, p27, h28, p28, h29, p29, Mini.gslots, Mini.wipeE, hp]
    · refine W_mono k2 ?_
      rintro v t' ⟨rfl, rfl⟩
      refine W_mono k4 ?_
      rintro v t'' ⟨rfl, rfl⟩
      have e9 : cutD (.tuple (IL (low (l.map (sg l * ·) ++ [(gL l : Int)])))) none (some 4) = some (.tuple (IL (nrm l))) := by
        show some (PyData.tuple (((IL _).drop 0).take (min 4 _ - 0))) = _
        rw [List.drop_zero, Nat.sub_zero, ← e1, hl, IL_len]
        have ll : (low (l.map (sg l * ·) ++ [(gL l : Int)])).length = 5 := by unfold low; simp [hl]
        rw [ll]
        unfold IL
        rw [List.map_take]
        rfl
      simp [Mini.execs, Mini.exec, Mini.tst, Mini.tsts, Mini.ev, Mini.evs, Mini.evP, Mini.evB, Mini.asgn, Mini.asgns, W_bnd, W_ret, W_lft, W_lft0, W_cond, W_if, W_cel, W_resd, W_fail, peek, look, slot, Mini.pk, Mini.evI, Mini.tsts, dats, seqL, seqT, pyAt, bop_add, bop_sub, bop_mulP, bop_modP, bop_fdivP, bf_lenL, bf_lenT, bf_abs, bf_int, bf_tupL, bf_tupT, bf_lisL, bf_lisT, bf_max, bf_min, bf_gcd, co_lt, co_le, co_gt, co_ge, co_eq, co_ne, truth, isTy, int?, Mini.bindKw, h0, p0, h1, p1, h2, p2, h3, p3, h4, p4, h5, p5, h6, p6, h7, p7, h8, p8, h9, p9, h10, p10, h11, p11, h12, p12, h13, p13, h14, p14, h15, p15, h16, p16, h17, p17, h18, p18, h19, p19, h20, p20, h21, p21, h22, p22, h23, p23, h24, p24, h25, p25, h26, p26, h27, p27, h28, p28, h29, p29, e9]
      exact ⟨rfl, rfl⟩
theorem c6 (n : Nat) (l : List Int) (h : T l) (hl : l.length = 4) (t : Tap) : W (call S (n+3) 6 [.d (.tuple (IL l))]) t (Is (.bool true) t) := by
  have g0 : gL l ≠ 0 := by rw [h.1]; decide
  obtain ⟨r, hr⟩ := fst0_filter g0
  have e0 : (IL (List.filter (fun x => !decide (x = 0)) l))[0]? = some (.int (fst0 l)) := by
    have q : (fun x : Int => !decide (x = 0)) = fun x => decide (x ≠ 0) := by funext x; by_cases h : x = 0 <;> simp [h]
    rw [q]
    exact IL_head hr
  refine W_call rfl rfl ?_
  simp [d6, start, Mini.execs, Mini.exec, Mini.tst, Mini.tsts, Mini.ev, Mini.evs, Mini.evP, Mini.evB, Mini.asgn, Mini.asgns, W_bnd, W_ret, W_lft, W_lft0, W_cond, W_if, W_cel, W_resd, W_fail, peek, look, slot, Mini.pk, Mini.evI, Mini.tsts, dats, seqL, seqT, pyAt, bop_add, bop_sub, bop_mulP, bop_modP, bop_fdivP, bf_lenL, bf_lenT, bf_abs, bf_int, bf_tupL, bf_tupT, bf_lisL, bf_lisT, bf_max, bf_min, bf_gcd, co_lt, co_le, co_gt, co_ge, co_eq, co_ne, truth, isTy, int?, Mini.bindKw, h0, p0, h1, p1, h2, p2, h3, p3, h4, p4, h5, p5, h6, p6, h7, p7, h8, p8, h9, p9, h10, p10, h11, p11, h12, p12, h13, p13, h14, p14, h15, p15, h16, p16, h17, p17, h18, p18, h19, p19, h20, p20, h21, p21, h22, p22, h23, p23, h24, p24, h25, p25, h26, p26, h27, p27, h28, p28, h29, p29]
  refine W_mono (c1 n l hl t) ?_
  rintro v t' ⟨rfl, rfl⟩
  simp [Mini.execs, Mini.exec, Mini.tst, Mini.tsts, Mini.ev, Mini.evs, Mini.evP, Mini.evB, Mini.asgn, Mini.asgns, W_bnd, W_ret, W_lft, W_lft0, W_cond, W_if, W_cel, W_resd, W_fail, peek, look, slot, Mini.pk, Mini.evI, Mini.tsts, dats, seqL, seqT, pyAt, bop_add, bop_sub, bop_mulP, bop_modP, bop_fdivP, bf_lenL, bf_lenT, bf_abs, bf_int, bf_tupL, bf_tupT, bf_lisL, bf_lisT, bf_max, bf_min, bf_gcd, co_lt, co_le, co_gt, co_ge, co_eq, co_ne, truth, isTy, int?, Mini.bindKw, h0, p0, h1, p1, h2, p2, h3, p3, h4, p4, h5, p5, h6, p6, h7, p7, h8, p8, h9, p9, h10, p10, h11, p11, h12, p12, h13, p13, h14, p14, h15, p15, h16, p16, h17, p17, h18, p18, h19, p19, h20, p20, h21, p21, h22, p22, h23, p23, h24, p24, h25, p25, h26, p26, h27, p27, h28, p28, h29, p29]
  refine W_mono (c2 (n + 1) (.tuple (IL l)) l rfl t') ?_
  rintro v t'' ⟨rfl, rfl⟩
  simp [Mini.execs, Mini.exec, Mini.tst, Mini.tsts, Mini.ev, Mini.evs, Mini.evP, Mini.evB, Mini.asgn, Mini.asgns, W_bnd, W_ret, W_lft, W_lft0, W_cond, W_if, W_cel, W_resd, W_fail, peek, look, slot, Mini.pk, Mini.evI, Mini.tsts, dats, seqL, seqT, pyAt, bop_add, bop_sub, bop_mulP, bop_modP, bop_fdivP, bf_lenL, bf_lenT, bf_abs, bf_int, bf_tupL, bf_tupT, bf_lisL, bf_lisT, bf_max, bf_min, bf_gcd, co_lt, co_le, co_gt, co_ge, co_eq, co_ne, truth, isTy, int?, Mini.bindKw, h0, p0, h1, p1, h2, p2, h3, p3, h4, p4, h5, p5, h6, p6, h7, p7, h8, p8, h9, p9, h10, p10, h11, p11, h12, p12, h13, p13, h14, p14, h15, p15, h16, p16, h17, p17, h18, p18, h19, p19, h20, p20, h21, p21, h22, p22, h23, p23, h24, p24, h25, p25, h26, p26, h27, p27, h28, p28, h29, p29, h.1]
  refine W_fil (fun x => decide (x ≠ 0)) l ?_ ?_
  · intro x hx
    by_cases h0 : x = 0 <;> simp [Mini.execs, Mini.exec, Mini.tst, Mini.tsts, Mini.ev, Mini.evs, Mini.evP, Mini.evB, Mini.asgn, Mini.asgns, W_bnd, W_ret, W_lft, W_lft0, W_cond, W_if, W_cel, W_resd, W_fail, peek, look, slot, Mini.pk, Mini.evI, Mini.tsts, dats, seqL, seqT, pyAt, bop_add, bop_sub, bop_mulP, bop_modP, bop_fdivP, bf_lenL, bf_lenT, bf_abs, bf_int, bf_tupL, bf_tupT, bf_lisL, bf_lisT, bf_max, bf_min, bf_gcd, co_lt, co_le, co_gt, co_ge, co_eq, co_ne, truth, isTy, int?, Mini.bindKw, h0, p0, h1, p1, h2, p2, h3, p3, h4, p4, h5, p5, h6, p6, h7, p7, h8, p8, h9, p9, h10, p10, h11, p11, h12, p12, h13, p13, h14, p14, h15, p15, h16, p16, h17, p17, h18, p18, h19, p19, h20, p20, h21, p21, h22, p22, h23, p23, h24, p24, h25, p25, h26, p26, h27, p27, h28, p28, h29, p29, Mini.gslots, Mini.wipeE, h0]
  · simp [Mini.execs, Mini.exec, Mini.tst, Mini.tsts, Mini.ev, Mini.evs, Mini.evP, Mini.evB, Mini.asgn, Mini.asgns, W_bnd, W_ret, W_lft, W_lft0, W_cond, W_if, W_cel, W_resd, W_fail, peek, look, slot, Mini.pk, Mini.evI, Mini.tsts, dats, seqL, seqT, pyAt, bop_add, bop_sub, bop_mulP, bop_modP, bop_fdivP, bf_lenL, bf_lenT, bf_abs, bf_int, bf_tupL, bf_tupT, bf_lisL, bf_lisT, bf_max, bf_min, bf_gcd, co_lt, co_le, co_gt, co_ge, co_eq, co_ne, truth, isTy, int?, Mini.bindKw, h0, p0, h1, p1, h2, p2, h3, p3, h4, p4, h5, p5, h6, p6, h7, p7, h8, p8, h9, p9, h10, p10, h11, p11, h12, p12, h13, p13, h14, p14, h15, p15, h16, p16, h17, p17, h18, p18, h19, p19, h20, p20, h21, p21, h22, p22, h23, p23, h24, p24, h25, p25, h26, p26, h27, p27, h28, p28, h29, p29, e0]
    exact ⟨by rw [decide_eq_true h.2], rfl⟩
theorem c9 (n : Nat) (l : List Int) (h : T l) (hl : l.length = 4) (t : Tap) : W (call S (n+4) 9 [.d (.tuple (IL l))]) t (Is (.bool true) t) := by
  refine W_call rfl rfl ?_
  simp [d9, start, Mini.execs, Mini.exec, Mini.tst, Mini.tsts, Mini.ev, Mini.evs, Mini.evP, Mini.evB, Mini.asgn, Mini.asgns, W_bnd, W_ret, W_lft, W_lft0, W_cond, W_if, W_cel, W_resd, W_fail, peek, look, slot, Mini.pk, Mini.evI, Mini.tsts, dats, seqL, seqT, pyAt, bop_add, bop_sub, bop_mulP, bop_modP, bop_fdivP, bf_lenL, bf_lenT, bf_abs, bf_int, bf_tupL, bf_tupT, bf_lisL, bf_lisT, bf_max, bf_min, bf_gcd, co_lt, co_le, co_gt, co_ge, co_eq, co_ne, truth, isTy, int?, Mini.bindKw, h0, p0, h1, p1, h2, p2, h3, p3, h4, p4, h5, p5, h6, p6, h7, p7, h8, p8, h9, p9, h10, p10, h11, p11, h12, p12, h13, p13, h14, p14, h15, p15, h16, p16, h17, p17, h18, p18, h19, p19, h20, p20, h21, p21, h22, p22, h23, p23, h24, p24, h25, p25, h26, p26, h27, p27, h28, p28, h29, p29]
  exact W_mono (c6 n l h hl t) fun v t' q => q
theorem c7 (n : Nat) (l : List Int) (h : T l) (hl : l.length = 4) (t : Tap) : W (call S (n+4) 7 [.d (.tuple (IL l))]) t (Is .none t) := by
  refine W_call rfl rfl ?_
  simp [d7, start, Mini.execs, Mini.exec, Mini.tst, Mini.tsts, Mini.ev, Mini.evs, Mini.evP, Mini.evB, Mini.asgn, Mini.asgns, W_bnd, W_ret, W_lft, W_lft0, W_cond, W_if, W_cel, W_resd, W_fail, peek, look, slot, Mini.pk, Mini.evI, Mini.tsts, dats, seqL, seqT, pyAt, bop_add, bop_sub, bop_mulP, bop_modP, bop_fdivP, bf_lenL, bf_lenT, bf_abs, bf_int, bf_tupL, bf_tupT, bf_lisL, bf_lisT, bf_max, bf_min, bf_gcd, co_lt, co_le, co_gt, co_ge, co_eq, co_ne, truth, isTy, int?, Mini.bindKw, h0, p0, h1, p1, h2, p2, h3, p3, h4, p4, h5, p5, h6, p6, h7, p7, h8, p8, h9, p9, h10, p10, h11, p11, h12, p12, h13, p13, h14, p14, h15, p15, h16, p16, h17, p17, h18, p18, h19, p19, h20, p20, h21, p21, h22, p22, h23, p23, h24, p24, h25, p25, h26, p26, h27, p27, h28, p28, h29, p29]
  refine W_mono (c6 n l h hl t) ?_
  rintro v t' ⟨rfl, rfl⟩
  simp [Mini.execs, Mini.exec, Mini.tst, Mini.tsts, Mini.ev, Mini.evs, Mini.evP, Mini.evB, Mini.asgn, Mini.asgns, W_bnd, W_ret, W_lft, W_lft0, W_cond, W_if, W_cel, W_resd, W_fail, peek, look, slot, Mini.pk, Mini.evI, Mini.tsts, dats, seqL, seqT, pyAt, bop_add, bop_sub, bop_mulP, bop_modP, bop_fdivP, bf_lenL, bf_lenT, bf_abs, bf_int, bf_tupL, bf_tupT, bf_lisL, bf_lisT, bf_max, bf_min, bf_gcd, co_lt, co_le, co_gt, co_ge, co_eq, co_ne, truth, isTy, int?, Mini.bindKw, h0, p0, h1, p1, h2, p2, h3, p3, h4, p4, h5, p5, h6, p6, h7, p7, h8, p8, h9, p9, h10, p10, h11, p11, h12, p12, h13, p13, h14, p14, h15, p15, h16, p16, h17, p17, h18, p18, h19, p19, h20, p20, h21, p21, h22, p22, h23, p23, h24, p24, h25, p25, h26, p26, h27, p27, h28, p28, h29, p29]
  exact ⟨rfl, rfl⟩
def qp (a b c d e f g h : Int) : List Int := [a * e - b * f - c * g - d * h, a * f + b * e + c * h - d * g, a * g - b * h + c * e + d * f, a * h + b * g - c * f + d * e]
theorem c10 (n : Nat) (a b c d e f g h : Int) (sa : Sm a) (sb : Sm b) (sc : Sm c) (sd : Sm d) (se : Sm e) (sf : Sm f) (sg' : Sm g) (sh : Sm h) (t : Tap) : W (call S (n+1) 10 [.d (.tuple (IL [a, b, c, d])), .d (.tuple (IL [e, f, g, h]))]) t (Is (.tuple (IL (qp a b c d e f g h))) t) := by
  refine W_call rfl rfl ?_
  simp [d10, start, IL_cons, IL_nil, Mini.execs, Mini.exec, Mini.tst, Mini.tsts, Mini.ev, Mini.evs, Mini.evP, Mini.evB, Mini.asgn, Mini.asgns, W_bnd, W_ret, W_lft, W_lft0, W_cond, W_if, W_cel, W_resd, W_fail, peek, look, slot, Mini.pk, Mini.evI, Mini.tsts, dats, seqL, seqT, pyAt, bop_add, bop_sub, bop_mulP, bop_modP, bop_fdivP, bf_lenL, bf_lenT, bf_abs, bf_int, bf_tupL, bf_tupT, bf_lisL, bf_lisT, bf_max, bf_min, bf_gcd, co_lt, co_le, co_gt, co_ge, co_eq, co_ne, truth, isTy, int?, Mini.bindKw, h0, p0, h1, p1, h2, p2, h3, p3, h4, p4, h5, p5, h6, p6, h7, p7, h8, p8, h9, p9, h10, p10, h11, p11, h12, p12, h13, p13, h14, p14, h15, p15, h16, p16, h17, p17, h18, p18, h19, p19, h20, p20, h21, p21, h22, p22, h23, p23, h24, p24, h25, p25, h26, p26, h27, p27, h28, p28, h29, p29, sa, sb, sc, sd, se, sf, sg', sh]
  exact ⟨rfl, rfl⟩
theorem c22 (n : Nat) (a b c d e f g h : Int) (sa : Sm a) (sb : Sm b) (sc : Sm c) (sd : Sm d) (se : Sm e) (sf : Sm f) (sg' : Sm g) (sh : Sm h) (t : Tap) : W (call S (n+1) 22 [.d (.tuple (IL [a, b, c, d])), .d (.tuple (IL [e, f, g, h]))]) t (Is (.tuple (IL (qp a b c d e f g h))) t) := by
  refine W_call rfl rfl ?_
  simp [d22, start, IL_cons, IL_nil, Mini.execs, Mini.exec, Mini.tst, Mini.tsts, Mini.ev, Mini.evs, Mini.evP, Mini.evB, Mini.asgn, Mini.asgns, W_bnd, W_ret, W_lft, W_lft0, W_cond, W_if, W_cel, W_resd, W_fail, peek, look, slot, Mini.pk, Mini.evI, Mini.tsts, dats, seqL, seqT, pyAt, bop_add, bop_sub, bop_mulP, bop_modP, bop_fdivP, bf_lenL, bf_lenT, bf_abs, bf_int, bf_tupL, bf_tupT, bf_lisL, bf_lisT, bf_max, bf_min, bf_gcd, co_lt, co_le, co_gt, co_ge, co_eq, co_ne, truth, isTy, int?, Mini.bindKw, h0, p0, h1, p1, h2, p2, h3, p3, h4, p4, h5, p5, h6, p6, h7, p7, h8, p8, h9, p9, h10, p10, h11, p11, h12, p12, h13, p13, h14, p14, h15, p15, h16, p16, h17, p17, h18, p18, h19, p19, h20, p20, h21, p21, h22, p22, h23, p23, h24, p24, h25, p25, h26, p26, h27, p27, h28, p28, h29, p29, sa, sb, sc, sd, se, sf, sg', sh]
  exact ⟨rfl, rfl⟩
theorem c19 (n : Nat) (x : PyData) (l : List Int) (hx : seq? x = some (IL l)) (hb : Bd l) (t : Tap) : W (call S (n+1) 19 [.d x]) t (Is (.int (gL l)) t) := by
  refine W_call rfl rfl ?_
  simp [d19, start, Mini.execs, Mini.exec, Mini.tst, Mini.tsts, Mini.ev, Mini.evs, Mini.evP, Mini.evB, Mini.asgn, Mini.asgns, W_bnd, W_ret, W_lft, W_lft0, W_cond, W_if, W_cel, W_resd, W_fail, peek, look, slot, Mini.pk, Mini.evI, Mini.tsts, dats, seqL, seqT, pyAt, bop_add, bop_sub, bop_mulP, bop_modP, bop_fdivP, bf_lenL, bf_lenT, bf_abs, bf_int, bf_tupL, bf_tupT, bf_lisL, bf_lisT, bf_max, bf_min, bf_gcd, co_lt, co_le, co_gt, co_ge, co_eq, co_ne, truth, isTy, int?, Mini.bindKw, h0, p0, h1, p1, h2, p2, h3, p3, h4, p4, h5, p5, h6, p6, h7, p7, h8, p8, h9, p9, h10, p10, h11, p11, h12, p12, h13, p13, h14, p14, h15, p15, h16, p16, h17, p17, h18, p18, h19, p19, h20, p20, h21, p21, h22, p22, h23, p23, h24, p24, h25, p25, h26, p26, h27, p27, h28, p28, h29, p29, hx]
  refine W_for (I := fun r env => ∃ (g : Nat) (s1 s2 s3 : Sl), env = [.v (.d x), .v (.d (.int g)), s1, s2, s3] ∧ gF g r = gL l ∧ (∀ y ∈ r, y ∈ l)) ?_ l _ ⟨0, _, _, _, rfl, rfl, fun _ h => h⟩ ?_
  · rintro env ⟨g, s1, s2, s3, rfl, h, _⟩
    simp [Mini.execs, Mini.exec, Mini.tst, Mini.tsts, Mini.ev, Mini.evs, Mini.evP, Mini.evB, Mini.asgn, Mini.asgns, W_bnd, W_ret, W_lft, W_lft0, W_cond, W_if, W_cel, W_resd, W_fail, peek, look, slot, Mini.pk, Mini.evI, Mini.tsts, dats, seqL, seqT, pyAt, bop_add, bop_sub, bop_mulP, bop_modP, bop_fdivP, bf_lenL, bf_lenT, bf_abs, bf_int, bf_tupL, bf_tupT, bf_lisL, bf_lisT, bf_max, bf_min, bf_gcd, co_lt, co_le, co_gt, co_ge, co_eq, co_ne, truth, isTy, int?, Mini.bindKw, h0, p0, h1, p1, h2, p2, h3, p3, h4, p4, h5, p5, h6, p6, h7, p7, h8, p8, h9, p9, h10, p10, h11, p11, h12, p12, h13, p13, h14, p14, h15, p15, h16, p16, h17, p17, h18, p18, h19, p19, h20, p20, h21, p21, h22, p22, h23, p23, h24, p24, h25, p25, h26, p26, h27, p27, h28, p28, h29, p29]
    exact ⟨by rw [← h]; rfl, rfl⟩
  · rintro y r env ⟨g, s1, s2, s3, rfl, h, hm⟩
    have hy := hb y (hm y List.mem_cons_self)
    have ab : (if y < 0 then -y else y) = (y.natAbs : Int) := by split <;> omega
    simp [Mini.execs, Mini.exec, Mini.tst, Mini.tsts, Mini.ev, Mini.evs, Mini.evP, Mini.evB, Mini.asgn, Mini.asgns, W_bnd, W_ret, W_lft, W_lft0, W_cond, W_if, W_cel, W_resd, W_fail, peek, look, slot, Mini.pk, Mini.evI, Mini.tsts, dats, seqL, seqT, pyAt, bop_add, bop_sub, bop_mulP, bop_modP, bop_fdivP, bf_lenL, bf_lenT, bf_abs, bf_int, bf_tupL, bf_tupT, bf_lisL, bf_lisT, bf_max, bf_min, bf_gcd, co_lt, co_le, co_gt, co_ge, co_eq, co_ne, truth, isTy, int?, Mini.bindKw, h0, p0, h1, p1, h2, p2, h3, p3, h4, p4, h5, p5, h6, p6, h7, p7, h8, p8, h9, p9, h10, p10, h11, p11, h12, p12, h13, p13, h14, p14, h15, p15, h16, p16, h17, p17, h18, p18, h19, p19, h20, p20, h21, p21, h22, p22, h23, p23, h24, p24, h25, p25, h26, p26, h27, p27, h28, p28, h29, p29, ab]
    refine W_mono (W_gcd (st := fun u v env => env = [.v (.d x), .v (.d (.int g)), .v (.d (.int y)), .v (.d (.int (u : Nat))), .v (.d (.int (v : Nat)))]) ?_ ?_ 250 turns g y.natAbs _ ?_ ?_ rfl) ?_
    · rintro u v env rfl
      simp [Mini.execs, Mini.exec, Mini.tst, Mini.tsts, Mini.ev, Mini.evs, Mini.evP, Mini.evB, Mini.asgn, Mini.asgns, W_bnd, W_ret, W_lft, W_lft0, W_cond, W_if, W_cel, W_resd, W_fail, peek, look, slot, Mini.pk, Mini.evI, Mini.tsts, dats, seqL, seqT, pyAt, bop_add, bop_sub, bop_mulP, bop_modP, bop_fdivP, bf_lenL, bf_lenT, bf_abs, bf_int, bf_tupL, bf_tupT, bf_lisL, bf_lisT, bf_max, bf_min, bf_gcd, co_lt, co_le, co_gt, co_ge, co_eq, co_ne, truth, isTy, int?, Mini.bindKw, h0, p0, h1, p1, h2, p2, h3, p3, h4, p4, h5, p5, h6, p6, h7, p7, h8, p8, h9, p9, h10, p10, h11, p11, h12, p12, h13, p13, h14, p14, h15, p15, h16, p16, h17, p17, h18, p18, h19, p19, h20, p20, h21, p21, h22, p22, h23, p23, h24, p24, h25, p25, h26, p26, h27, p27, h28, p28, h29, p29]
    · rintro u v env rfl hv
      have hv' : (0 : Int) < v := by omega
      simp [Mini.execs, Mini.exec, Mini.tst, Mini.tsts, Mini.ev, Mini.evs, Mini.evP, Mini.evB, Mini.asgn, Mini.asgns, W_bnd, W_ret, W_lft, W_lft0, W_cond, W_if, W_cel, W_resd, W_fail, peek, look, slot, Mini.pk, Mini.evI, Mini.tsts, dats, seqL, seqT, pyAt, bop_add, bop_sub, bop_mulP, bop_modP, bop_fdivP, bf_lenL, bf_lenT, bf_abs, bf_int, bf_tupL, bf_tupT, bf_lisL, bf_lisT, bf_max, bf_min, bf_gcd, co_lt, co_le, co_gt, co_ge, co_eq, co_ne, truth, isTy, int?, Mini.bindKw, h0, p0, h1, p1, h2, p2, h3, p3, h4, p4, h5, p5, h6, p6, h7, p7, h8, p8, h9, p9, h10, p10, h11, p11, h12, p12, h13, p13, h14, p14, h15, p15, h16, p16, h17, p17, h18, p18, h19, p19, h20, p20, h21, p21, h22, p22, h23, p23, h24, p24, h25, p25, h26, p26, h27, p27, h28, p28, h29, p29, bop_modP hv']
    · refine Nat.lt_of_le_of_lt hy ?_
      decide
    · rw [turns_eq]; decide
    · rintro ⟨f, env⟩ t' ⟨rfl, hf, he⟩
      simp only at hf he
      subst hf; subst he
      simp [Mini.execs, Mini.exec, Mini.tst, Mini.tsts, Mini.ev, Mini.evs, Mini.evP, Mini.evB, Mini.asgn, Mini.asgns, W_bnd, W_ret, W_lft, W_lft0, W_cond, W_if, W_cel, W_resd, W_fail, peek, look, slot, Mini.pk, Mini.evI, Mini.tsts, dats, seqL, seqT, pyAt, bop_add, bop_sub, bop_mulP, bop_modP, bop_fdivP, bf_lenL, bf_lenT, bf_abs, bf_int, bf_tupL, bf_tupT, bf_lisL, bf_lisT, bf_max, bf_min, bf_gcd, co_lt, co_le, co_gt, co_ge, co_eq, co_ne, truth, isTy, int?, Mini.bindKw, h0, p0, h1, p1, h2, p2, h3, p3, h4, p4, h5, p5, h6, p6, h7, p7, h8, p8, h9, p9, h10, p10, h11, p11, h12, p12, h13, p13, h14, p14, h15, p15, h16, p16, h17, p17, h18, p18, h19, p19, h20, p20, h21, p21, h22, p22, h23, p23, h24, p24, h25, p25, h26, p26, h27, p27, h28, p28, h29, p29]
      exact ⟨_, rfl, h, fun z hz => hm z (List.mem_cons_of_mem _ hz)⟩
end K29

end

section
set_option Elab.async false
set_option linter.all false
set_option maxRecDepth 100000
set_option maxHeartbeats 600000
namespace K29
open Mini Gm
open PySem (PyData Str)
theorem c20 (n : Nat) (x : PyData) (l : List Int) (hx : seq? x = some (IL l)) (h : gL l ≠ 0) (hb : Bd l) (t : Tap) : W (call S (n+2) 20 [.d x]) t (Is (.tuple (IL (low l))) t) := by
  have gs : Sm (gL l : Int) := sm_of (by have := gL_bd hb; omega)
  have gp : (0 : Int) < gL l := by omega
  have gm : (if (1 : Int) < (gL l : Int) then (gL l : Int) else 1) = gL l := by split <;> omega
  refine W_call rfl rfl ?_
  simp [d20, start, Mini.execs, Mini.exec, Mini.tst, Mini.tsts, Mini.ev, Mini.evs, Mini.evP, Mini.evB, Mini.asgn, Mini.asgns, W_bnd, W_ret, W_lft, W_lft0, W_cond, W_if, W_cel, W_resd, W_fail, peek, look, slot, Mini.pk, Mini.evI, Mini.tsts, dats, seqL, seqT, pyAt, bop_add, bop_sub, bop_mulP, bop_modP, bop_fdivP, bf_lenL, bf_lenT, bf_abs, bf_int, bf_tupL, bf_tupT, bf_lisL, bf_lisT, bf_max, bf_min, bf_gcd, co_lt, co_le, co_gt, co_ge, co_eq, co_ne, truth, isTy, int?, Mini.bindKw, h0, p0, h1, p1, h2, p2, h3, p3, h4, p4, h5, p5, h6, p6, h7, p7, h8, p8, h9, p9, h10, p10, h11, p11, h12, p12, h13, p13, h14, p14, h15, p15, h16, p16, h17, p17, h18, p18, h19, p19, h20, p20, h21, p21, h22, p22, h23, p23, h24, p24, h25, p25, h26, p26, h27, p27, h28, p28, h29, p29]
  refine W_mono (c19 n x l hx hb t) ?_
  rintro v t' ⟨rfl, rfl⟩
  simp [Mini.execs, Mini.exec, Mini.tst, Mini.tsts, Mini.ev, Mini.evs, Mini.evP, Mini.evB, Mini.asgn, Mini.asgns, W_bnd, W_ret, W_lft, W_lft0, W_cond, W_if, W_cel, W_resd, W_fail, peek, look, slot, Mini.pk, Mini.evI, Mini.tsts, dats, seqL, seqT, pyAt, bop_add, bop_sub, bop_mulP, bop_modP, bop_fdivP, bf_lenL, bf_lenT, bf_abs, bf_int, bf_tupL, bf_tupT, bf_lisL, bf_lisT, bf_max, bf_min, bf_gcd, co_lt, co_le, co_gt, co_ge, co_eq, co_ne, truth, isTy, int?, Mini.bindKw, h0, p0, h1, p1, h2, p2, h3, p3, h4, p4, h5, p5, h6, p6, h7, p7, h8, p8, h9, p9, h10, p10, h11, p11, h12, p12, h13, p13, h14, p14, h15, p15, h16, p16, h17, p17, h18, p18, h19, p19, h20, p20, h21, p21, h22, p22, h23, p23, h24, p24, h25, p25, h26, p26, h27, p27, h28, p28, h29, p29, gm, hx]
  refine W_map (fun x => x / (gL l : Int)) l ?_ ?_
  · intro y hy
    simp [Mini.execs, Mini.exec, Mini.tst, Mini.tsts, Mini.ev, Mini.evs, Mini.evP, Mini.evB, Mini.asgn, Mini.asgns, W_bnd, W_ret, W_lft, W_lft0, W_cond, W_if, W_cel, W_resd, W_fail, peek, look, slot, Mini.pk, Mini.evI, Mini.tsts, dats, seqL, seqT, pyAt, bop_add, bop_sub, bop_mulP, bop_modP, bop_fdivP, bf_lenL, bf_lenT, bf_abs, bf_int, bf_tupL, bf_tupT, bf_lisL, bf_lisT, bf_max, bf_min, bf_gcd, co_lt, co_le, co_gt, co_ge, co_eq, co_ne, truth, isTy, int?, Mini.bindKw, h0, p0, h1, p1, h2, p2, h3, p3, h4, p4, h5, p5, h6, p6, h7, p7, h8, p8, h9, p9, h10, p10, h11, p11, h12, p12, h13, p13, h14, p14, h15, p15, h16, p16, h17, p17, h18, p18, h19, p19, h20, p20, h21, p21, h22, p22, h23, p23, h24, p24, h25, p25, h26, p26, h27, p27, h28, p28, h29, p29, Mini.gslots, Mini.wipeE, gm, bop_fdivP gp gs]
  · exact ⟨rfl, rfl⟩
theorem low_sg {l : List Int} (h : gL l ≠ 0) : (if 0 < fst0 (low l) then low l else (low l).map fun x => 0 - x) = nrm l := by
  rw [nrm_low]
  unfold sg
  by_cases hp : 0 < fst0 l
  · rw [if_pos ((fst0_low h).mpr hp), if_pos hp]
    conv => lhs; rw [← List.map_id (low l)]
    exact List.map_congr_left fun x _ => by show x = 1 * x; omega
  · rw [if_neg (fun q => hp ((fst0_low h).mp q)), if_neg hp]
    exact List.map_congr_left fun x _ => by omega
theorem c21 (n : Nat) (x : PyData) (l : List Int) (hx : seq? x = some (IL l)) (h : gL l ≠ 0) (hb : Bd l) (t : Tap) : W (call S (n+3) 21 [.d x]) t (Is (.tuple (IL (nrm l))) t) := by
  obtain ⟨r, hr⟩ := fst0_filter (low_ne h)
  have e0 : (IL (List.filter (fun x => !decide (x = 0)) (low l)))[0]? = some (.int (fst0 (low l))) := by
    have q : (fun x : Int => !decide (x = 0)) = fun x => decide (x ≠ 0) := by funext x; by_cases h : x = 0 <;> simp [h]
    rw [q]
    exact IL_head hr
  have ls := low_sg h
  refine W_call rfl rfl ?_
  simp [d21, start, Mini.execs, Mini.exec, Mini.tst, Mini.tsts, Mini.ev, Mini.evs, Mini.evP, Mini.evB, Mini.asgn, Mini.asgns, W_bnd, W_ret, W_lft, W_lft0, W_cond, W_if, W_cel, W_resd, W_fail, peek, look, slot, Mini.pk, Mini.evI, Mini.tsts, dats, seqL, seqT, pyAt, bop_add, bop_sub, bop_mulP, bop_modP, bop_fdivP, bf_lenL, bf_lenT, bf_abs, bf_int, bf_tupL, bf_tupT, bf_lisL, bf_lisT, bf_max, bf_min, bf_gcd, co_lt, co_le, co_gt, co_ge, co_eq, co_ne, truth, isTy, int?, Mini.bindKw, h0, p0, h1, p1, h2, p2, h3, p3, h4, p4, h5, p5, h6, p6, h7, p7, h8, p8, h9, p9, h10, p10, h11, p11, h12, p12, h13, p13, h14, p14, h15, p15, h16, p16, h17, p17, h18, p18, h19, p19, h20, p20, h21, p21, h22, p22, h23, p23, h24, p24, h25, p25, h26, p26, h27, p27, h28, p28, h29, p29]
  refine W_mono (c20 n x l hx h hb t) ?_
  rintro v t' ⟨rfl, rfl⟩
  simp [Mini.execs, Mini.exec, Mini.tst, Mini.tsts, Mini.ev, Mini.evs, Mini.evP, Mini.evB, Mini.asgn, Mini.asgns, W_bnd, W_ret, W_lft, W_lft0, W_cond, W_if, W_cel, W_resd, W_fail, peek, look, slot, Mini.pk, Mini.evI, Mini.tsts, dats, seqL, seqT, pyAt, bop_add, bop_sub, bop_mulP, bop_modP, bop_fdivP, bf_lenL, bf_lenT, bf_abs, bf_int, bf_tupL, bf_tupT, bf_lisL, bf_lisT, bf_max, bf_min, bf_gcd, co_lt, co_le, co_gt, co_ge, co_eq, co_ne, truth, isTy, int?, Mini.bindKw, h0, p0, h1, p1, h2, p2, h3, p3, h4, p4, h5, p5, h6, p6, h7, p7, h8, p8, h9, p9, h10, p10, h11, p11, h12, p12, h13, p13, h14, p14, h15, p15, h16, p16, h17, p17, h18, p18, h19, p19, h20, p20, h21, p21, h22, p22, h23, p23, h24, p24, h25, p25, h26, p26, h27, p27, h28, p28, h29, p29]
  refine W_fil (fun x => decide (x ≠ 0)) (low l) ?_ ?_
  · intro x hx
    by_cases h0 : x = 0 <;> simp [Mini.execs, Mini.exec, Mini.tst, Mini.tsts, Mini.ev, Mini.evs, Mini.evP, Mini.evB, Mini.asgn, Mini.asgns, W_bnd, W_ret, W_lft, W_lft0, W_cond, W_if, W_cel, W_resd, W_fail, peek, look, slot, Mini.pk, Mini.evI, Mini.tsts, dats, seqL, seqT, pyAt, bop_add, bop_sub, bop_mulP, bop_modP, bop_fdivP, bf_lenL, bf_lenT, bf_abs, bf_int, bf_tupL, bf_tupT, bf_lisL, bf_lisT, bf_max, bf_min, bf_gcd, co_lt, co_le, co_gt, co_ge, co_eq, co_ne, truth, isTy, int?, Mini.bindKw, h0, p0, h1, p1, h2, p2, h3, p3, h4, p4, h5, p5, h6, p6, h7, p7, h8, p8, h9, p9, h10, p10, h11, p11, h12, p12, h13, p13, h14, p14, h15, p15, h16, p16, h17, p17, h18, p18, h19, p19, h20, p20, h21, p21, h22, p22, h23, p23, h24, p24, h25, p25, h26, p26, h27, p27, h28, p28, h29, p29, Mini.gslots, Mini.wipeE, h0]
  · simp [Mini.execs, Mini.exec, Mini.tst, Mini.tsts, Mini.ev, Mini.evs, Mini.evP, Mini.evB, Mini.asgn, Mini.asgns, W_bnd, W_ret, W_lft, W_lft0, W_cond, W_if, W_cel, W_resd, W_fail, peek, look, slot, Mini.pk, Mini.evI, Mini.tsts, dats, seqL, seqT, pyAt, bop_add, bop_sub, bop_mulP, bop_modP, bop_fdivP, bf_lenL, bf_lenT, bf_abs, bf_int, bf_tupL, bf_tupT, bf_lisL, bf_lisT, bf_max, bf_min, bf_gcd, co_lt, co_le, co_gt, co_ge, co_eq, co_ne, truth, isTy, int?, Mini.bindKw, h0, p0, h1, p1, h2, p2, h3, p3, h4, p4, h5, p5, h6, p6, h7, p7, h8, p8, h9, p9, h10, p10, h11, p11, h12, p12, h13, p13, h14, p14, h15, p15, h16, p16, h17, p17, h18, p18, h19, p19, h20, p20, h21, p21, h22, p22, h23, p23, h24, p24, h25, p25, h26, p26, h27, p27, h28, p28, h29, p29, e0]
    by_cases hp : 0 < fst0 (low l)
    · rw [if_pos hp] at ls
      simp [Mini.execs, Mini.exec, Mini.tst, Mini.tsts, Mini.ev, Mini.evs, Mini.evP, Mini.evB, Mini.asgn, Mini.asgns, W_bnd, W_ret, W_lft, W_lft0, W_cond, W_if, W_cel, W_resd, W_fail, peek, look, slot, Mini.pk, Mini.evI, Mini.tsts, dats, seqL, seqT, pyAt, bop_add, bop_sub, bop_mulP, bop_modP, bop_fdivP, bf_lenL, bf_lenT, bf_abs, bf_int, bf_tupL, bf_tupT, bf_lisL, bf_lisT, bf_max, bf_min, bf_gcd, co_lt, co_le, co_gt, co_ge, co_eq, co_ne, truth, isTy, int?, Mini.bindKw, h0, p0, h1, p1, h2, p2, h3, p3, h4, p4, h5, p5, h6, p6, h7, p7, h8, p8, h9, p9, h10, p10, h11, p11, h12, p12, h13, p13, h14, p14, h15, p15, h16, p16, h17, p17, h18, p18, h19, p19, h20, p20, h21, p21, h22, p22, h23, p23, h24, p24, h25, p25, h26, p26, h27, p27, h28, p28, h29, p29, hp]
      exact ⟨by rw [ls], rfl⟩
    · rw [if_neg hp] at ls
      simp [Mini.execs, Mini.exec, Mini.tst, Mini.tsts, Mini.ev, Mini.evs, Mini.evP, Mini.evB, Mini.asgn, Mini.asgns, W_bnd, W_ret, W_lft, W_lft0, W_cond, W_if, W_cel, W_resd, W_fail, peek, look, slot, Mini.pk, Mini.evI, Mini.tsts, dats, seqL, seqT, pyAt, bop_add, bop_sub, bop_mulP, bop_modP, bop_fdivP, bf_lenL, bf_lenT, bf_abs, bf_int, bf_tupL, bf_tupT, bf_lisL, bf_lisT, bf_max, bf_min, bf_gcd, co_lt, co_le, co_gt, co_ge, co_eq, co_ne, truth, isTy, int?, Mini.bindKw, h0, p0, h1, p1, h2, p2, h3, p3, h4, p4, h5, p5, h6, p6, h7, p7, h8, p8, h9, p9, h10, p10, h11, p11, h12, p12, h13, p13, h14, p14, h15, p15, h16, p16, h17, p17, h18, p18, h19, p19, h20, p20, h21, p21, h22, p22, h23, p23, h24, p24, h25, p25, h26, p26, h27, p27, h28, p28, h29, p29, hp]
      refine W_map (fun x => 0 - x) (low l) ?_ ?_
      · intro y hy
        simp [Mini.execs, Mini.exec, Mini.tst, Mini.tsts, Mini.ev, Mini.evs, Mini.evP, Mini.evB, Mini.asgn, Mini.asgns, W_bnd, W_ret, W_lft, W_lft0, W_cond, W_if, W_cel, W_resd, W_fail, peek, look, slot, Mini.pk, Mini.evI, Mini.tsts, dats, seqL, seqT, pyAt, bop_add, bop_sub, bop_mulP, bop_modP, bop_fdivP, bf_lenL, bf_lenT, bf_abs, bf_int, bf_tupL, bf_tupT, bf_lisL, bf_lisT, bf_max, bf_min, bf_gcd, co_lt, co_le, co_gt, co_ge, co_eq, co_ne, truth, isTy, int?, Mini.bindKw, h0, p0, h1, p1, h2, p2, h3, p3, h4, p4, h5, p5, h6, p6, h7, p7, h8, p8, h9, p9, h10, p10, h11, p11, h12, p12, h13, p13, h14, p14, h15, p15, h16, p16, h17, p17, h18, p18, h19, p19, h20, p20, h21, p21, h22, p22, h23, p23, h24, p24, h25, p25, h26, p26, h27, p27, h28, p28, h29, p29, Mini.gslots, Mini.wipeE]
      · simp [Mini.execs, Mini.exec, Mini.tst, Mini.tsts, Mini.ev, Mini.evs, Mini.evP, Mini.evB, Mini.asgn, Mini.asgns, W_bnd, W_ret, W_lft, W_lft0, W_cond, W_if, W_cel, W_resd, W_fail, peek, look, slot, Mini.pk, Mini.evI, Mini.tsts, dats, seqL, seqT, pyAt, bop_add, bop_sub, bop_mulP, bop_modP, bop_fdivP, bf_lenL, bf_lenT, bf_abs, bf_int, bf_tupL, bf_tupT, bf_lisL, bf_lisT, bf_max, bf_min, bf_gcd, co_lt, co_le, co_gt, co_ge, co_eq, co_ne, truth, isTy, int?, Mini.bindKw, h0, p0, h1, p1, h2, p2, h3, p3, h4, p4, h5, p5, h6, p6, h7, p7, h8, p8, h9, p9, h10, p10, h11, p11, h12, p12, h13, p13, h14, p14, h15, p15, h16, p16, h17, p17, h18, p18, h19, p19, h20, p20, h21, p21, h22, p22, h23, p23, h24, p24, h25, p25, h26, p26, h27, p27, h28, p28, h29, p29]
        exact ⟨by rw [← ls]; simp, rfl⟩
theorem Bd4 {a b c d : Int} {B : Nat} (h : ∀ x ∈ [a, b, c, d], x.natAbs ≤ B) : a.natAbs ≤ B ∧ b.natAbs ≤ B ∧ c.natAbs ≤ B ∧ d.natAbs ≤ B := ⟨h a (by simp), h b (by simp), h c (by simp), h d (by simp)⟩
/-- factors that may be multiplied out -/
def Md (l : List Int) : Prop := ∀ x ∈ l, x.natAbs ≤ 10000000000000000000000000000
theorem Md.sm {l : List Int} (h : Md l) {x : Int} (hx : x ∈ l) : Sm x := sm_of (by have := h x hx; omega)
theorem Md.bd {l : List Int} (h : Md l) : Bd l := fun x hx => by have := h x hx; omega
theorem prod_le {x y : Int} (hx : x.natAbs ≤ 10000000000000000000000000000) (hy : y.natAbs ≤ 10000000000000000000000000000) : (x * y).natAbs ≤ 100000000000000000000000000000000000000000000000000000000 := by
  rw [Int.natAbs_mul]
  exact Nat.le_trans (Nat.mul_le_mul hx hy) (by decide)
theorem s4a {p q r s : Int} (h1 : p.natAbs ≤ 100000000000000000000000000000000000000000000000000000000) (h2 : q.natAbs ≤ 100000000000000000000000000000000000000000000000000000000) (h3 : r.natAbs ≤ 100000000000000000000000000000000000000000000000000000000) (h4 : s.natAbs ≤ 100000000000000000000000000000000000000000000000000000000) :
    (p - q - r - s).natAbs ≤ 10000000000000000000000000000000000000000000000000000000000 ∧ (p + q + r - s).natAbs ≤ 10000000000000000000000000000000000000000000000000000000000 ∧ (p - q + r + s).natAbs ≤ 10000000000000000000000000000000000000000000000000000000000 ∧ (p + q - r + s).natAbs ≤ 10000000000000000000000000000000000000000000000000000000000 := by
  refine ⟨?_, ?_, ?_, ?_⟩ <;> omega
theorem qp_bd {a b c d e f g h : Int} (h1 : Md [a, b, c, d]) (h2 : Md [e, f, g, h]) : Bd (qp a b c d e f g h) := by
  obtain ⟨a1, a2, a3, a4⟩ := Bd4 h1
  obtain ⟨b1, b2, b3, b4⟩ := Bd4 h2
  intro x hx
  unfold qp at hx
  rcases List.mem_cons.mp hx with e | hx
  · rw [e]; exact (s4a (prod_le a1 b1) (prod_le a2 b2) (prod_le a3 b3) (prod_le a4 b4)).1
  rcases List.mem_cons.mp hx with e | hx
  · rw [e]; exact (s4a (prod_le a1 b2) (prod_le a2 b1) (prod_le a3 b4) (prod_le a4 b3)).2.1
  rcases List.mem_cons.mp hx with e | hx
  · rw [e]; exact (s4a (prod_le a1 b3) (prod_le a2 b4) (prod_le a3 b1) (prod_le a4 b2)).2.2.1
  rw [List.mem_singleton.mp hx]; exact (s4a (prod_le a1 b4) (prod_le a2 b3) (prod_le a3 b2) (prod_le a4 b1)).2.2.2
theorem c23 (n : Nat) (a b c d e f g h : Int) (h1 : Md [a, b, c, d]) (h2 : Md [e, f, g, h]) (h0 : gL (qp e f g h a b c d) ≠ 0) (t : Tap) : W (call S (n+4) 23 [.d (.tuple (IL [a, b, c, d])), .d (.tuple (IL [e, f, g, h]))]) t (Is (.tuple (IL (nrm (qp e f g h a b c d)))) t) := by
  refine W_call rfl rfl ?_
  simp [d23, start, Mini.execs, Mini.exec, Mini.tst, Mini.tsts, Mini.ev, Mini.evs, Mini.evP, Mini.evB, Mini.asgn, Mini.asgns, W_bnd, W_ret, W_lft, W_lft0, W_cond, W_if, W_cel, W_resd, W_fail, peek, look, slot, Mini.pk, Mini.evI, Mini.tsts, dats, seqL, seqT, pyAt, bop_add, bop_sub, bop_mulP, bop_modP, bop_fdivP, bf_lenL, bf_lenT, bf_abs, bf_int, bf_tupL, bf_tupT, bf_lisL, bf_lisT, bf_max, bf_min, bf_gcd, co_lt, co_le, co_gt, co_ge, co_eq, co_ne, truth, isTy, int?, Mini.bindKw, h0, p0, h1, p1, h2, p2, h3, p3, h4, p4, h5, p5, h6, p6, h7, p7, h8, p8, h9, p9, h10, p10, h11, p11, h12, p12, h13, p13, h14, p14, h15, p15, h16, p16, h17, p17, h18, p18, h19, p19, h20, p20, h21, p21, h22, p22, h23, p23, h24, p24, h25, p25, h26, p26, h27, p27, h28, p28, h29, p29]
  refine W_mono (c22 (n + 2) e f g h a b c d (h2.sm (by simp)) (h2.sm (by simp)) (h2.sm (by simp)) (h2.sm (by simp)) (h1.sm (by simp)) (h1.sm (by simp)) (h1.sm (by simp)) (h1.sm (by simp)) t) ?_
  rintro v t' ⟨rfl, rfl⟩
  exact W_mono (c21 n (.tuple (IL (qp e f g h a b c d))) _ rfl h0 (qp_bd h2 h1) t') fun v t' q => q
theorem c11 (n : Nat) (a b c d e f g h : Int) (h1 : Md [a, b, c, d]) (h2 : Md [e, f, g, h]) (h0 : gL (qp e f g h a b c d) ≠ 0) (t : Tap) : W (call S (n+5) 11 [.d (.tuple (IL [a, b, c, d])), .d (.tuple (IL [e, f, g, h]))]) t (Is (.tuple (IL (nrm (qp e f g h a b c d)))) t) := by
  refine W_call rfl rfl ?_
  simp [d11, start, Mini.execs, Mini.exec, Mini.tst, Mini.tsts, Mini.ev, Mini.evs, Mini.evP, Mini.evB, Mini.asgn, Mini.asgns, W_bnd, W_ret, W_lft, W_lft0, W_cond, W_if, W_cel, W_resd, W_fail, peek, look, slot, Mini.pk, Mini.evI, Mini.tsts, dats, seqL, seqT, pyAt, bop_add, bop_sub, bop_mulP, bop_modP, bop_fdivP, bf_lenL, bf_lenT, bf_abs, bf_int, bf_tupL, bf_tupT, bf_lisL, bf_lisT, bf_max, bf_min, bf_gcd, co_lt, co_le, co_gt, co_ge, co_eq, co_ne, truth, isTy, int?, Mini.bindKw, h0, p0, h1, p1, h2, p2, h3, p3, h4, p4, h5, p5, h6, p6, h7, p7, h8, p8, h9, p9, h10, p10, h11, p11, h12, p12, h13, p13, h14, p14, h15, p15, h16, p16, h17, p17, h18, p18, h19, p19, h20, p20, h21, p21, h22, p22, h23, p23, h24, p24, h25, p25, h26, p26, h27, p27, h28, p28, h29, p29]
  refine W_mono (c10 (n + 3) e f g h a b c d (h2.sm (by simp)) (h2.sm (by simp)) (h2.sm (by simp)) (h2.sm (by simp)) (h1.sm (by simp)) (h1.sm (by simp)) (h1.sm (by simp)) (h1.sm (by simp)) t) ?_
  rintro v t' ⟨rfl, rfl⟩
  exact W_mono (c8 n (qp e f g h a b c d) h0 (qp_bd h2 h1) rfl t') fun v t' q => q
theorem c12 (n : Nat) (a b c d e f g h : Int) (t1 : T [a, b, c, d]) (t2 : T [e, f, g, h]) (h1 : Md [a, b, c, d]) (h2 : Md [e, f, g, h]) (h0 : gL (qp e f g h a b c d) ≠ 0) (t : Tap) : W (call S (n+6) 12 [.d (.tuple (IL [a, b, c, d])), .d (.tuple (IL [e, f, g, h]))]) t (Is (.tuple (IL (nrm (qp e f g h a b c d)))) t) := by
  refine W_call rfl rfl ?_
  simp [d12, start, Mini.execs, Mini.exec, Mini.tst, Mini.tsts, Mini.ev, Mini.evs, Mini.evP, Mini.evB, Mini.asgn, Mini.asgns, W_bnd, W_ret, W_lft, W_lft0, W_cond, W_if, W_cel, W_resd, W_fail, peek, look, slot, Mini.pk, Mini.evI, Mini.tsts, dats, seqL, seqT, pyAt, bop_add, bop_sub, bop_mulP, bop_modP, bop_fdivP, bf_lenL, bf_lenT, bf_abs, bf_int, bf_tupL, bf_tupT, bf_lisL, bf_lisT, bf_max, bf_min, bf_gcd, co_lt, co_le, co_gt, co_ge, co_eq, co_ne, truth, isTy, int?, Mini.bindKw, h0, p0, h1, p1, h2, p2, h3, p3, h4, p4, h5, p5, h6, p6, h7, p7, h8, p8, h9, p9, h10, p10, h11, p11, h12, p12, h13, p13, h14, p14, h15, p15, h16, p16, h17, p17, h18, p18, h19, p19, h20, p20, h21, p21, h22, p22, h23, p23, h24, p24, h25, p25, h26, p26, h27, p27, h28, p28, h29, p29]
  refine W_mono (c7 (n + 1) [a, b, c, d] t1 rfl t) ?_
  rintro v t' ⟨rfl, rfl⟩
  refine W_mono (c7 (n + 1) [e, f, g, h] t2 rfl t') ?_
  rintro v t'' ⟨rfl, rfl⟩
  exact W_mono (c11 n a b c d e f g h h1 h2 h0 t'') fun v t' q => q
end K29

end

section
set_option Elab.async false
set_option linter.all false
set_option maxRecDepth 100000
set_option maxHeartbeats 600000
namespace K29
open Mini Gm
open PySem (PyData Str)
theorem c13 (n : Nat) (a b c d f1 f2 f3 : Int) (hT : T [a, b, c, d]) (hu : up b c = [f1, f2, f3]) (h1 : Md [a, b, c, d]) (h2 : Md [0, f1, f2, f3]) (g0 : gL [0, f1, f2, f3] ≠ 0) (g1 : gL (qp a b c d 0 f1 f2 f3) ≠ 0) (t : Tap) :
    W (call S (n+5) 13 [.d (.tuple (IL [a, b, c, d]))]) t (Is (Pr (nrm [0, f1, f2, f3]) (nrm (qp a b c d 0 f1 f2 f3))) t) := by
  have e1 : cutD (.tuple (IL [a, b, c, d])) (some 1) none = some (.tuple (IL [b, c, d])) := rfl
  have k5 := c5 (n + 3) b c d
  rw [hu] at k5
  refine W_call rfl rfl ?_
  simp [d13, start, Mini.execs, Mini.exec, Mini.tst, Mini.tsts, Mini.ev, Mini.evs, Mini.evP, Mini.evB, Mini.asgn, Mini.asgns, W_bnd, W_ret, W_lft, W_lft0, W_cond, W_if, W_cel, W_resd, W_fail, peek, look, slot, Mini.pk, Mini.evI, Mini.tsts, dats, seqL, seqT, pyAt, bop_add, bop_sub, bop_mulP, bop_modP, bop_fdivP, bf_lenL, bf_lenT, bf_abs, bf_int, bf_tupL, bf_tupT, bf_lisL, bf_lisT, bf_max, bf_min, bf_gcd, co_lt, co_le, co_gt, co_ge, co_eq, co_ne, truth, isTy, int?, Mini.bindKw, h0, p0, h1, p1, h2, p2, h3, p3, h4, p4, h5, p5, h6, p6, h7, p7, h8, p8, h9, p9, h10, p10, h11, p11, h12, p12, h13, p13, h14, p14, h15, p15, h16, p16, h17, p17, h18, p18, h19, p19, h20, p20, h21, p21, h22, p22, h23, p23, h24, p24, h25, p25, h26, p26, h27, p27, h28, p28, h29, p29]
  refine W_mono (c7 n [a, b, c, d] hT rfl t) ?_
  rintro v t' ⟨rfl, rfl⟩
  simp [Mini.execs, Mini.exec, Mini.tst, Mini.tsts, Mini.ev, Mini.evs, Mini.evP, Mini.evB, Mini.asgn, Mini.asgns, W_bnd, W_ret, W_lft, W_lft0, W_cond, W_if, W_cel, W_resd, W_fail, peek, look, slot, Mini.pk, Mini.evI, Mini.tsts, dats, seqL, seqT, pyAt, bop_add, bop_sub, bop_mulP, bop_modP, bop_fdivP, bf_lenL, bf_lenT, bf_abs, bf_int, bf_tupL, bf_tupT, bf_lisL, bf_lisT, bf_max, bf_min, bf_gcd, co_lt, co_le, co_gt, co_ge, co_eq, co_ne, truth, isTy, int?, Mini.bindKw, h0, p0, h1, p1, h2, p2, h3, p3, h4, p4, h5, p5, h6, p6, h7, p7, h8, p8, h9, p9, h10, p10, h11, p11, h12, p12, h13, p13, h14, p14, h15, p15, h16, p16, h17, p17, h18, p18, h19, p19, h20, p20, h21, p21, h22, p22, h23, p23, h24, p24, h25, p25, h26, p26, h27, p27, h28, p28, h29, p29, e1]
  refine W_mono (k5 t') ?_
  rintro v t'' ⟨rfl, rfl⟩
  simp [Mini.execs, Mini.exec, Mini.tst, Mini.tsts, Mini.ev, Mini.evs, Mini.evP, Mini.evB, Mini.asgn, Mini.asgns, W_bnd, W_ret, W_lft, W_lft0, W_cond, W_if, W_cel, W_resd, W_fail, peek, look, slot, Mini.pk, Mini.evI, Mini.tsts, dats, seqL, seqT, pyAt, bop_add, bop_sub, bop_mulP, bop_modP, bop_fdivP, bf_lenL, bf_lenT, bf_abs, bf_int, bf_tupL, bf_tupT, bf_lisL, bf_lisT, bf_max, bf_min, bf_gcd, co_lt, co_le, co_gt, co_ge, co_eq, co_ne, truth, isTy, int?, Mini.bindKw, h0, p0, h1, p1, h2, p2, h3, p3, h4, p4, h5, p5, h6, p6, h7, p7, h8, p8, h9, p9, h10, p10, h11, p11, h12, p12, h13, p13, h14, p14, h15, p15, h16, p16, h17, p17, h18, p18, h19, p19, h20, p20, h21, p21, h22, p22, h23, p23, h24, p24, h25, p25, h26, p26, h27, p27, h28, p28, h29, p29, IL_cons, IL_nil]
  refine W_mono (c8 n [0, f1, f2, f3] g0 h2.bd rfl t'') ?_
  rintro v t3 ⟨rfl, rfl⟩
  refine W_mono (c10 (n + 3) a b c d 0 f1 f2 f3 (h1.sm (by simp)) (h1.sm (by simp)) (h1.sm (by simp)) (h1.sm (by simp)) (h2.sm (by simp)) (h2.sm (by simp)) (h2.sm (by simp)) (h2.sm (by simp)) t3) ?_
  rintro v t4 ⟨rfl, rfl⟩
  refine W_mono (c8 n (qp a b c d 0 f1 f2 f3) g1 (qp_bd h1 h2) rfl t4) ?_
  rintro v t5 ⟨rfl, rfl⟩
  simp [Mini.execs, Mini.exec, Mini.tst, Mini.tsts, Mini.ev, Mini.evs, Mini.evP, Mini.evB, Mini.asgn, Mini.asgns, W_bnd, W_ret, W_lft, W_lft0, W_cond, W_if, W_cel, W_resd, W_fail, peek, look, slot, Mini.pk, Mini.evI, Mini.tsts, dats, seqL, seqT, pyAt, bop_add, bop_sub, bop_mulP, bop_modP, bop_fdivP, bf_lenL, bf_lenT, bf_abs, bf_int, bf_tupL, bf_tupT, bf_lisL, bf_lisT, bf_max, bf_min, bf_gcd, co_lt, co_le, co_gt, co_ge, co_eq, co_ne, truth, isTy, int?, Mini.bindKw, h0, p0, h1, p1, h2, p2, h3, p3, h4, p4, h5, p5, h6, p6, h7, p7, h8, p8, h9, p9, h10, p10, h11, p11, h12, p12, h13, p13, h14, p14, h15, p15, h16, p16, h17, p17, h18, p18, h19, p19, h20, p20, h21, p21, h22, p22, h23, p23, h24, p24, h25, p25, h26, p26, h27, p27, h28, p28, h29, p29]
  exact ⟨rfl, rfl⟩
theorem c14 (n : Nat) (a b c d : Int) (hT : T [a, b, c, d]) (h1 : Md [a, b, c, d]) (h2 : Bd [a * a + d * d, a * b + c * d, a * c - b * d, 0]) (hz : a ≠ 0 ∨ d ≠ 0 → gL [a * a + d * d, a * b + c * d, a * c - b * d, 0] ≠ 0 ∧ gL [a, 0, 0, d] ≠ 0) (t : Tap) :
    W (call S (n+5) 14 [.d (.tuple (IL [a, b, c, d]))]) t (Is (if a = 0 ∧ d = 0 then Pr [a, b, c, d] [1, 0, 0, 0] else Pr (nrm [a * a + d * d, a * b + c * d, a * c - b * d, 0]) (nrm [a, 0, 0, d])) t) := by
  have sa : Sm a := h1.sm (by simp)
  have sb : Sm b := h1.sm (by simp)
  have sc : Sm c := h1.sm (by simp)
  have sd : Sm d := h1.sm (by simp)
  have k0 : S.consts[0]? = some (("NO_TURN" : Str), .tuple (IL [1, 0, 0, 0])) := rfl
  refine W_call rfl rfl ?_
  simp [d14, start, Mini.execs, Mini.exec, Mini.tst, Mini.tsts, Mini.ev, Mini.evs, Mini.evP, Mini.evB, Mini.asgn, Mini.asgns, W_bnd, W_ret, W_lft, W_lft0, W_cond, W_if, W_cel, W_resd, W_fail, peek, look, slot, Mini.pk, Mini.evI, Mini.tsts, dats, seqL, seqT, pyAt, bop_add, bop_sub, bop_mulP, bop_modP, bop_fdivP, bf_lenL, bf_lenT, bf_abs, bf_int, bf_tupL, bf_tupT, bf_lisL, bf_lisT, bf_max, bf_min, bf_gcd, co_lt, co_le, co_gt, co_ge, co_eq, co_ne, truth, isTy, int?, Mini.bindKw, h0, p0, h1, p1, h2, p2, h3, p3, h4, p4, h5, p5, h6, p6, h7, p7, h8, p8, h9, p9, h10, p10, h11, p11, h12, p12, h13, p13, h14, p14, h15, p15, h16, p16, h17, p17, h18, p18, h19, p19, h20, p20, h21, p21, h22, p22, h23, p23, h24, p24, h25, p25, h26, p26, h27, p27, h28, p28, h29, p29]
  refine W_mono (c7 n [a, b, c, d] hT rfl t) ?_
  rintro v t' ⟨rfl, rfl⟩
  by_cases ha : a = 0 <;> by_cases hd : d = 0
  · simp [Mini.execs, Mini.exec, Mini.tst, Mini.tsts, Mini.ev, Mini.evs, Mini.evP, Mini.evB, Mini.asgn, Mini.asgns, W_bnd, W_ret, W_lft, W_lft0, W_cond, W_if, W_cel, W_resd, W_fail, peek, look, slot, Mini.pk, Mini.evI, Mini.tsts, dats, seqL, seqT, pyAt, bop_add, bop_sub, bop_mulP, bop_modP, bop_fdivP, bf_lenL, bf_lenT, bf_abs, bf_int, bf_tupL, bf_tupT, bf_lisL, bf_lisT, bf_max, bf_min, bf_gcd, co_lt, co_le, co_gt, co_ge, co_eq, co_ne, truth, isTy, int?, Mini.bindKw, h0, p0, h1, p1, h2, p2, h3, p3, h4, p4, h5, p5, h6, p6, h7, p7, h8, p8, h9, p9, h10, p10, h11, p11, h12, p12, h13, p13, h14, p14, h15, p15, h16, p16, h17, p17, h18, p18, h19, p19, h20, p20, h21, p21, h22, p22, h23, p23, h24, p24, h25, p25, h26, p26, h27, p27, h28, p28, h29, p29, IL_cons, IL_nil, ha, hd, k0]
    exact ⟨rfl, rfl⟩
  · obtain ⟨g0, g1⟩ := hz (by omega)
    subst ha
    rw [show (0 : Int) * 0 + d * d = d * d by simp, show (0 : Int) * b + c * d = c * d by simp, show (0 : Int) * c - b * d = -(b * d) by simp] at g0 h2
    simp [Mini.execs, Mini.exec, Mini.tst, Mini.tsts, Mini.ev, Mini.evs, Mini.evP, Mini.evB, Mini.asgn, Mini.asgns, W_bnd, W_ret, W_lft, W_lft0, W_cond, W_if, W_cel, W_resd, W_fail, peek, look, slot, Mini.pk, Mini.evI, Mini.tsts, dats, seqL, seqT, pyAt, bop_add, bop_sub, bop_mulP, bop_modP, bop_fdivP, bf_lenL, bf_lenT, bf_abs, bf_int, bf_tupL, bf_tupT, bf_lisL, bf_lisT, bf_max, bf_min, bf_gcd, co_lt, co_le, co_gt, co_ge, co_eq, co_ne, truth, isTy, int?, Mini.bindKw, h0, p0, h1, p1, h2, p2, h3, p3, h4, p4, h5, p5, h6, p6, h7, p7, h8, p8, h9, p9, h10, p10, h11, p11, h12, p12, h13, p13, h14, p14, h15, p15, h16, p16, h17, p17, h18, p18, h19, p19, h20, p20, h21, p21, h22, p22, h23, p23, h24, p24, h25, p25, h26, p26, h27, p27, h28, p28, h29, p29, IL_cons, IL_nil, hd, sa, sb, sc, sd]
    refine W_mono (c8 n [d * d, c * d, -(b * d), 0] g0 h2 rfl t') ?_
    rintro v t2 ⟨rfl, rfl⟩
    refine W_mono (c8 n [0, 0, 0, d] g1 (fun x hx => h1.bd x (by simp at hx ⊢; omega)) rfl t2) ?_
    rintro v t3 ⟨rfl, rfl⟩
    simp [Mini.execs, Mini.exec, Mini.tst, Mini.tsts, Mini.ev, Mini.evs, Mini.evP, Mini.evB, Mini.asgn, Mini.asgns, W_bnd, W_ret, W_lft, W_lft0, W_cond, W_if, W_cel, W_resd, W_fail, peek, look, slot, Mini.pk, Mini.evI, Mini.tsts, dats, seqL, seqT, pyAt, bop_add, bop_sub, bop_mulP, bop_modP, bop_fdivP, bf_lenL, bf_lenT, bf_abs, bf_int, bf_tupL, bf_tupT, bf_lisL, bf_lisT, bf_max, bf_min, bf_gcd, co_lt, co_le, co_gt, co_ge, co_eq, co_ne, truth, isTy, int?, Mini.bindKw, h0, p0, h1, p1, h2, p2, h3, p3, h4, p4, h5, p5, h6, p6, h7, p7, h8, p8, h9, p9, h10, p10, h11, p11, h12, p12, h13, p13, h14, p14, h15, p15, h16, p16, h17, p17, h18, p18, h19, p19, h20, p20, h21, p21, h22, p22, h23, p23, h24, p24, h25, p25, h26, p26, h27, p27, h28, p28, h29, p29]
    exact ⟨rfl, rfl⟩
  · obtain ⟨g0, g1⟩ := hz (by omega)
    subst hd
    rw [show a * a + (0 : Int) * 0 = a * a by simp, show a * b + c * (0 : Int) = a * b by simp, show a * c - b * (0 : Int) = a * c by simp] at g0 h2
    simp [Mini.execs, Mini.exec, Mini.tst, Mini.tsts, Mini.ev, Mini.evs, Mini.evP, Mini.evB, Mini.asgn, Mini.asgns, W_bnd, W_ret, W_lft, W_lft0, W_cond, W_if, W_cel, W_resd, W_fail, peek, look, slot, Mini.pk, Mini.evI, Mini.tsts, dats, seqL, seqT, pyAt, bop_add, bop_sub, bop_mulP, bop_modP, bop_fdivP, bf_lenL, bf_lenT, bf_abs, bf_int, bf_tupL, bf_tupT, bf_lisL, bf_lisT, bf_max, bf_min, bf_gcd, co_lt, co_le, co_gt, co_ge, co_eq, co_ne, truth, isTy, int?, Mini.bindKw, h0, p0, h1, p1, h2, p2, h3, p3, h4, p4, h5, p5, h6, p6, h7, p7, h8, p8, h9, p9, h10, p10, h11, p11, h12, p12, h13, p13, h14, p14, h15, p15, h16, p16, h17, p17, h18, p18, h19, p19, h20, p20, h21, p21, h22, p22, h23, p23, h24, p24, h25, p25, h26, p26, h27, p27, h28, p28, h29, p29, IL_cons, IL_nil, ha, sa, sb, sc, sd]
    refine W_mono (c8 n [a * a, a * b, a * c, 0] g0 h2 rfl t') ?_
    rintro v t2 ⟨rfl, rfl⟩
    refine W_mono (c8 n [a, 0, 0, 0] g1 (fun x hx => h1.bd x (by simp at hx ⊢; omega)) rfl t2) ?_
    rintro v t3 ⟨rfl, rfl⟩
    simp [Mini.execs, Mini.exec, Mini.tst, Mini.tsts, Mini.ev, Mini.evs, Mini.evP, Mini.evB, Mini.asgn, Mini.asgns, W_bnd, W_ret, W_lft, W_lft0, W_cond, W_if, W_cel, W_resd, W_fail, peek, look, slot, Mini.pk, Mini.evI, Mini.tsts, dats, seqL, seqT, pyAt, bop_add, bop_sub, bop_mulP, bop_modP, bop_fdivP, bf_lenL, bf_lenT, bf_abs, bf_int, bf_tupL, bf_tupT, bf_lisL, bf_lisT, bf_max, bf_min, bf_gcd, co_lt, co_le, co_gt, co_ge, co_eq, co_ne, truth, isTy, int?, Mini.bindKw, h0, p0, h1, p1, h2, p2, h3, p3, h4, p4, h5, p5, h6, p6, h7, p7, h8, p8, h9, p9, h10, p10, h11, p11, h12, p12, h13, p13, h14, p14, h15, p15, h16, p16, h17, p17, h18, p18, h19, p19, h20, p20, h21, p21, h22, p22, h23, p23, h24, p24, h25, p25, h26, p26, h27, p27, h28, p28, h29, p29]
    exact ⟨rfl, rfl⟩
  · obtain ⟨g0, g1⟩ := hz (by omega)
    simp [Mini.execs, Mini.exec, Mini.tst, Mini.tsts, Mini.ev, Mini.evs, Mini.evP, Mini.evB, Mini.asgn, Mini.asgns, W_bnd, W_ret, W_lft, W_lft0, W_cond, W_if, W_cel, W_resd, W_fail, peek, look, slot, Mini.pk, Mini.evI, Mini.tsts, dats, seqL, seqT, pyAt, bop_add, bop_sub, bop_mulP, bop_modP, bop_fdivP, bf_lenL, bf_lenT, bf_abs, bf_int, bf_tupL, bf_tupT, bf_lisL, bf_lisT, bf_max, bf_min, bf_gcd, co_lt, co_le, co_gt, co_ge, co_eq, co_ne, truth, isTy, int?, Mini.bindKw, h0, p0, h1, p1, h2, p2, h3, p3, h4, p4, h5, p5, h6, p6, h7, p7, h8, p8, h9, p9, h10, p10, h11, p11, h12, p12, h13, p13, h14, p14, h15, p15, h16, p16, h17, p17, h18, p18, h19, p19, h20, p20, h21, p21, h22, p22, h23, p23, h24, p24, h25, p25, h26, p26, h27, p27, h28, p28, h29, p29, IL_cons, IL_nil, ha, hd, sa, sb, sc, sd]
    refine W_mono (c8 n [a * a + d * d, a * b + c * d, a * c - b * d, 0] g0 h2 rfl t') ?_
    rintro v t2 ⟨rfl, rfl⟩
    have hR : Bd [a, 0, 0, d] := fun x hx => by
      simp only [List.mem_cons, List.not_mem_nil, or_false] at hx
      rcases hx with e | e | e | e
      · rw [e]; exact h1.bd _ (by simp)
      · rw [e]; decide
      · rw [e]; decide
      · rw [e]; exact h1.bd _ (by simp)
    refine W_mono (c8 n [a, 0, 0, d] g1 hR rfl t2) ?_
    rintro v t3 ⟨rfl, rfl⟩
    simp [Mini.execs, Mini.exec, Mini.tst, Mini.tsts, Mini.ev, Mini.evs, Mini.evP, Mini.evB, Mini.asgn, Mini.asgns, W_bnd, W_ret, W_lft, W_lft0, W_cond, W_if, W_cel, W_resd, W_fail, peek, look, slot, Mini.pk, Mini.evI, Mini.tsts, dats, seqL, seqT, pyAt, bop_add, bop_sub, bop_mulP, bop_modP, bop_fdivP, bf_lenL, bf_lenT, bf_abs, bf_int, bf_tupL, bf_tupT, bf_lisL, bf_lisT, bf_max, bf_min, bf_gcd, co_lt, co_le, co_gt, co_ge, co_eq, co_ne, truth, isTy, int?, Mini.bindKw, h0, p0, h1, p1, h2, p2, h3, p3, h4, p4, h5, p5, h6, p6, h7, p7, h8, p8, h9, p9, h10, p10, h11, p11, h12, p12, h13, p13, h14, p14, h15, p15, h16, p16, h17, p17, h18, p18, h19, p19, h20, p20, h21, p21, h22, p22, h23, p23, h24, p24, h25, p25, h26, p26, h27, p27, h28, p28, h29, p29]
    exact ⟨rfl, rfl⟩
theorem T_ne0 {u : List Int} (h : T u) : u ≠ [0, 0, 0, 0] := fun e => by
  have := h.1
  rw [e] at this
  exact absurd this (by decide)
theorem c27 (n : Nat) (a b c d e f g h : Int) (s : List Int) (hu : T [a, b, c, d]) (hv : T [e, f, g, h]) (mu : Md [a, b, c, d]) (mv : Md [e, f, g, h]) (h0 : gL (qp e f g h a b c d) ≠ 0) (hs : nrm (qp e f g h a b c d) = s) (hb : Bd s) (hl : s.length = 4) (t : Tap) :
    W (call S (n+7) 27 [.d (Pr [a, b, c, d] [e, f, g, h]), .d (.tuple (IL s))]) t (Is (.bool true) t) := by
  have gu : gL [a, b, c, d] ≠ 0 := by rw [hu.1]; decide
  have gv : gL [e, f, g, h] ≠ 0 := by rw [hv.1]; decide
  have fl : ∀ l : List Int, l.filter (fun _ => false) = [] := fun l => List.filter_eq_nil_iff.mpr (by simp)
  have co1 : cop .eq (.tuple (IL [a, b, c, d])) (.tuple [.int 0, .int 0, .int 0, .int 0]) = some false := by rw [co_eqT4, decide_eq_false (T_ne0 hu)]
  have co2 : cop .eq (.tuple (IL [e, f, g, h])) (.tuple [.int 0, .int 0, .int 0, .int 0]) = some false := by rw [co_eqT4, decide_eq_false (T_ne0 hv)]
  refine W_call rfl rfl ?_
  simp [d27, start, Mini.execs, Mini.exec, Mini.tst, Mini.tsts, Mini.ev, Mini.evs, Mini.evP, Mini.evB, Mini.asgn, Mini.asgns, W_bnd, W_ret, W_lft, W_lft0, W_cond, W_if, W_cel, W_resd, W_fail, peek, look, slot, Mini.pk, Mini.evI, Mini.tsts, dats, seqL, seqT, pyAt, bop_add, bop_sub, bop_mulP, bop_modP, bop_fdivP, bf_lenL, bf_lenT, bf_abs, bf_int, bf_tupL, bf_tupT, bf_lisL, bf_lisT, bf_max, bf_min, bf_gcd, co_lt, co_le, co_gt, co_ge, co_eq, co_ne, truth, isTy, int?, Mini.bindKw, h0, p0, h1, p1, h2, p2, h3, p3, h4, p4, h5, p5, h6, p6, h7, p7, h8, p8, h9, p9, h10, p10, h11, p11, h12, p12, h13, p13, h14, p14, h15, p15, h16, p16, h17, p17, h18, p18, h19, p19, h20, p20, h21, p21, h22, p22, h23, p23, h24, p24, h25, p25, h26, p26, h27, p27, h28, p28, h29, p29, Pr, Mini.forL]
  refine W_mono (c9 (n + 2) [a, b, c, d] hu rfl t) ?_
  rintro v t' ⟨rfl, rfl⟩
  simp [Mini.execs, Mini.exec, Mini.tst, Mini.tsts, Mini.ev, Mini.evs, Mini.evP, Mini.evB, Mini.asgn, Mini.asgns, W_bnd, W_ret, W_lft, W_lft0, W_cond, W_if, W_cel, W_resd, W_fail, peek, look, slot, Mini.pk, Mini.evI, Mini.tsts, dats, seqL, seqT, pyAt, bop_add, bop_sub, bop_mulP, bop_modP, bop_fdivP, bf_lenL, bf_lenT, bf_abs, bf_int, bf_tupL, bf_tupT, bf_lisL, bf_lisT, bf_max, bf_min, bf_gcd, co_lt, co_le, co_gt, co_ge, co_eq, co_ne, truth, isTy, int?, Mini.bindKw, h0, p0, h1, p1, h2, p2, h3, p3, h4, p4, h5, p5, h6, p6, h7, p7, h8, p8, h9, p9, h10, p10, h11, p11, h12, p12, h13, p13, h14, p14, h15, p15, h16, p16, h17, p17, h18, p18, h19, p19, h20, p20, h21, p21, h22, p22, h23, p23, h24, p24, h25, p25, h26, p26, h27, p27, h28, p28, h29, p29]
  refine W_fil (fun _ => false) [a, b, c, d] ?_ ?_
  · intro x hx
    simp [Mini.execs, Mini.exec, Mini.tst, Mini.tsts, Mini.ev, Mini.evs, Mini.evP, Mini.evB, Mini.asgn, Mini.asgns, W_bnd, W_ret, W_lft, W_lft0, W_cond, W_if, W_cel, W_resd, W_fail, peek, look, slot, Mini.pk, Mini.evI, Mini.tsts, dats, seqL, seqT, pyAt, bop_add, bop_sub, bop_mulP, bop_modP, bop_fdivP, bf_lenL, bf_lenT, bf_abs, bf_int, bf_tupL, bf_tupT, bf_lisL, bf_lisT, bf_max, bf_min, bf_gcd, co_lt, co_le, co_gt, co_ge, co_eq, co_ne, truth, isTy, int?, Mini.bindKw, h0, p0, h1, p1, h2, p2, h3, p3, h4, p4, h5, p5, h6, p6, h7, p7, h8, p8, h9, p9, h10, p10, h11, p11, h12, p12, h13, p13, h14, p14, h15, p15, h16, p16, h17, p17, h18, p18, h19, p19, h20, p20, h21, p21, h22, p22, h23, p23, h24, p24, h25, p25, h26, p26, h27, p27, h28, p28, h29, p29, Mini.gslots, Mini.wipeE]
  simp [Mini.execs, Mini.exec, Mini.tst, Mini.tsts, Mini.ev, Mini.evs, Mini.evP, Mini.evB, Mini.asgn, Mini.asgns, W_bnd, W_ret, W_lft, W_lft0, W_cond, W_if, W_cel, W_resd, W_fail, peek, look, slot, Mini.pk, Mini.evI, Mini.tsts, dats, seqL, seqT, pyAt, bop_add, bop_sub, bop_mulP, bop_modP, bop_fdivP, bf_lenL, bf_lenT, bf_abs, bf_int, bf_tupL, bf_tupT, bf_lisL, bf_lisT, bf_max, bf_min, bf_gcd, co_lt, co_le, co_gt, co_ge, co_eq, co_ne, truth, isTy, int?, Mini.bindKw, h0, p0, h1, p1, h2, p2, h3, p3, h4, p4, h5, p5, h6, p6, h7, p7, h8, p8, h9, p9, h10, p10, h11, p11, h12, p12, h13, p13, h14, p14, h15, p15, h16, p16, h17, p17, h18, p18, h19, p19, h20, p20, h21, p21, h22, p22, h23, p23, h24, p24, h25, p25, h26, p26, h27, p27, h28, p28, h29, p29, fl, IL_nil, co_neL0, co1]
  refine W_mono (c21 (n + 3) (.tuple (IL [a, b, c, d])) _ rfl gu mu.bd t') ?_
  rintro v t2 ⟨rfl, rfl⟩
  simp [Mini.execs, Mini.exec, Mini.tst, Mini.tsts, Mini.ev, Mini.evs, Mini.evP, Mini.evB, Mini.asgn, Mini.asgns, W_bnd, W_ret, W_lft, W_lft0, W_cond, W_if, W_cel, W_resd, W_fail, peek, look, slot, Mini.pk, Mini.evI, Mini.tsts, dats, seqL, seqT, pyAt, bop_add, bop_sub, bop_mulP, bop_modP, bop_fdivP, bf_lenL, bf_lenT, bf_abs, bf_int, bf_tupL, bf_tupT, bf_lisL, bf_lisT, bf_max, bf_min, bf_gcd, co_lt, co_le, co_gt, co_ge, co_eq, co_ne, truth, isTy, int?, Mini.bindKw, h0, p0, h1, p1, h2, p2, h3, p3, h4, p4, h5, p5, h6, p6, h7, p7, h8, p8, h9, p9, h10, p10, h11, p11, h12, p12, h13, p13, h14, p14, h15, p15, h16, p16, h17, p17, h18, p18, h19, p19, h20, p20, h21, p21, h22, p22, h23, p23, h24, p24, h25, p25, h26, p26, h27, p27, h28, p28, h29, p29, co_neT, nrm_T hu]
  refine W_mono (c9 (n + 2) [e, f, g, h] hv rfl t2) ?_
  rintro v t3 ⟨rfl, rfl⟩
  simp [Mini.execs, Mini.exec, Mini.tst, Mini.tsts, Mini.ev, Mini.evs, Mini.evP, Mini.evB, Mini.asgn, Mini.asgns, W_bnd, W_ret, W_lft, W_lft0, W_cond, W_if, W_cel, W_resd, W_fail, peek, look, slot, Mini.pk, Mini.evI, Mini.tsts, dats, seqL, seqT, pyAt, bop_add, bop_sub, bop_mulP, bop_modP, bop_fdivP, bf_lenL, bf_lenT, bf_abs, bf_int, bf_tupL, bf_tupT, bf_lisL, bf_lisT, bf_max, bf_min, bf_gcd, co_lt, co_le, co_gt, co_ge, co_eq, co_ne, truth, isTy, int?, Mini.bindKw, h0, p0, h1, p1, h2, p2, h3, p3, h4, p4, h5, p5, h6, p6, h7, p7, h8, p8, h9, p9, h10, p10, h11, p11, h12, p12, h13, p13, h14, p14, h15, p15, h16, p16, h17, p17, h18, p18, h19, p19, h20, p20, h21, p21, h22, p22, h23, p23, h24, p24, h25, p25, h26, p26, h27, p27, h28, p28, h29, p29]
  refine W_fil (fun _ => false) [e, f, g, h] ?_ ?_
  · intro x hx
    simp [Mini.execs, Mini.exec, Mini.tst, Mini.tsts, Mini.ev, Mini.evs, Mini.evP, Mini.evB, Mini.asgn, Mini.asgns, W_bnd, W_ret, W_lft, W_lft0, W_cond, W_if, W_cel, W_resd, W_fail, peek, look, slot, Mini.pk, Mini.evI, Mini.tsts, dats, seqL, seqT, pyAt, bop_add, bop_sub, bop_mulP, bop_modP, bop_fdivP, bf_lenL, bf_lenT, bf_abs, bf_int, bf_tupL, bf_tupT, bf_lisL, bf_lisT, bf_max, bf_min, bf_gcd, co_lt, co_le, co_gt, co_ge, co_eq, co_ne, truth, isTy, int?, Mini.bindKw, h0, p0, h1, p1, h2, p2, h3, p3, h4, p4, h5, p5, h6, p6, h7, p7, h8, p8, h9, p9, h10, p10, h11, p11, h12, p12, h13, p13, h14, p14, h15, p15, h16, p16, h17, p17, h18, p18, h19, p19, h20, p20, h21, p21, h22, p22, h23, p23, h24, p24, h25, p25, h26, p26, h27, p27, h28, p28, h29, p29, Mini.gslots, Mini.wipeE]
  simp [Mini.execs, Mini.exec, Mini.tst, Mini.tsts, Mini.ev, Mini.evs, Mini.evP, Mini.evB, Mini.asgn, Mini.asgns, W_bnd, W_ret, W_lft, W_lft0, W_cond, W_if, W_cel, W_resd, W_fail, peek, look, slot, Mini.pk, Mini.evI, Mini.tsts, dats, seqL, seqT, pyAt, bop_add, bop_sub, bop_mulP, bop_modP, bop_fdivP, bf_lenL, bf_lenT, bf_abs, bf_int, bf_tupL, bf_tupT, bf_lisL, bf_lisT, bf_max, bf_min, bf_gcd, co_lt, co_le, co_gt, co_ge, co_eq, co_ne, truth, isTy, int?, Mini.bindKw, h0, p0, h1, p1, h2, p2, h3, p3, h4, p4, h5, p5, h6, p6, h7, p7, h8, p8, h9, p9, h10, p10, h11, p11, h12, p12, h13, p13, h14, p14, h15, p15, h16, p16, h17, p17, h18, p18, h19, p19, h20, p20, h21, p21, h22, p22, h23, p23, h24, p24, h25, p25, h26, p26, h27, p27, h28, p28, h29, p29, fl, IL_nil, co_neL0, co2]
  refine W_mono (c21 (n + 3) (.tuple (IL [e, f, g, h])) _ rfl gv mv.bd t3) ?_
  rintro v t4 ⟨rfl, rfl⟩
  simp [Mini.execs, Mini.exec, Mini.tst, Mini.tsts, Mini.ev, Mini.evs, Mini.evP, Mini.evB, Mini.asgn, Mini.asgns, W_bnd, W_ret, W_lft, W_lft0, W_cond, W_if, W_cel, W_resd, W_fail, peek, look, slot, Mini.pk, Mini.evI, Mini.tsts, dats, seqL, seqT, pyAt, bop_add, bop_sub, bop_mulP, bop_modP, bop_fdivP, bf_lenL, bf_lenT, bf_abs, bf_int, bf_tupL, bf_tupT, bf_lisL, bf_lisT, bf_max, bf_min, bf_gcd, co_lt, co_le, co_gt, co_ge, co_eq, co_ne, truth, isTy, int?, Mini.bindKw, h0, p0, h1, p1, h2, p2, h3, p3, h4, p4, h5, p5, h6, p6, h7, p7, h8, p8, h9, p9, h10, p10, h11, p11, h12, p12, h13, p13, h14, p14, h15, p15, h16, p16, h17, p17, h18, p18, h19, p19, h20, p20, h21, p21, h22, p22, h23, p23, h24, p24, h25, p25, h26, p26, h27, p27, h28, p28, h29, p29, co_neT, nrm_T hv]
  refine W_mono (c23 (n + 2) a b c d e f g h mu mv h0 t4) ?_
  rintro v t5 ⟨rfl, rfl⟩
  simp [Mini.execs, Mini.exec, Mini.tst, Mini.tsts, Mini.ev, Mini.evs, Mini.evP, Mini.evB, Mini.asgn, Mini.asgns, W_bnd, W_ret, W_lft, W_lft0, W_cond, W_if, W_cel, W_resd, W_fail, peek, look, slot, Mini.pk, Mini.evI, Mini.tsts, dats, seqL, seqT, pyAt, bop_add, bop_sub, bop_mulP, bop_modP, bop_fdivP, bf_lenL, bf_lenT, bf_abs, bf_int, bf_tupL, bf_tupT, bf_lisL, bf_lisT, bf_max, bf_min, bf_gcd, co_lt, co_le, co_gt, co_ge, co_eq, co_ne, truth, isTy, int?, Mini.bindKw, h0, p0, h1, p1, h2, p2, h3, p3, h4, p4, h5, p5, h6, p6, h7, p7, h8, p8, h9, p9, h10, p10, h11, p11, h12, p12, h13, p13, h14, p14, h15, p15, h16, p16, h17, p17, h18, p18, h19, p19, h20, p20, h21, p21, h22, p22, h23, p23, h24, p24, h25, p25, h26, p26, h27, p27, h28, p28, h29, p29, co_eqT, hs]
  refine W_mono (c12 n a b c d e f g h hu hv mu mv h0 t5) ?_
  rintro v t6 ⟨rfl, rfl⟩
  simp [Mini.execs, Mini.exec, Mini.tst, Mini.tsts, Mini.ev, Mini.evs, Mini.evP, Mini.evB, Mini.asgn, Mini.asgns, W_bnd, W_ret, W_lft, W_lft0, W_cond, W_if, W_cel, W_resd, W_fail, peek, look, slot, Mini.pk, Mini.evI, Mini.tsts, dats, seqL, seqT, pyAt, bop_add, bop_sub, bop_mulP, bop_modP, bop_fdivP, bf_lenL, bf_lenT, bf_abs, bf_int, bf_tupL, bf_tupT, bf_lisL, bf_lisT, bf_max, bf_min, bf_gcd, co_lt, co_le, co_gt, co_ge, co_eq, co_ne, truth, isTy, int?, Mini.bindKw, h0, p0, h1, p1, h2, p2, h3, p3, h4, p4, h5, p5, h6, p6, h7, p7, h8, p8, h9, p9, h10, p10, h11, p11, h12, p12, h13, p13, h14, p14, h15, p15, h16, p16, h17, p17, h18, p18, h19, p19, h20, p20, h21, p21, h22, p22, h23, p23, h24, p24, h25, p25, h26, p26, h27, p27, h28, p28, h29, p29, hs, bf_reprT hb hl, co_eqS]
  exact ⟨rfl, rfl⟩
end K29

end

section
set_option Elab.async false
set_option linter.all false
set_option maxRecDepth 100000
set_option maxHeartbeats 600000
namespace K29
open Mini Gm
open PySem (PyData Str)
theorem Tq.nums {j : Nat} {t : Tap} (h : Tq j t) : ∃ l, ints? t = some l := by
  obtain ⟨a, b, k, rfl, _⟩ := h
  exact ⟨[a, b, k], rfl⟩
def PkQ (xs : List PyData) (j : Nat) (v : Val) (t : Tap) : Prop := ∃ x ∈ xs, v = .d x ∧ Tq j t
theorem c17 (n j : Nat) (xs : List PyData) (t : Tap) (h0 : 0 < xs.length) (h1 : xs.length < 1073741824) (hj : j < 1000000) (ht : Tq j t) : W (call S (n+2) 17 [.cel, .d (.tuple xs)]) t (PkQ xs (j + 1)) := by
  refine W_call rfl rfl ?_
  simp [d17, start, Mini.execs, Mini.exec, Mini.tst, Mini.tsts, Mini.ev, Mini.evs, Mini.evP, Mini.evB, Mini.asgn, Mini.asgns, W_bnd, W_ret, W_lft, W_lft0, W_cond, W_if, W_cel, W_resd, W_fail, peek, look, slot, Mini.pk, Mini.evI, Mini.tsts, dats, seqL, seqT, pyAt, bop_add, bop_sub, bop_mulP, bop_modP, bop_fdivP, bf_lenL, bf_lenT, bf_abs, bf_int, bf_tupL, bf_tupT, bf_lisL, bf_lisT, bf_max, bf_min, bf_gcd, co_lt, co_le, co_gt, co_ge, co_eq, co_ne, truth, isTy, int?, Mini.bindKw, h0, p0, h1, p1, h2, p2, h3, p3, h4, p4, h5, p5, h6, p6, h7, p7, h8, p8, h9, p9, h10, p10, h11, p11, h12, p12, h13, p13, h14, p14, h15, p15, h16, p16, h17, p17, h18, p18, h19, p19, h20, p20, h21, p21, h22, p22, h23, p23, h24, p24, h25, p25, h26, p26, h27, p27, h28, p28, h29, p29]
  refine W_mono (c16 n j xs.length t (by omega) (by omega) hj ht) ?_
  rintro v t' ⟨f, rfl, f0, f1, tq⟩
  have hi : f.toNat < xs.length := by omega
  have e : xs[f.toNat]? = some xs[f.toNat] := List.getElem?_eq_getElem hi
  simp [Mini.execs, Mini.exec, Mini.tst, Mini.tsts, Mini.ev, Mini.evs, Mini.evP, Mini.evB, Mini.asgn, Mini.asgns, W_bnd, W_ret, W_lft, W_lft0, W_cond, W_if, W_cel, W_resd, W_fail, peek, look, slot, Mini.pk, Mini.evI, Mini.tsts, dats, seqL, seqT, pyAt, bop_add, bop_sub, bop_mulP, bop_modP, bop_fdivP, bf_lenL, bf_lenT, bf_abs, bf_int, bf_tupL, bf_tupT, bf_lisL, bf_lisT, bf_max, bf_min, bf_gcd, co_lt, co_le, co_gt, co_ge, co_eq, co_ne, truth, isTy, int?, Mini.bindKw, h0, p0, h1, p1, h2, p2, h3, p3, h4, p4, h5, p5, h6, p6, h7, p7, h8, p8, h9, p9, h10, p10, h11, p11, h12, p12, h13, p13, h14, p14, h15, p15, h16, p16, h17, p17, h18, p18, h19, p19, h20, p20, h21, p21, h22, p22, h23, p23, h24, p24, h25, p25, h26, p26, h27, p27, h28, p28, h29, p29, f0, e]
  exact ⟨_, List.getElem_mem hi, rfl, tq⟩
def AbQ (m : Int) (j : Nat) (v : Val) (t : Tap) : Prop := ∃ f, v = .d (.int f) ∧ -m ≤ f ∧ f ≤ m ∧ Tq j t
theorem c18 (n j : Nat) (m : Int) (t : Tap) (h0 : 0 ≤ m) (h1 : m < 100000000) (hj : j < 1000000) (ht : Tq j t) : W (call S (n+2) 18 [.cel, .d (.int m)]) t (AbQ m (j + 1)) := by
  have s2 : Sm 2 := sm_of (by omega)
  have sm : Sm m := sm_of (by omega)
  refine W_call rfl rfl ?_
  simp [d18, start, Mini.execs, Mini.exec, Mini.tst, Mini.tsts, Mini.ev, Mini.evs, Mini.evP, Mini.evB, Mini.asgn, Mini.asgns, W_bnd, W_ret, W_lft, W_lft0, W_cond, W_if, W_cel, W_resd, W_fail, peek, look, slot, Mini.pk, Mini.evI, Mini.tsts, dats, seqL, seqT, pyAt, bop_add, bop_sub, bop_mulP, bop_modP, bop_fdivP, bf_lenL, bf_lenT, bf_abs, bf_int, bf_tupL, bf_tupT, bf_lisL, bf_lisT, bf_max, bf_min, bf_gcd, co_lt, co_le, co_gt, co_ge, co_eq, co_ne, truth, isTy, int?, Mini.bindKw, h0, p0, h1, p1, h2, p2, h3, p3, h4, p4, h5, p5, h6, p6, h7, p7, h8, p8, h9, p9, h10, p10, h11, p11, h12, p12, h13, p13, h14, p14, h15, p15, h16, p16, h17, p17, h18, p18, h19, p19, h20, p20, h21, p21, h22, p22, h23, p23, h24, p24, h25, p25, h26, p26, h27, p27, h28, p28, h29, p29, s2, sm]
  refine W_mono (c16 n j (2 * m + 1) t (by omega) (by omega) hj ht) ?_
  rintro v t' ⟨f, rfl, f0, f1, tq⟩
  simp [Mini.execs, Mini.exec, Mini.tst, Mini.tsts, Mini.ev, Mini.evs, Mini.evP, Mini.evB, Mini.asgn, Mini.asgns, W_bnd, W_ret, W_lft, W_lft0, W_cond, W_if, W_cel, W_resd, W_fail, peek, look, slot, Mini.pk, Mini.evI, Mini.tsts, dats, seqL, seqT, pyAt, bop_add, bop_sub, bop_mulP, bop_modP, bop_fdivP, bf_lenL, bf_lenT, bf_abs, bf_int, bf_tupL, bf_tupT, bf_lisL, bf_lisT, bf_max, bf_min, bf_gcd, co_lt, co_le, co_gt, co_ge, co_eq, co_ne, truth, isTy, int?, Mini.bindKw, h0, p0, h1, p1, h2, p2, h3, p3, h4, p4, h5, p5, h6, p6, h7, p7, h8, p8, h9, p9, h10, p10, h11, p11, h12, p12, h13, p13, h14, p14, h15, p15, h16, p16, h17, p17, h18, p18, h19, p19, h20, p20, h21, p21, h22, p22, h23, p23, h24, p24, h25, p25, h26, p26, h27, p27, h28, p28, h29, p29]
  exact ⟨_, rfl, by omega, by omega, tq⟩
def SB : Int := 10000000000000
theorem c25 (n j : Nat) (m : Int) (t : Tap) (h0 : 0 ≤ m) (h1 : m ≤ 1000000) (hj : j < 999990) (ht : Tq j t) : W (call S (n+3) 25 [.cel, .d (.int m)]) t (AbQ SB (j + 2)) := by
  have wk : ∀ {i : Nat} {t}, Tq i t → ∀ k, i ≤ k → Tq k t := fun {i t} ⟨a, b, k, e, p1, p2, p3, p4, p5⟩ q hq => ⟨a, b, k, e, p1, p2, p3, p4, by omega⟩
  refine W_call rfl rfl ?_
  by_cases hm : 0 < m
  · simp [d25, start, Mini.execs, Mini.exec, Mini.tst, Mini.tsts, Mini.ev, Mini.evs, Mini.evP, Mini.evB, Mini.asgn, Mini.asgns, W_bnd, W_ret, W_lft, W_lft0, W_cond, W_if, W_cel, W_resd, W_fail, peek, look, slot, Mini.pk, Mini.evI, Mini.tsts, dats, seqL, seqT, pyAt, bop_add, bop_sub, bop_mulP, bop_modP, bop_fdivP, bf_lenL, bf_lenT, bf_abs, bf_int, bf_tupL, bf_tupT, bf_lisL, bf_lisT, bf_max, bf_min, bf_gcd, co_lt, co_le, co_gt, co_ge, co_eq, co_ne, truth, isTy, int?, Mini.bindKw, h0, p0, h1, p1, h2, p2, h3, p3, h4, p4, h5, p5, h6, p6, h7, p7, h8, p8, h9, p9, h10, p10, h11, p11, h12, p12, h13, p13, h14, p14, h15, p15, h16, p16, h17, p17, h18, p18, h19, p19, h20, p20, h21, p21, h22, p22, h23, p23, h24, p24, h25, p25, h26, p26, h27, p27, h28, p28, h29, p29, hm]
    refine W_mono (c18 n j m t h0 (by omega) (by omega) ht) ?_
    rintro v t' ⟨f, rfl, f0, f1, tq⟩
    exact ⟨_, rfl, by unfold SB; omega, by unfold SB; omega, wk tq _ (by omega)⟩
  · have s10 : powOk 10 6 = true := by decide +kernel
    have pw : (10 : Int) ^ (Int.toNat 6) = 1000000 := by decide
    have k18 := c18 n j 999999 t (by omega) (by omega) (by omega) ht
    simp [d25, start, Mini.execs, Mini.exec, Mini.tst, Mini.tsts, Mini.ev, Mini.evs, Mini.evP, Mini.evB, Mini.asgn, Mini.asgns, W_bnd, W_ret, W_lft, W_lft0, W_cond, W_if, W_cel, W_resd, W_fail, peek, look, slot, Mini.pk, Mini.evI, Mini.tsts, dats, seqL, seqT, pyAt, bop_add, bop_sub, bop_mulP, bop_modP, bop_fdivP, bf_lenL, bf_lenT, bf_abs, bf_int, bf_tupL, bf_tupT, bf_lisL, bf_lisT, bf_max, bf_min, bf_gcd, co_lt, co_le, co_gt, co_ge, co_eq, co_ne, truth, isTy, int?, Mini.bindKw, h0, p0, h1, p1, h2, p2, h3, p3, h4, p4, h5, p5, h6, p6, h7, p7, h8, p8, h9, p9, h10, p10, h11, p11, h12, p12, h13, p13, h14, p14, h15, p15, h16, p16, h17, p17, h18, p18, h19, p19, h20, p20, h21, p21, h22, p22, h23, p23, h24, p24, h25, p25, h26, p26, h27, p27, h28, p28, h29, p29, hm]
    refine W_mono k18 ?_
    rintro v t' ⟨f, rfl, f0, f1, tq⟩
    have s1 : Sm f := sm_of (by omega)
    have s2 : Sm 1000000 := sm_of (by omega)
    simp [Mini.execs, Mini.exec, Mini.tst, Mini.tsts, Mini.ev, Mini.evs, Mini.evP, Mini.evB, Mini.asgn, Mini.asgns, W_bnd, W_ret, W_lft, W_lft0, W_cond, W_if, W_cel, W_resd, W_fail, peek, look, slot, Mini.pk, Mini.evI, Mini.tsts, dats, seqL, seqT, pyAt, bop_add, bop_sub, bop_mulP, bop_modP, bop_fdivP, bf_lenL, bf_lenT, bf_abs, bf_int, bf_tupL, bf_tupT, bf_lisL, bf_lisT, bf_max, bf_min, bf_gcd, co_lt, co_le, co_gt, co_ge, co_eq, co_ne, truth, isTy, int?, Mini.bindKw, h0, p0, h1, p1, h2, p2, h3, p3, h4, p4, h5, p5, h6, p6, h7, p7, h8, p8, h9, p9, h10, p10, h11, p11, h12, p12, h13, p13, h14, p14, h15, p15, h16, p16, h17, p17, h18, p18, h19, p19, h20, p20, h21, p21, h22, p22, h23, p23, h24, p24, h25, p25, h26, p26, h27, p27, h28, p28, h29, p29, bop_pow s10, pw, s1, s2]
    refine W_mono (c16 (n + 1) (j + 1) 1000000 t' (by omega) (by omega) (by omega) tq) ?_
    rintro v t2 ⟨g, rfl, g0, g1, tq2⟩
    simp [Mini.execs, Mini.exec, Mini.tst, Mini.tsts, Mini.ev, Mini.evs, Mini.evP, Mini.evB, Mini.asgn, Mini.asgns, W_bnd, W_ret, W_lft, W_lft0, W_cond, W_if, W_cel, W_resd, W_fail, peek, look, slot, Mini.pk, Mini.evI, Mini.tsts, dats, seqL, seqT, pyAt, bop_add, bop_sub, bop_mulP, bop_modP, bop_fdivP, bf_lenL, bf_lenT, bf_abs, bf_int, bf_tupL, bf_tupT, bf_lisL, bf_lisT, bf_max, bf_min, bf_gcd, co_lt, co_le, co_gt, co_ge, co_eq, co_ne, truth, isTy, int?, Mini.bindKw, h0, p0, h1, p1, h2, p2, h3, p3, h4, p4, h5, p5, h6, p6, h7, p7, h8, p8, h9, p9, h10, p10, h11, p11, h12, p12, h13, p13, h14, p14, h15, p15, h16, p16, h17, p17, h18, p18, h19, p19, h20, p20, h21, p21, h22, p22, h23, p23, h24, p24, h25, p25, h26, p26, h27, p27, h28, p28, h29, p29]
    exact ⟨_, rfl, by unfold SB; omega, by unfold SB; omega, tq2⟩
/-- four draws in a row -/
theorem W_draws {as : PyData → M Env} {mt : Env → M Bool} {me : Env → M Val} {B : Int} {c : Nat} : ∀ (xs : List PyData) (j : Nat) (t : Tap) {Q : List PyData → Tap → Prop}, j + c * xs.length < 999000 →
    (∀ x ∈ xs, ∀ i t, i < 999000 → Tq i t → W (as x) t fun env t1 => t1 = t ∧ W (mt env) t fun b t2 => t2 = t ∧ b = true ∧ W (me env) t (AbQ B (i + c))) → Tq j t →
    (∀ (l : List Int) t', l.length = xs.length → (∀ x ∈ l, -B ≤ x ∧ x ≤ B) → Tq (j + c * xs.length) t' → Q (IL l) t') → W (evC as mt me xs) t Q
  | [], j, t, Q, _, _, ht, q => ⟨[], t, rfl, q [] t rfl (fun _ h => by cases h) (by simpa using ht)⟩
  | x :: xs, j, t, Q, hj, h, ht, q => by
    have ej : c * (xs.length + 1) = c + c * xs.length := by rw [Nat.mul_succ]; omega
    simp only [List.length_cons, ej] at hj q
    unfold evC
    rw [W_bnd]
    refine W_mono (h x List.mem_cons_self j t (by omega) ht) ?_
    rintro env t1 ⟨rfl, h1⟩
    rw [W_bnd]
    refine W_mono h1 ?_
    rintro b t2 ⟨rfl, rfl, h2⟩
    rw [W_cond, if_pos rfl, W_bnd]
    refine W_mono h2 ?_
    rintro y t3 ⟨f, rfl, f0, f1, tq⟩
    rw [W_bnd]
    refine W_draws xs (j + c) t3 (Q := fun ys t' => W (ret (PyData.int f :: ys)) t' Q) (by omega) (fun y hy => h y (List.mem_cons_of_mem _ hy)) tq ?_
    intro l t' hl hb tq'
    rw [W_ret]
    refine q (f :: l) t' (by rw [List.length_cons, hl]) (fun z hz => ?_) (by rw [← Nat.add_assoc]; exact tq')
    rcases List.mem_cons.mp hz with e | hz
    · rw [e]; exact ⟨f0, f1⟩
    · exact hb z hz
def SpQ (j : Nat) (v : Val) (t : Tap) : Prop := ∃ a b c d : Int, v = .d (.tuple (IL [a, b, c, d])) ∧ T [a, b, c, d] ∧ (∀ x ∈ [a, b, c, d], x.natAbs ≤ 10000000000000) ∧ Tq j t
theorem list4 {l : List Int} (h : l.length = 4) : ∃ a b c d, l = [a, b, c, d] := by
  match l, h with
  | [a, b, c, d], _ => exact ⟨a, b, c, d, rfl⟩
theorem zero4 {l : List Int} (h : l.length = 4) (hn : l ≠ [0, 0, 0, 0]) : gL l ≠ 0 := by
  obtain ⟨a, b, c, d, rfl⟩ := list4 h
  intro z
  have zz := (gF_zero _ _ z).2
  apply hn
  rw [zz a (by simp), zz b (by simp), zz c (by simp), zz d (by simp)]
theorem SpQ.of {l : List Int} {j : Nat} {t : Tap} (h : l.length = 4) (hn : gL l ≠ 0) (hb : ∀ x ∈ l, x.natAbs ≤ 10000000000000) (ht : Tq j t) : SpQ j (.d (.tuple (IL (nrm l)))) t := by
  have hl : (nrm l).length = 4 := by unfold nrm; rw [List.length_map, h]
  obtain ⟨a, b, c, d, e⟩ := list4 hl
  refine ⟨a, b, c, d, by rw [e], ?_, ?_, ht⟩
  · rw [← e]; exact T_nrm hn
  · rw [← e]; exact nrm_le hb
theorem Tq.wk {i k : Nat} {t : Tap} (h : Tq i t) (q : i ≤ k) : Tq k t := by
  obtain ⟨a, b, k', e, p1, p2, p3, p4, p5⟩ := h
  exact ⟨a, b, k', e, p1, p2, p3, p4, by omega⟩
end K29

end

section
set_option Elab.async false
set_option linter.all false
set_option maxRecDepth 100000
set_option maxHeartbeats 600000
namespace K29
open Mini Gm
open PySem (PyData Str)
theorem T10 : T [0, 0, 0, 1] := by unfold T; decide
theorem T11 : T [1, 0, 0, 0] := by unfold T; decide
/-- the end of a spin: the row told, or its place-holder -/
theorem IL_set (l : List Int) (i : Nat) (x : Int) : (IL l).set i (.int x) = IL (l.set i x) := by unfold IL; rw [List.map_set]
theorem c24 (n j : Nat) (t : Tap) (hj : j < 900000) (ht : Tq j t) : W (call S (n+4) 24 [.cel]) t (SpQ (j + 10)) := by
  refine W_call rfl rfl ?_
  simp [d24, start, Mini.execs, Mini.exec, Mini.tst, Mini.tsts, Mini.ev, Mini.evs, Mini.evP, Mini.evB, Mini.asgn, Mini.asgns, W_bnd, W_ret, W_lft, W_lft0, W_cond, W_if, W_cel, W_resd, W_fail, peek, look, slot, Mini.pk, Mini.evI, Mini.tsts, dats, seqL, seqT, pyAt, bop_add, bop_sub, bop_mulP, bop_modP, bop_fdivP, bf_lenL, bf_lenT, bf_abs, bf_int, bf_tupL, bf_tupT, bf_lisL, bf_lisT, bf_max, bf_min, bf_gcd, co_lt, co_le, co_gt, co_ge, co_eq, co_ne, truth, isTy, int?, Mini.bindKw, h0, p0, h1, p1, h2, p2, h3, p3, h4, p4, h5, p5, h6, p6, h7, p7, h8, p8, h9, p9, h10, p10, h11, p11, h12, p12, h13, p13, h14, p14, h15, p15, h16, p16, h17, p17, h18, p18, h19, p19, h20, p20, h21, p21, h22, p22, h23, p23, h24, p24, h25, p25, h26, p26, h27, p27, h28, p28, h29, p29]
  refine W_mono (c16 (n + 2) j 8 t (by omega) (by omega) (by omega) ht) ?_
  rintro v t1 ⟨way, rfl, w0, w1, tq1⟩
  refine W_mono (c17 (n + 1) (j + 1) [.int 1, .int 1, .int 2, .int 3, .int 9, .int 100] t1 (by decide) (by decide) (by omega) tq1) ?_
  rintro v t2 ⟨x, hx, rfl, tq2⟩
  obtain ⟨m, rfl, m0, m1⟩ : ∃ m : Int, x = .int m ∧ 0 ≤ m ∧ m ≤ 100 := by
    simp only [List.mem_cons, List.not_mem_nil, or_false] at hx
    rcases hx with rfl | rfl | rfl | rfl | rfl | rfl <;> exact ⟨_, rfl, by decide, by decide⟩
  have l4 : (4 : Int) ≤ (Mini.line : Int) := by decide
  simp [Mini.execs, Mini.exec, Mini.tst, Mini.tsts, Mini.ev, Mini.evs, Mini.evP, Mini.evB, Mini.asgn, Mini.asgns, W_bnd, W_ret, W_lft, W_lft0, W_cond, W_if, W_cel, W_resd, W_fail, peek, look, slot, Mini.pk, Mini.evI, Mini.tsts, dats, seqL, seqT, pyAt, bop_add, bop_sub, bop_mulP, bop_modP, bop_fdivP, bf_lenL, bf_lenT, bf_abs, bf_int, bf_tupL, bf_tupT, bf_lisL, bf_lisT, bf_max, bf_min, bf_gcd, co_lt, co_le, co_gt, co_ge, co_eq, co_ne, truth, isTy, int?, Mini.bindKw, h0, p0, h1, p1, h2, p2, h3, p3, h4, p4, h5, p5, h6, p6, h7, p7, h8, p8, h9, p9, h10, p10, h11, p11, h12, p12, h13, p13, h14, p14, h15, p15, h16, p16, h17, p17, h18, p18, h19, p19, h20, p20, h21, p21, h22, p22, h23, p23, h24, p24, h25, p25, h26, p26, h27, p27, h28, p28, h29, p29, Mini.rngD, l4]
  refine W_draws (B := m) (c := 1) [.int 0, .int 1, .int 2, .int 3] (j + 2) t2 (by simp; omega) ?_ tq2 ?_
  · intro x hx i t hi hti
    simp [Mini.execs, Mini.exec, Mini.tst, Mini.tsts, Mini.ev, Mini.evs, Mini.evP, Mini.evB, Mini.asgn, Mini.asgns, W_bnd, W_ret, W_lft, W_lft0, W_cond, W_if, W_cel, W_resd, W_fail, peek, look, slot, Mini.pk, Mini.evI, Mini.tsts, dats, seqL, seqT, pyAt, bop_add, bop_sub, bop_mulP, bop_modP, bop_fdivP, bf_lenL, bf_lenT, bf_abs, bf_int, bf_tupL, bf_tupT, bf_lisL, bf_lisT, bf_max, bf_min, bf_gcd, co_lt, co_le, co_gt, co_ge, co_eq, co_ne, truth, isTy, int?, Mini.bindKw, h0, p0, h1, p1, h2, p2, h3, p3, h4, p4, h5, p5, h6, p6, h7, p7, h8, p8, h9, p9, h10, p10, h11, p11, h12, p12, h13, p13, h14, p14, h15, p15, h16, p16, h17, p17, h18, p18, h19, p19, h20, p20, h21, p21, h22, p22, h23, p23, h24, p24, h25, p25, h26, p26, h27, p27, h28, p28, h29, p29, Mini.gslots, Mini.wipeE]
    exact c18 (n + 1) i m t m0 (by omega) (by omega) hti
  intro l t3 hl hb tq3
  obtain ⟨a, b, c, d, rfl⟩ := list4 hl
  obtain ⟨il, hil⟩ := tq3.nums
  have ba := hb a (by simp)
  have bb := hb b (by simp)
  have bc := hb c (by simp)
  have bd := hb d (by simp)
  have fin : ∀ (a b c d : Int) (t' : Tap) (k : Nat), a.natAbs ≤ 10000000000000 → b.natAbs ≤ 10000000000000 → c.natAbs ≤ 10000000000000 → d.natAbs ≤ 10000000000000 → Tq k t' → k ≤ j + 10 →
      (if ¬a = 0 ∨ ¬b = 0 ∨ ¬c = 0 ∨ ¬d = 0 then W (call S (n + 3) 21 [.d (.list [.int a, .int b, .int c, .int d])]) t' (fun a t1 => SpQ (j + 10) a t1) else SpQ (j + 10) (.d (.tuple [.int 0, .int 0, .int 0, .int 1])) t') := by
    intro a b c d t' k h1 h2 h3 h4 tq hk
    by_cases hz : ¬a = 0 ∨ ¬b = 0 ∨ ¬c = 0 ∨ ¬d = 0
    · rw [if_pos hz]
      have hz' : [a, b, c, d] ≠ [0, 0, 0, 0] := fun e => by simp at e; omega
      have hb : ∀ x ∈ [a, b, c, d], x.natAbs ≤ 10000000000000 := fun x hx => by
        simp only [List.mem_cons, List.not_mem_nil, or_false] at hx
        rcases hx with e | e | e | e <;> rw [e] <;> assumption
      refine W_mono (c21 n (.list (IL [a, b, c, d])) [a, b, c, d] rfl (zero4 rfl hz') (fun x hx => by have := hb x hx; omega) t') ?_
      rintro v t2 ⟨rfl, rfl⟩
      exact SpQ.of rfl (zero4 rfl hz') hb (tq.wk hk)
    · rw [if_neg hz]
      exact ⟨0, 0, 0, 1, rfl, T10, by decide, tq.wk hk⟩
  by_cases w0' : way = 0
  · simp [Mini.execs, Mini.exec, Mini.tst, Mini.tsts, Mini.ev, Mini.evs, Mini.evP, Mini.evB, Mini.asgn, Mini.asgns, W_bnd, W_ret, W_lft, W_lft0, W_cond, W_if, W_cel, W_resd, W_fail, peek, look, slot, Mini.pk, Mini.evI, Mini.tsts, dats, seqL, seqT, pyAt, bop_add, bop_sub, bop_mulP, bop_modP, bop_fdivP, bf_lenL, bf_lenT, bf_abs, bf_int, bf_tupL, bf_tupT, bf_lisL, bf_lisT, bf_max, bf_min, bf_gcd, co_lt, co_le, co_gt, co_ge, co_eq, co_ne, truth, isTy, int?, Mini.bindKw, h0, p0, h1, p1, h2, p2, h3, p3, h4, p4, h5, p5, h6, p6, h7, p7, h8, p8, h9, p9, h10, p10, h11, p11, h12, p12, h13, p13, h14, p14, h15, p15, h16, p16, h17, p17, h18, p18, h19, p19, h20, p20, h21, p21, h22, p22, h23, p23, h24, p24, h25, p25, h26, p26, h27, p27, h28, p28, h29, p29, W_nums hil, IL_cons, IL_nil, w0', co_neLL]
    refine W_mono (c17 (n + 1) (j + 2 + 1 * 4) [.tuple (IL [1, 1, 1, 1]), .tuple (IL [1, 1, 0, 0]), .tuple (IL [3, 1, 1, 1]), .tuple (IL [0, 1, 1, 0]), .tuple (IL [1, 0, 0, 0]), .tuple (IL [1, 0, 0, 1])] t3 (by decide) (by decide) (by omega) tq3) ?_
    rintro v t4 ⟨x, hx, rfl, tq4⟩
    obtain ⟨il2, hil2⟩ := tq4.nums
    obtain ⟨a', b', c', d', rfl, q1, q2, q3, q4⟩ : ∃ a b c d : Int, x = .tuple [.int a, .int b, .int c, .int d] ∧ a.natAbs ≤ 10000000000000 ∧ b.natAbs ≤ 10000000000000 ∧ c.natAbs ≤ 10000000000000 ∧ d.natAbs ≤ 10000000000000 := by
      simp only [List.mem_cons, List.not_mem_nil, or_false] at hx
      rcases hx with rfl | rfl | rfl | rfl | rfl | rfl <;> exact ⟨_, _, _, _, rfl, by decide, by decide, by decide, by decide⟩
    simp [Mini.execs, Mini.exec, Mini.tst, Mini.tsts, Mini.ev, Mini.evs, Mini.evP, Mini.evB, Mini.asgn, Mini.asgns, W_bnd, W_ret, W_lft, W_lft0, W_cond, W_if, W_cel, W_resd, W_fail, peek, look, slot, Mini.pk, Mini.evI, Mini.tsts, dats, seqL, seqT, pyAt, bop_add, bop_sub, bop_mulP, bop_modP, bop_fdivP, bf_lenL, bf_lenT, bf_abs, bf_int, bf_tupL, bf_tupT, bf_lisL, bf_lisT, bf_max, bf_min, bf_gcd, co_lt, co_le, co_gt, co_ge, co_eq, co_ne, truth, isTy, int?, Mini.bindKw, h0, p0, h1, p1, h2, p2, h3, p3, h4, p4, h5, p5, h6, p6, h7, p7, h8, p8, h9, p9, h10, p10, h11, p11, h12, p12, h13, p13, h14, p14, h15, p15, h16, p16, h17, p17, h18, p18, h19, p19, h20, p20, h21, p21, h22, p22, h23, p23, h24, p24, h25, p25, h26, p26, h27, p27, h28, p28, h29, p29, W_nums hil2, IL_cons, IL_nil, co_neLL]
    exact fin a' b' c' d' t4 _ q1 q2 q3 q4 tq4 (by omega)
  by_cases w1' : way = 1
  · simp [Mini.execs, Mini.exec, Mini.tst, Mini.tsts, Mini.ev, Mini.evs, Mini.evP, Mini.evB, Mini.asgn, Mini.asgns, W_bnd, W_ret, W_lft, W_lft0, W_cond, W_if, W_cel, W_resd, W_fail, peek, look, slot, Mini.pk, Mini.evI, Mini.tsts, dats, seqL, seqT, pyAt, bop_add, bop_sub, bop_mulP, bop_modP, bop_fdivP, bf_lenL, bf_lenT, bf_abs, bf_int, bf_tupL, bf_tupT, bf_lisL, bf_lisT, bf_max, bf_min, bf_gcd, co_lt, co_le, co_gt, co_ge, co_eq, co_ne, truth, isTy, int?, Mini.bindKw, h0, p0, h1, p1, h2, p2, h3, p3, h4, p4, h5, p5, h6, p6, h7, p7, h8, p8, h9, p9, h10, p10, h11, p11, h12, p12, h13, p13, h14, p14, h15, p15, h16, p16, h17, p17, h18, p18, h19, p19, h20, p20, h21, p21, h22, p22, h23, p23, h24, p24, h25, p25, h26, p26, h27, p27, h28, p28, h29, p29, W_nums hil, IL_cons, IL_nil, w0', w1', co_neLL]
    simpa using fin 0 b c d t3 _ (by decide) (by omega) (by omega) (by omega) tq3 (by simp)
  by_cases w2' : way = 2
  · simp [Mini.execs, Mini.exec, Mini.tst, Mini.tsts, Mini.ev, Mini.evs, Mini.evP, Mini.evB, Mini.asgn, Mini.asgns, W_bnd, W_ret, W_lft, W_lft0, W_cond, W_if, W_cel, W_resd, W_fail, peek, look, slot, Mini.pk, Mini.evI, Mini.tsts, dats, seqL, seqT, pyAt, bop_add, bop_sub, bop_mulP, bop_modP, bop_fdivP, bf_lenL, bf_lenT, bf_abs, bf_int, bf_tupL, bf_tupT, bf_lisL, bf_lisT, bf_max, bf_min, bf_gcd, co_lt, co_le, co_gt, co_ge, co_eq, co_ne, truth, isTy, int?, Mini.bindKw, h0, p0, h1, p1, h2, p2, h3, p3, h4, p4, h5, p5, h6, p6, h7, p7, h8, p8, h9, p9, h10, p10, h11, p11, h12, p12, h13, p13, h14, p14, h15, p15, h16, p16, h17, p17, h18, p18, h19, p19, h20, p20, h21, p21, h22, p22, h23, p23, h24, p24, h25, p25, h26, p26, h27, p27, h28, p28, h29, p29, W_nums hil, IL_cons, IL_nil, w0', w1', w2', co_neLL]
    simpa using fin a 0 0 d t3 _ (by omega) (by decide) (by decide) (by omega) tq3 (by simp)
  by_cases w3' : way = 3
  · simp [Mini.execs, Mini.exec, Mini.tst, Mini.tsts, Mini.ev, Mini.evs, Mini.evP, Mini.evB, Mini.asgn, Mini.asgns, W_bnd, W_ret, W_lft, W_lft0, W_cond, W_if, W_cel, W_resd, W_fail, peek, look, slot, Mini.pk, Mini.evI, Mini.tsts, dats, seqL, seqT, pyAt, bop_add, bop_sub, bop_mulP, bop_modP, bop_fdivP, bf_lenL, bf_lenT, bf_abs, bf_int, bf_tupL, bf_tupT, bf_lisL, bf_lisT, bf_max, bf_min, bf_gcd, co_lt, co_le, co_gt, co_ge, co_eq, co_ne, truth, isTy, int?, Mini.bindKw, h0, p0, h1, p1, h2, p2, h3, p3, h4, p4, h5, p5, h6, p6, h7, p7, h8, p8, h9, p9, h10, p10, h11, p11, h12, p12, h13, p13, h14, p14, h15, p15, h16, p16, h17, p17, h18, p18, h19, p19, h20, p20, h21, p21, h22, p22, h23, p23, h24, p24, h25, p25, h26, p26, h27, p27, h28, p28, h29, p29, W_nums hil, IL_cons, IL_nil, w0', w1', w2', w3', co_neLL]
    simpa using fin a b c 0 t3 _ (by omega) (by omega) (by omega) (by decide) tq3 (by simp)
  · simp [Mini.execs, Mini.exec, Mini.tst, Mini.tsts, Mini.ev, Mini.evs, Mini.evP, Mini.evB, Mini.asgn, Mini.asgns, W_bnd, W_ret, W_lft, W_lft0, W_cond, W_if, W_cel, W_resd, W_fail, peek, look, slot, Mini.pk, Mini.evI, Mini.tsts, dats, seqL, seqT, pyAt, bop_add, bop_sub, bop_mulP, bop_modP, bop_fdivP, bf_lenL, bf_lenT, bf_abs, bf_int, bf_tupL, bf_tupT, bf_lisL, bf_lisT, bf_max, bf_min, bf_gcd, co_lt, co_le, co_gt, co_ge, co_eq, co_ne, truth, isTy, int?, Mini.bindKw, h0, p0, h1, p1, h2, p2, h3, p3, h4, p4, h5, p5, h6, p6, h7, p7, h8, p8, h9, p9, h10, p10, h11, p11, h12, p12, h13, p13, h14, p14, h15, p15, h16, p16, h17, p17, h18, p18, h19, p19, h20, p20, h21, p21, h22, p22, h23, p23, h24, p24, h25, p25, h26, p26, h27, p27, h28, p28, h29, p29, W_nums hil, IL_cons, IL_nil, w0', w1', w2', w3', co_neLL]
    exact fin a b c d t3 _ (by omega) (by omega) (by omega) (by omega) tq3 (by simp)
theorem c26 (n j : Nat) (t : Tap) (hj : j < 800000) (ht : Tq j t) : W (call S (n+5) 26 [.cel]) t (SpQ (j + 20)) := by
  have l4 : (4 : Int) ≤ (Mini.line : Int) := by decide
  refine W_call rfl rfl ?_
  simp [d26, start, Mini.execs, Mini.exec, Mini.tst, Mini.tsts, Mini.ev, Mini.evs, Mini.evP, Mini.evB, Mini.asgn, Mini.asgns, W_bnd, W_ret, W_lft, W_lft0, W_cond, W_if, W_cel, W_resd, W_fail, peek, look, slot, Mini.pk, Mini.evI, Mini.tsts, dats, seqL, seqT, pyAt, bop_add, bop_sub, bop_mulP, bop_modP, bop_fdivP, bf_lenL, bf_lenT, bf_abs, bf_int, bf_tupL, bf_tupT, bf_lisL, bf_lisT, bf_max, bf_min, bf_gcd, co_lt, co_le, co_gt, co_ge, co_eq, co_ne, truth, isTy, int?, Mini.bindKw, h0, p0, h1, p1, h2, p2, h3, p3, h4, p4, h5, p5, h6, p6, h7, p7, h8, p8, h9, p9, h10, p10, h11, p11, h12, p12, h13, p13, h14, p14, h15, p15, h16, p16, h17, p17, h18, p18, h19, p19, h20, p20, h21, p21, h22, p22, h23, p23, h24, p24, h25, p25, h26, p26, h27, p27, h28, p28, h29, p29]
  refine W_mono (c16 (n + 3) j 3 t (by omega) (by omega) (by omega) ht) ?_
  rintro v t1 ⟨way, rfl, w0, w1, tq1⟩
  by_cases hw : 0 < way
  · simp [Mini.execs, Mini.exec, Mini.tst, Mini.tsts, Mini.ev, Mini.evs, Mini.evP, Mini.evB, Mini.asgn, Mini.asgns, W_bnd, W_ret, W_lft, W_lft0, W_cond, W_if, W_cel, W_resd, W_fail, peek, look, slot, Mini.pk, Mini.evI, Mini.tsts, dats, seqL, seqT, pyAt, bop_add, bop_sub, bop_mulP, bop_modP, bop_fdivP, bf_lenL, bf_lenT, bf_abs, bf_int, bf_tupL, bf_tupT, bf_lisL, bf_lisT, bf_max, bf_min, bf_gcd, co_lt, co_le, co_gt, co_ge, co_eq, co_ne, truth, isTy, int?, Mini.bindKw, h0, p0, h1, p1, h2, p2, h3, p3, h4, p4, h5, p5, h6, p6, h7, p7, h8, p8, h9, p9, h10, p10, h11, p11, h12, p12, h13, p13, h14, p14, h15, p15, h16, p16, h17, p17, h18, p18, h19, p19, h20, p20, h21, p21, h22, p22, h23, p23, h24, p24, h25, p25, h26, p26, h27, p27, h28, p28, h29, p29, hw]
    refine W_mono (c24 n (j + 1) t1 (by omega) tq1) ?_
    rintro v t2 ⟨a, b, c, d, rfl, h1, h2, h3⟩
    exact ⟨a, b, c, d, rfl, h1, h2, h3.wk (by omega)⟩
  · simp [Mini.execs, Mini.exec, Mini.tst, Mini.tsts, Mini.ev, Mini.evs, Mini.evP, Mini.evB, Mini.asgn, Mini.asgns, W_bnd, W_ret, W_lft, W_lft0, W_cond, W_if, W_cel, W_resd, W_fail, peek, look, slot, Mini.pk, Mini.evI, Mini.tsts, dats, seqL, seqT, pyAt, bop_add, bop_sub, bop_mulP, bop_modP, bop_fdivP, bf_lenL, bf_lenT, bf_abs, bf_int, bf_tupL, bf_tupT, bf_lisL, bf_lisT, bf_max, bf_min, bf_gcd, co_lt, co_le, co_gt, co_ge, co_eq, co_ne, truth, isTy, int?, Mini.bindKw, h0, p0, h1, p1, h2, p2, h3, p3, h4, p4, h5, p5, h6, p6, h7, p7, h8, p8, h9, p9, h10, p10, h11, p11, h12, p12, h13, p13, h14, p14, h15, p15, h16, p16, h17, p17, h18, p18, h19, p19, h20, p20, h21, p21, h22, p22, h23, p23, h24, p24, h25, p25, h26, p26, h27, p27, h28, p28, h29, p29, hw]
    refine W_mono (c17 (n + 2) (j + 1) [.int 30, .int 1000, .int 0] t1 (by decide) (by decide) (by omega) tq1) ?_
    rintro v t2 ⟨x, hx, rfl, tq2⟩
    obtain ⟨m, rfl, m0, m1⟩ : ∃ m : Int, x = .int m ∧ 0 ≤ m ∧ m ≤ 1000000 := by
      simp only [List.mem_cons, List.not_mem_nil, or_false] at hx
      rcases hx with rfl | rfl | rfl <;> exact ⟨_, rfl, by decide, by decide⟩
    simp [Mini.execs, Mini.exec, Mini.tst, Mini.tsts, Mini.ev, Mini.evs, Mini.evP, Mini.evB, Mini.asgn, Mini.asgns, W_bnd, W_ret, W_lft, W_lft0, W_cond, W_if, W_cel, W_resd, W_fail, peek, look, slot, Mini.pk, Mini.evI, Mini.tsts, dats, seqL, seqT, pyAt, bop_add, bop_sub, bop_mulP, bop_modP, bop_fdivP, bf_lenL, bf_lenT, bf_abs, bf_int, bf_tupL, bf_tupT, bf_lisL, bf_lisT, bf_max, bf_min, bf_gcd, co_lt, co_le, co_gt, co_ge, co_eq, co_ne, truth, isTy, int?, Mini.bindKw, h0, p0, h1, p1, h2, p2, h3, p3, h4, p4, h5, p5, h6, p6, h7, p7, h8, p8, h9, p9, h10, p10, h11, p11, h12, p12, h13, p13, h14, p14, h15, p15, h16, p16, h17, p17, h18, p18, h19, p19, h20, p20, h21, p21, h22, p22, h23, p23, h24, p24, h25, p25, h26, p26, h27, p27, h28, p28, h29, p29, Mini.rngD, l4]
    refine W_draws (B := SB) (c := 2) [.int 0, .int 1, .int 2, .int 3] (j + 2) t2 (by simp; omega) ?_ tq2 ?_
    · intro x hx i t hi hti
      simp [Mini.execs, Mini.exec, Mini.tst, Mini.tsts, Mini.ev, Mini.evs, Mini.evP, Mini.evB, Mini.asgn, Mini.asgns, W_bnd, W_ret, W_lft, W_lft0, W_cond, W_if, W_cel, W_resd, W_fail, peek, look, slot, Mini.pk, Mini.evI, Mini.tsts, dats, seqL, seqT, pyAt, bop_add, bop_sub, bop_mulP, bop_modP, bop_fdivP, bf_lenL, bf_lenT, bf_abs, bf_int, bf_tupL, bf_tupT, bf_lisL, bf_lisT, bf_max, bf_min, bf_gcd, co_lt, co_le, co_gt, co_ge, co_eq, co_ne, truth, isTy, int?, Mini.bindKw, h0, p0, h1, p1, h2, p2, h3, p3, h4, p4, h5, p5, h6, p6, h7, p7, h8, p8, h9, p9, h10, p10, h11, p11, h12, p12, h13, p13, h14, p14, h15, p15, h16, p16, h17, p17, h18, p18, h19, p19, h20, p20, h21, p21, h22, p22, h23, p23, h24, p24, h25, p25, h26, p26, h27, p27, h28, p28, h29, p29, Mini.gslots, Mini.wipeE]
      exact c25 (n + 1) i m t m0 m1 (by omega) hti
    intro l t3 hl hb tq3
    obtain ⟨a, b, c, d, rfl⟩ := list4 hl
    unfold SB at hb
    have ba := hb a (by simp)
    have bb := hb b (by simp)
    have bc := hb c (by simp)
    have bd := hb d (by simp)
    have hb' : ∀ x ∈ [a, b, c, d], x.natAbs ≤ 10000000000000 := fun x hx => by have := hb x hx; omega
    simp [Mini.execs, Mini.exec, Mini.tst, Mini.tsts, Mini.ev, Mini.evs, Mini.evP, Mini.evB, Mini.asgn, Mini.asgns, W_bnd, W_ret, W_lft, W_lft0, W_cond, W_if, W_cel, W_resd, W_fail, peek, look, slot, Mini.pk, Mini.evI, Mini.tsts, dats, seqL, seqT, pyAt, bop_add, bop_sub, bop_mulP, bop_modP, bop_fdivP, bf_lenL, bf_lenT, bf_abs, bf_int, bf_tupL, bf_tupT, bf_lisL, bf_lisT, bf_max, bf_min, bf_gcd, co_lt, co_le, co_gt, co_ge, co_eq, co_ne, truth, isTy, int?, Mini.bindKw, h0, p0, h1, p1, h2, p2, h3, p3, h4, p4, h5, p5, h6, p6, h7, p7, h8, p8, h9, p9, h10, p10, h11, p11, h12, p12, h13, p13, h14, p14, h15, p15, h16, p16, h17, p17, h18, p18, h19, p19, h20, p20, h21, p21, h22, p22, h23, p23, h24, p24, h25, p25, h26, p26, h27, p27, h28, p28, h29, p29, IL_cons, IL_nil, co_neLL]
    by_cases hz : ¬a = 0 ∨ ¬b = 0 ∨ ¬c = 0 ∨ ¬d = 0
    · rw [if_pos hz]
      have hz' : [a, b, c, d] ≠ [0, 0, 0, 0] := fun e => by simp at e; omega
      refine W_mono (c21 (n + 1) (.list (IL [a, b, c, d])) [a, b, c, d] rfl (zero4 rfl hz') (fun x hx => by have := hb' x hx; omega) t3) ?_
      rintro v t2 ⟨rfl, rfl⟩
      exact SpQ.of rfl (zero4 rfl hz') hb' (tq3.wk (by simp))
    · rw [if_neg hz]
      exact ⟨1, 0, 0, 0, rfl, T11, by decide, tq3.wk (by simp)⟩
end K29

end

section
set_option Elab.async false
set_option linter.all false
set_option maxRecDepth 100000
set_option maxHeartbeats 600000
namespace K29
open Mini Gm
open PySem (PyData Str)
def SoQ (t : Tap) (v : Val) (t' : Tap) : Prop := t' = t ∧ ∃ A B : Int, v = .d (.list [.int A, .int B, .int 0]) ∧ 0 ≤ A ∧ 0 ≤ B ∧ B < 2147483629
def fst15 : MS := match d15.body with | .cons s _ => s | _ => .pass
def rst15 : MSs := match d15.body with | .cons _ r => r | x => x
theorem c15 (n : Nat) (ns : List Int) (k : Int) (k0 : 0 ≤ k) (k1 : k ≤ 10) (t : Tap) : W (call S (n+1) 15 [.scr (IL ns), .d (.int k)]) t (SoQ t) := by
  have s1 : Sm 983 := sm_of (by omega)
  have s2 : Sm k := sm_of (by omega)
  have s3 : Sm 4001 := sm_of (by omega)
  have s4 : Sm 48611 := sm_of (by omega)
  have s5 : Sm 83 := sm_of (by omega)
  have s6 : Sm 20011 := sm_of (by omega)
  have s17 : powOk 10 17 = true := by decide +kernel
  have pw : (10 : Int) ^ (Int.toNat 17) = 100000000000000000 := by decide
  have cut : cutD (.list (IL ns)) none (some 8) = some (.list (IL (ns.take 8))) := by
    show some (PyData.list (((IL ns).drop 0).take (min 8 _ - 0))) = _
    rw [List.drop_zero, Nat.sub_zero, IL_len]
    unfold IL
    rw [List.map_take]
    rcases Nat.le_total 8 ns.length with h | h
    · rw [Nat.min_eq_left h]
    · rw [Nat.min_eq_right h, List.take_of_length_le (by simp), List.take_of_length_le (by simpa using h)]
  refine W_call rfl rfl ?_
  have main : ∀ own : Int, W (execs S (call S n) rst15 [.v (.scr (IL ns)), .v (.d (.int k)), .v (.d (.int own)), .non, .non, .non]) t fun r t' => match r.1 with | .rt v => SoQ t v t' | .nx => SoQ t (.d .none) t' | _ => False := by
    intro own
    simp [rst15, d15, Mini.execs, Mini.exec, Mini.tst, Mini.tsts, Mini.ev, Mini.evs, Mini.evP, Mini.evB, Mini.asgn, Mini.asgns, W_bnd, W_ret, W_lft, W_lft0, W_cond, W_if, W_cel, W_resd, W_fail, peek, look, slot, Mini.pk, Mini.evI, Mini.tsts, dats, seqL, seqT, pyAt, bop_add, bop_sub, bop_mulP, bop_modP, bop_fdivP, bf_lenL, bf_lenT, bf_abs, bf_int, bf_tupL, bf_tupT, bf_lisL, bf_lisT, bf_max, bf_min, bf_gcd, co_lt, co_le, co_gt, co_ge, co_eq, co_ne, truth, isTy, int?, Mini.bindKw, h0, p0, h1, p1, h2, p2, h3, p3, h4, p4, h5, p5, h6, p6, h7, p7, h8, p8, h9, p9, h10, p10, h11, p11, h12, p12, h13, p13, h14, p14, h15, p15, h16, p16, h17, p17, h18, p18, h19, p19, h20, p20, h21, p21, h22, p22, h23, p23, h24, p24, h25, p25, h26, p26, h27, p27, h28, p28, h29, p29, s3, s2, cut]
    refine W_for (I := fun r env => ∃ (m : Int) (s : Sl), env = [.v (.scr (IL ns)), .v (.d (.int k)), .v (.d (.int own)), .v (.d (.int m)), s, .non] ∧ 0 ≤ m ∧ m < 2147483629) ?_ (ns.take 8) _ ⟨_, _, rfl, by omega, by omega⟩ ?_
    · rintro env ⟨m, s, rfl, m0, m1⟩
      have q1 : Sm m := sm_of (by omega)
      have q2 : Sm (own % 2147483587) := sm_of (by omega)
      by_cases h1 : own < 0
      · simp [Mini.execs, Mini.exec, Mini.tst, Mini.tsts, Mini.ev, Mini.evs, Mini.evP, Mini.evB, Mini.asgn, Mini.asgns, W_bnd, W_ret, W_lft, W_lft0, W_cond, W_if, W_cel, W_resd, W_fail, peek, look, slot, Mini.pk, Mini.evI, Mini.tsts, dats, seqL, seqT, pyAt, bop_add, bop_sub, bop_mulP, bop_modP, bop_fdivP, bf_lenL, bf_lenT, bf_abs, bf_int, bf_tupL, bf_tupT, bf_lisL, bf_lisT, bf_max, bf_min, bf_gcd, co_lt, co_le, co_gt, co_ge, co_eq, co_ne, truth, isTy, int?, Mini.bindKw, h0, p0, h1, p1, h2, p2, h3, p3, h4, p4, h5, p5, h6, p6, h7, p7, h8, p8, h9, p9, h10, p10, h11, p11, h12, p12, h13, p13, h14, p14, h15, p15, h16, p16, h17, p17, h18, p18, h19, p19, h20, p20, h21, p21, h22, p22, h23, p23, h24, p24, h25, p25, h26, p26, h27, p27, h28, p28, h29, p29, s5, s6, q1, q2, h1, bop_pow s17, pw]
        exact ⟨rfl, _, _, rfl, by omega, by omega, by omega⟩
      · by_cases h2 : (100000000000000000 : Int) ≤ own
        · simp [Mini.execs, Mini.exec, Mini.tst, Mini.tsts, Mini.ev, Mini.evs, Mini.evP, Mini.evB, Mini.asgn, Mini.asgns, W_bnd, W_ret, W_lft, W_lft0, W_cond, W_if, W_cel, W_resd, W_fail, peek, look, slot, Mini.pk, Mini.evI, Mini.tsts, dats, seqL, seqT, pyAt, bop_add, bop_sub, bop_mulP, bop_modP, bop_fdivP, bf_lenL, bf_lenT, bf_abs, bf_int, bf_tupL, bf_tupT, bf_lisL, bf_lisT, bf_max, bf_min, bf_gcd, co_lt, co_le, co_gt, co_ge, co_eq, co_ne, truth, isTy, int?, Mini.bindKw, h0, p0, h1, p1, h2, p2, h3, p3, h4, p4, h5, p5, h6, p6, h7, p7, h8, p8, h9, p9, h10, p10, h11, p11, h12, p12, h13, p13, h14, p14, h15, p15, h16, p16, h17, p17, h18, p18, h19, p19, h20, p20, h21, p21, h22, p22, h23, p23, h24, p24, h25, p25, h26, p26, h27, p27, h28, p28, h29, p29, s5, s6, q1, q2, h1, h2, bop_pow s17, pw]
          exact ⟨rfl, _, _, rfl, by omega, by omega, by omega⟩
        · simp [Mini.execs, Mini.exec, Mini.tst, Mini.tsts, Mini.ev, Mini.evs, Mini.evP, Mini.evB, Mini.asgn, Mini.asgns, W_bnd, W_ret, W_lft, W_lft0, W_cond, W_if, W_cel, W_resd, W_fail, peek, look, slot, Mini.pk, Mini.evI, Mini.tsts, dats, seqL, seqT, pyAt, bop_add, bop_sub, bop_mulP, bop_modP, bop_fdivP, bf_lenL, bf_lenT, bf_abs, bf_int, bf_tupL, bf_tupT, bf_lisL, bf_lisT, bf_max, bf_min, bf_gcd, co_lt, co_le, co_gt, co_ge, co_eq, co_ne, truth, isTy, int?, Mini.bindKw, h0, p0, h1, p1, h2, p2, h3, p3, h4, p4, h5, p5, h6, p6, h7, p7, h8, p8, h9, p9, h10, p10, h11, p11, h12, p12, h13, p13, h14, p14, h15, p15, h16, p16, h17, p17, h18, p18, h19, p19, h20, p20, h21, p21, h22, p22, h23, p23, h24, p24, h25, p25, h26, p26, h27, p27, h28, p28, h29, p29, s5, s6, q1, q2, h1, h2, bop_pow s17, pw]
          exact ⟨rfl, _, _, rfl, by omega, by omega, by omega⟩
    · rintro x r env ⟨m, s, rfl, m0, m1⟩
      have q1 : Sm m := sm_of (by omega)
      simp [Mini.execs, Mini.exec, Mini.tst, Mini.tsts, Mini.ev, Mini.evs, Mini.evP, Mini.evB, Mini.asgn, Mini.asgns, W_bnd, W_ret, W_lft, W_lft0, W_cond, W_if, W_cel, W_resd, W_fail, peek, look, slot, Mini.pk, Mini.evI, Mini.tsts, dats, seqL, seqT, pyAt, bop_add, bop_sub, bop_mulP, bop_modP, bop_fdivP, bf_lenL, bf_lenT, bf_abs, bf_int, bf_tupL, bf_tupT, bf_lisL, bf_lisT, bf_max, bf_min, bf_gcd, co_lt, co_le, co_gt, co_ge, co_eq, co_ne, truth, isTy, int?, Mini.bindKw, h0, p0, h1, p1, h2, p2, h3, p3, h4, p4, h5, p5, h6, p6, h7, p7, h8, p8, h9, p9, h10, p10, h11, p11, h12, p12, h13, p13, h14, p14, h15, p15, h16, p16, h17, p17, h18, p18, h19, p19, h20, p20, h21, p21, h22, p22, h23, p23, h24, p24, h25, p25, h26, p26, h27, p27, h28, p28, h29, p29, s4, q1]
      omega
  have first : ∃ own : Int, W (exec S (call S n) fst15 [.v (.scr (IL ns)), .v (.d (.int k)), .non, .non, .non, .non]) t fun r t1 => t1 = t ∧ r = (.nx, [.v (.scr (IL ns)), .v (.d (.int k)), .v (.d (.int own)), .non, .non, .non]) := by
    by_cases h : k < (ns.length : Int)
    · have e : (IL ns)[k.toNat]? = some (.int (ns[k.toNat]'(by omega))) := by
        unfold IL
        rw [List.getElem?_map, List.getElem?_eq_getElem (by omega : k.toNat < ns.length)]
        rfl
      refine ⟨ns[k.toNat]'(by omega), ?_⟩
      simp [fst15, d15, Mini.execs, Mini.exec, Mini.tst, Mini.tsts, Mini.ev, Mini.evs, Mini.evP, Mini.evB, Mini.asgn, Mini.asgns, W_bnd, W_ret, W_lft, W_lft0, W_cond, W_if, W_cel, W_resd, W_fail, peek, look, slot, Mini.pk, Mini.evI, Mini.tsts, dats, seqL, seqT, pyAt, bop_add, bop_sub, bop_mulP, bop_modP, bop_fdivP, bf_lenL, bf_lenT, bf_abs, bf_int, bf_tupL, bf_tupT, bf_lisL, bf_lisT, bf_max, bf_min, bf_gcd, co_lt, co_le, co_gt, co_ge, co_eq, co_ne, truth, isTy, int?, Mini.bindKw, h0, p0, h1, p1, h2, p2, h3, p3, h4, p4, h5, p5, h6, p6, h7, p7, h8, p8, h9, p9, h10, p10, h11, p11, h12, p12, h13, p13, h14, p14, h15, p15, h16, p16, h17, p17, h18, p18, h19, p19, h20, p20, h21, p21, h22, p22, h23, p23, h24, p24, h25, p25, h26, p26, h27, p27, h28, p28, h29, p29, h, k0, IL]
    · refine ⟨983 * k + 57, ?_⟩
      simp [fst15, d15, Mini.execs, Mini.exec, Mini.tst, Mini.tsts, Mini.ev, Mini.evs, Mini.evP, Mini.evB, Mini.asgn, Mini.asgns, W_bnd, W_ret, W_lft, W_lft0, W_cond, W_if, W_cel, W_resd, W_fail, peek, look, slot, Mini.pk, Mini.evI, Mini.tsts, dats, seqL, seqT, pyAt, bop_add, bop_sub, bop_mulP, bop_modP, bop_fdivP, bf_lenL, bf_lenT, bf_abs, bf_int, bf_tupL, bf_tupT, bf_lisL, bf_lisT, bf_max, bf_min, bf_gcd, co_lt, co_le, co_gt, co_ge, co_eq, co_ne, truth, isTy, int?, Mini.bindKw, h0, p0, h1, p1, h2, p2, h3, p3, h4, p4, h5, p5, h6, p6, h7, p7, h8, p8, h9, p9, h10, p10, h11, p11, h12, p12, h13, p13, h14, p14, h15, p15, h16, p16, h17, p17, h18, p18, h19, p19, h20, p20, h21, p21, h22, p22, h23, p23, h24, p24, h25, p25, h26, p26, h27, p27, h28, p28, h29, p29, h, s1, s2, IL_len]
  obtain ⟨own, fo⟩ := first
  have eb : d15.body = .cons fst15 rst15 := rfl
  have es : start d15 [.scr (IL ns), .d (.int k)] = [.v (.scr (IL ns)), .v (.d (.int k)), .non, .non, .non, .non] := rfl
  rw [eb, es]
  unfold Mini.execs
  rw [W_bnd]
  refine W_mono fo ?_
  rintro r t1 ⟨rfl, rfl⟩
  exact main own
end K29

end

section
set_option Elab.async false
set_option linter.all false
set_option maxRecDepth 100000
set_option maxHeartbeats 800000
namespace K29
open Mini Gm
open PySem (PyData Str)
theorem pl {x y : Int} (hx : x.natAbs ≤ 10000000000000) (hy : y.natAbs ≤ 10000000000000) : (x * y).natAbs ≤ 100000000000000000000000000 := by
  rw [Int.natAbs_mul]
  exact Nat.le_trans (Nat.mul_le_mul hx hy) (by decide)
theorem s4b {p q r s : Int} (h1 : p.natAbs ≤ 100000000000000000000000000) (h2 : q.natAbs ≤ 100000000000000000000000000) (h3 : r.natAbs ≤ 100000000000000000000000000) (h4 : s.natAbs ≤ 100000000000000000000000000) :
    (p - q - r - s).natAbs ≤ 10000000000000000000000000000 ∧ (p + q + r - s).natAbs ≤ 10000000000000000000000000000 ∧ (p - q + r + s).natAbs ≤ 10000000000000000000000000000 ∧ (p + q - r + s).natAbs ≤ 10000000000000000000000000000 := by
  refine ⟨?_, ?_, ?_, ?_⟩ <;> omega
theorem s2b {p q : Int} (h1 : p.natAbs ≤ 100000000000000000000000000) (h2 : q.natAbs ≤ 100000000000000000000000000) : (p + q).natAbs ≤ 10000000000000000000000000000 ∧ (p - q).natAbs ≤ 10000000000000000000000000000 := by
  refine ⟨?_, ?_⟩ <;> omega
def Sml (l : List Int) : Prop := ∀ x ∈ l, x.natAbs ≤ 10000000000000
theorem Sml.md {l : List Int} (h : Sml l) : Md l := fun x hx => by have := h x hx; omega
theorem qp_md {a b c d e f g h : Int} (h1 : Sml [a, b, c, d]) (h2 : Sml [e, f, g, h]) : Md (qp a b c d e f g h) := by
  obtain ⟨a1, a2, a3, a4⟩ := Bd4 h1
  obtain ⟨b1, b2, b3, b4⟩ := Bd4 h2
  intro x hx
  unfold qp at hx
  rcases List.mem_cons.mp hx with e | hx
  · rw [e]; exact (s4b (pl a1 b1) (pl a2 b2) (pl a3 b3) (pl a4 b4)).1
  rcases List.mem_cons.mp hx with e | hx
  · rw [e]; exact (s4b (pl a1 b2) (pl a2 b1) (pl a3 b4) (pl a4 b3)).2.1
  rcases List.mem_cons.mp hx with e | hx
  · rw [e]; exact (s4b (pl a1 b3) (pl a2 b4) (pl a3 b1) (pl a4 b2)).2.2.1
  rw [List.mem_singleton.mp hx]; exact (s4b (pl a1 b4) (pl a2 b3) (pl a3 b2) (pl a4 b1)).2.2.2
theorem lin_md {a b c d : Int} (h1 : Sml [a, b, c, d]) : Md [a * a + d * d, a * b + c * d, a * c - b * d, 0] := by
  obtain ⟨a1, a2, a3, a4⟩ := Bd4 h1
  intro x hx
  rcases List.mem_cons.mp hx with e | hx
  · rw [e]; exact (s2b (pl a1 a1) (pl a4 a4)).1
  rcases List.mem_cons.mp hx with e | hx
  · rw [e]; exact (s2b (pl a1 a2) (pl a3 a4)).1
  rcases List.mem_cons.mp hx with e | hx
  · rw [e]; exact (s2b (pl a1 a3) (pl a2 a4)).2
  rw [List.mem_singleton.mp hx]; decide
theorem rnd_sml {a b c d : Int} (h1 : Sml [a, b, c, d]) : Sml [a, 0, 0, d] := by
  obtain ⟨a1, a2, a3, a4⟩ := Bd4 h1
  intro x hx
  rcases List.mem_cons.mp hx with e | hx
  · rw [e]; exact a1
  rcases List.mem_cons.mp hx with e | hx
  · rw [e]; decide
  rcases List.mem_cons.mp hx with e | hx
  · rw [e]; decide
  rw [List.mem_singleton.mp hx]; exact a4
theorem nrm_md {l m : List Int} (h : Md l) (e : nrm l = m) : Md m := by rw [← e]; exact nrm_le h
/-- the row at right angles -/
theorem upf {a b c d : Int} (h : Sml [a, b, c, d]) : ∃ f1 f2 f3, up b c = [f1, f2, f3] ∧ (f1 ≠ 0 ∨ f2 ≠ 0 ∨ f3 ≠ 0) ∧ b * f1 + c * f2 + d * f3 = 0 ∧ Sml [0, f1, f2, f3] := by
  obtain ⟨a1, a2, a3, a4⟩ := Bd4 h
  unfold up
  by_cases hz : b ≠ 0 ∨ c ≠ 0
  · rw [if_pos hz]
    refine ⟨c, -b, 0, rfl, by omega, by grind, fun x hx => ?_⟩
    simp only [List.mem_cons, List.not_mem_nil, or_false] at hx
    rcases hx with e | e | e | e <;> rw [e] <;> omega
  · rw [if_neg hz]
    have b0 : b = 0 := by omega
    have c0 : c = 0 := by omega
    refine ⟨1, 0, 0, rfl, by decide, by rw [b0, c0]; simp, fun x hx => ?_⟩
    simp only [List.mem_cons, List.not_mem_nil, or_false] at hx
    rcases hx with e | e | e | e <;> rw [e] <;> omega
theorem c28 (n : Nat) (t : Tap) (ht : Tq 0 t) : W (call S (n+8) 28 [.cel]) t fun v _ => v = .d (.bool true) := by
  refine W_call rfl rfl ?_
  simp [d28, start, Mini.execs, Mini.exec, Mini.tst, Mini.tsts, Mini.ev, Mini.evs, Mini.evP, Mini.evB, Mini.asgn, Mini.asgns, W_bnd, W_ret, W_lft, W_lft0, W_cond, W_if, W_cel, W_resd, W_fail, peek, look, slot, Mini.pk, Mini.evI, Mini.tsts, dats, seqL, seqT, pyAt, bop_add, bop_sub, bop_mulP, bop_modP, bop_fdivP, bf_lenL, bf_lenT, bf_abs, bf_int, bf_tupL, bf_tupT, bf_lisL, bf_lisT, bf_max, bf_min, bf_gcd, co_lt, co_le, co_gt, co_ge, co_eq, co_ne, truth, isTy, int?, Mini.bindKw, h0, p0, h1, p1, h2, p2, h3, p3, h4, p4, h5, p5, h6, p6, h7, p7, h8, p8, h9, p9, h10, p10, h11, p11, h12, p12, h13, p13, h14, p14, h15, p15, h16, p16, h17, p17, h18, p18, h19, p19, h20, p20, h21, p21, h22, p22, h23, p23, h24, p24, h25, p25, h26, p26, h27, p27, h28, p28, h29, p29]
  refine W_mono (c26 (n + 2) 0 t (by omega) ht) ?_
  rintro v t1 ⟨a, b, c, d, rfl, hT, hb, _⟩
  have hb : Sml [a, b, c, d] := hb
  obtain ⟨f1, f2, f3, hu, hf, ho, hfb⟩ := upf hb
  obtain ⟨g0, g1, u1, u2, u3, v1, v2, v3, eu, ev, en, eg⟩ := halves (d := d) hT hf ho
  have ev : nrm (qp a b c d 0 f1 f2 f3) = [0, v1, v2, v3] := ev
  have g1 : gL (qp a b c d 0 f1 f2 f3) ≠ 0 := g1
  have en : nrm (qp 0 v1 v2 v3 0 u1 u2 u3) = [a, b, c, d] := en
  have eg : gL (qp 0 v1 v2 v3 0 u1 u2 u3) ≠ 0 := eg
  have Tu : T [0, u1, u2, u3] := by rw [← eu]; exact T_nrm g0
  have Tv : T [0, v1, v2, v3] := by rw [← ev]; exact T_nrm g1
  have Mu : Md [0, u1, u2, u3] := nrm_md hfb.md eu
  have Mv : Md [0, v1, v2, v3] := nrm_md (qp_md hb hfb) ev
  have k13 := c13 (n + 2) a b c d f1 f2 f3 hT hu hb.md hfb.md g0 g1
  rw [eu, ev] at k13
  have sa : Sm a := hb.md.sm (by simp)
  have sb : Sm b := hb.md.sm (by simp)
  have sc : Sm c := hb.md.sm (by simp)
  have sd : Sm d := hb.md.sm (by simp)
  simp [Mini.execs, Mini.exec, Mini.tst, Mini.tsts, Mini.ev, Mini.evs, Mini.evP, Mini.evB, Mini.asgn, Mini.asgns, W_bnd, W_ret, W_lft, W_lft0, W_cond, W_if, W_cel, W_resd, W_fail, peek, look, slot, Mini.pk, Mini.evI, Mini.tsts, dats, seqL, seqT, pyAt, bop_add, bop_sub, bop_mulP, bop_modP, bop_fdivP, bf_lenL, bf_lenT, bf_abs, bf_int, bf_tupL, bf_tupT, bf_lisL, bf_lisT, bf_max, bf_min, bf_gcd, co_lt, co_le, co_gt, co_ge, co_eq, co_ne, truth, isTy, int?, Mini.bindKw, h0, p0, h1, p1, h2, p2, h3, p3, h4, p4, h5, p5, h6, p6, h7, p7, h8, p8, h9, p9, h10, p10, h11, p11, h12, p12, h13, p13, h14, p14, h15, p15, h16, p16, h17, p17, h18, p18, h19, p19, h20, p20, h21, p21, h22, p22, h23, p23, h24, p24, h25, p25, h26, p26, h27, p27, h28, p28, h29, p29, IL_cons, IL_nil]
  refine W_mono (k13 t1) ?_
  rintro v t2 ⟨rfl, rfl⟩
  simp [Mini.execs, Mini.exec, Mini.tst, Mini.tsts, Mini.ev, Mini.evs, Mini.evP, Mini.evB, Mini.asgn, Mini.asgns, W_bnd, W_ret, W_lft, W_lft0, W_cond, W_if, W_cel, W_resd, W_fail, peek, look, slot, Mini.pk, Mini.evI, Mini.tsts, dats, seqL, seqT, pyAt, bop_add, bop_sub, bop_mulP, bop_modP, bop_fdivP, bf_lenL, bf_lenT, bf_abs, bf_int, bf_tupL, bf_tupT, bf_lisL, bf_lisT, bf_max, bf_min, bf_gcd, co_lt, co_le, co_gt, co_ge, co_eq, co_ne, truth, isTy, int?, Mini.bindKw, h0, p0, h1, p1, h2, p2, h3, p3, h4, p4, h5, p5, h6, p6, h7, p7, h8, p8, h9, p9, h10, p10, h11, p11, h12, p12, h13, p13, h14, p14, h15, p15, h16, p16, h17, p17, h18, p18, h19, p19, h20, p20, h21, p21, h22, p22, h23, p23, h24, p24, h25, p25, h26, p26, h27, p27, h28, p28, h29, p29, IL_cons, IL_nil]
  refine W_mono (c27 n 0 u1 u2 u3 0 v1 v2 v3 [a, b, c, d] Tu Tv Mu Mv eg en hb.md.bd rfl t2) ?_
  rintro v t3 ⟨rfl, rfl⟩
  simp [Mini.execs, Mini.exec, Mini.tst, Mini.tsts, Mini.ev, Mini.evs, Mini.evP, Mini.evB, Mini.asgn, Mini.asgns, W_bnd, W_ret, W_lft, W_lft0, W_cond, W_if, W_cel, W_resd, W_fail, peek, look, slot, Mini.pk, Mini.evI, Mini.tsts, dats, seqL, seqT, pyAt, bop_add, bop_sub, bop_mulP, bop_modP, bop_fdivP, bf_lenL, bf_lenT, bf_abs, bf_int, bf_tupL, bf_tupT, bf_lisL, bf_lisT, bf_max, bf_min, bf_gcd, co_lt, co_le, co_gt, co_ge, co_eq, co_ne, truth, isTy, int?, Mini.bindKw, h0, p0, h1, p1, h2, p2, h3, p3, h4, p4, h5, p5, h6, p6, h7, p7, h8, p8, h9, p9, h10, p10, h11, p11, h12, p12, h13, p13, h14, p14, h15, p15, h16, p16, h17, p17, h18, p18, h19, p19, h20, p20, h21, p21, h22, p22, h23, p23, h24, p24, h25, p25, h26, p26, h27, p27, h28, p28, h29, p29, Pr, IL_cons, IL_nil]
  by_cases ha : a = 0
  · by_cases hd : d = 0
    · subst ha
      subst hd
      rw [if_pos rfl, if_pos rfl]
      have k14 := fun t => c14 (n + 2) 0 b c 0 hT hb.md (lin_md hb).bd (fun h => ⟨(parts hT h).1, (parts hT h).2.1⟩) t
      rw [if_pos ⟨rfl, rfl⟩] at k14
      have eq1 : qp 1 0 0 0 0 b c 0 = [0, b, c, 0] := by simp [qp]
      have M1 : Md [1, 0, 0, 0] := by unfold Md; decide
      have r1 := bf_reprL hb.md.bd M1.bd hb.md.bd M1.bd Mu.bd Mv.bd rfl rfl rfl rfl rfl rfl
      simp only [Pr, IL_cons, IL_nil] at r1
      refine W_mono (k14 t3) ?_
      rintro v t4 ⟨rfl, rfl⟩
      refine W_mono (c27 n 0 b c 0 1 0 0 0 [0, b, c, 0] hT T11 hb.md M1 (by rw [eq1, hT.1]; decide) (by rw [eq1]; exact nrm_T hT) hb.md.bd rfl t4) ?_
      rintro v t5 ⟨rfl, rfl⟩
      simp [Mini.execs, Mini.exec, Mini.tst, Mini.tsts, Mini.ev, Mini.evs, Mini.evP, Mini.evB, Mini.asgn, Mini.asgns, W_bnd, W_ret, W_lft, W_lft0, W_cond, W_if, W_cel, W_resd, W_fail, peek, look, slot, Mini.pk, Mini.evI, Mini.tsts, dats, seqL, seqT, pyAt, bop_add, bop_sub, bop_mulP, bop_modP, bop_fdivP, bf_lenL, bf_lenT, bf_abs, bf_int, bf_tupL, bf_tupT, bf_lisL, bf_lisT, bf_max, bf_min, bf_gcd, co_lt, co_le, co_gt, co_ge, co_eq, co_ne, truth, isTy, int?, Mini.bindKw, h0, p0, h1, p1, h2, p2, h3, p3, h4, p4, h5, p5, h6, p6, h7, p7, h8, p8, h9, p9, h10, p10, h11, p11, h12, p12, h13, p13, h14, p14, h15, p15, h16, p16, h17, p17, h18, p18, h19, p19, h20, p20, h21, p21, h22, p22, h23, p23, h24, p24, h25, p25, h26, p26, h27, p27, h28, p28, h29, p29, Pr, IL_cons, IL_nil]
      refine W_mono (k14 t5) ?_
      rintro v t6 ⟨rfl, rfl⟩
      refine W_mono (k13 t6) ?_
      rintro v t7 ⟨rfl, rfl⟩
      simp [Mini.execs, Mini.exec, Mini.tst, Mini.tsts, Mini.ev, Mini.evs, Mini.evP, Mini.evB, Mini.asgn, Mini.asgns, W_bnd, W_ret, W_lft, W_lft0, W_cond, W_if, W_cel, W_resd, W_fail, peek, look, slot, Mini.pk, Mini.evI, Mini.tsts, dats, seqL, seqT, pyAt, bop_add, bop_sub, bop_mulP, bop_modP, bop_fdivP, bf_lenL, bf_lenT, bf_abs, bf_int, bf_tupL, bf_tupT, bf_lisL, bf_lisT, bf_max, bf_min, bf_gcd, co_lt, co_le, co_gt, co_ge, co_eq, co_ne, truth, isTy, int?, Mini.bindKw, h0, p0, h1, p1, h2, p2, h3, p3, h4, p4, h5, p5, h6, p6, h7, p7, h8, p8, h9, p9, h10, p10, h11, p11, h12, p12, h13, p13, h14, p14, h15, p15, h16, p16, h17, p17, h18, p18, h19, p19, h20, p20, h21, p21, h22, p22, h23, p23, h24, p24, h25, p25, h26, p26, h27, p27, h28, p28, h29, p29, Pr, IL_cons, IL_nil, r1, co_eqS]
    · refine Eq.mpr (if_pos ha) ?_
      refine Eq.mpr (if_neg hd) ?_
      refine Eq.mpr (if_neg hd) ?_
      have hi : ¬(a = 0 ∧ d = 0) := by omega
      obtain ⟨gl, gr, l0, l1, l2, r0, r3, el, er, en2, eg2⟩ := parts hT (show a ≠ 0 ∨ d ≠ 0 by omega)
      have en2 : nrm (qp r0 0 0 r3 l0 l1 l2 0) = [a, b, c, d] := en2
      have eg2 : gL (qp r0 0 0 r3 l0 l1 l2 0) ≠ 0 := eg2
      have Tl : T [l0, l1, l2, 0] := by rw [← el]; exact T_nrm gl
      have Tr : T [r0, 0, 0, r3] := by rw [← er]; exact T_nrm gr
      have Ml : Md [l0, l1, l2, 0] := nrm_md (lin_md hb) el
      have Mr : Md [r0, 0, 0, r3] := nrm_md (rnd_sml hb).md er
      have k21 := fun t => c21 (n + 4) (.tuple (IL [a * a + d * d, a * b + c * d, a * c - b * d, 0])) _ rfl gl (lin_md hb).bd t
      have k21r := fun t => c21 (n + 4) (.tuple (IL [a, 0, 0, d])) _ rfl gr (rnd_sml hb).md.bd t
      rw [el] at k21
      rw [er] at k21r
      have k14 := fun t => c14 (n + 2) a b c d hT hb.md (lin_md hb).bd (fun h => ⟨(parts hT h).1, (parts hT h).2.1⟩) t
      rw [if_neg hi, el, er] at k14
      have r1 := bf_reprL Ml.bd Mr.bd Ml.bd Mr.bd Mu.bd Mv.bd rfl rfl rfl rfl rfl rfl
      simp only [Pr, IL_cons, IL_nil] at r1
      simp [Mini.execs, Mini.exec, Mini.tst, Mini.tsts, Mini.ev, Mini.evs, Mini.evP, Mini.evB, Mini.asgn, Mini.asgns, W_bnd, W_ret, W_lft, W_lft0, W_cond, W_if, W_cel, W_resd, W_fail, peek, look, slot, Mini.pk, Mini.evI, Mini.tsts, dats, seqL, seqT, pyAt, bop_add, bop_sub, bop_mulP, bop_modP, bop_fdivP, bf_lenL, bf_lenT, bf_abs, bf_int, bf_tupL, bf_tupT, bf_lisL, bf_lisT, bf_max, bf_min, bf_gcd, co_lt, co_le, co_gt, co_ge, co_eq, co_ne, truth, isTy, int?, Mini.bindKw, h0, p0, h1, p1, h2, p2, h3, p3, h4, p4, h5, p5, h6, p6, h7, p7, h8, p8, h9, p9, h10, p10, h11, p11, h12, p12, h13, p13, h14, p14, h15, p15, h16, p16, h17, p17, h18, p18, h19, p19, h20, p20, h21, p21, h22, p22, h23, p23, h24, p24, h25, p25, h26, p26, h27, p27, h28, p28, h29, p29, sa, sb, sc, sd, IL_cons, IL_nil]
      refine W_mono (k21 t3) ?_
      rintro v t4 ⟨rfl, rfl⟩
      refine W_mono (k21r t4) ?_
      rintro v t5 ⟨rfl, rfl⟩
      simp [Mini.execs, Mini.exec, Mini.tst, Mini.tsts, Mini.ev, Mini.evs, Mini.evP, Mini.evB, Mini.asgn, Mini.asgns, W_bnd, W_ret, W_lft, W_lft0, W_cond, W_if, W_cel, W_resd, W_fail, peek, look, slot, Mini.pk, Mini.evI, Mini.tsts, dats, seqL, seqT, pyAt, bop_add, bop_sub, bop_mulP, bop_modP, bop_fdivP, bf_lenL, bf_lenT, bf_abs, bf_int, bf_tupL, bf_tupT, bf_lisL, bf_lisT, bf_max, bf_min, bf_gcd, co_lt, co_le, co_gt, co_ge, co_eq, co_ne, truth, isTy, int?, Mini.bindKw, h0, p0, h1, p1, h2, p2, h3, p3, h4, p4, h5, p5, h6, p6, h7, p7, h8, p8, h9, p9, h10, p10, h11, p11, h12, p12, h13, p13, h14, p14, h15, p15, h16, p16, h17, p17, h18, p18, h19, p19, h20, p20, h21, p21, h22, p22, h23, p23, h24, p24, h25, p25, h26, p26, h27, p27, h28, p28, h29, p29, IL_cons, IL_nil]
      refine W_mono (k14 t5) ?_
      rintro v t6 ⟨rfl, rfl⟩
      simp [Mini.execs, Mini.exec, Mini.tst, Mini.tsts, Mini.ev, Mini.evs, Mini.evP, Mini.evB, Mini.asgn, Mini.asgns, W_bnd, W_ret, W_lft, W_lft0, W_cond, W_if, W_cel, W_resd, W_fail, peek, look, slot, Mini.pk, Mini.evI, Mini.tsts, dats, seqL, seqT, pyAt, bop_add, bop_sub, bop_mulP, bop_modP, bop_fdivP, bf_lenL, bf_lenT, bf_abs, bf_int, bf_tupL, bf_tupT, bf_lisL, bf_lisT, bf_max, bf_min, bf_gcd, co_lt, co_le, co_gt, co_ge, co_eq, co_ne, truth, isTy, int?, Mini.bindKw, h0, p0, h1, p1, h2, p2, h3, p3, h4, p4, h5, p5, h6, p6, h7, p7, h8, p8, h9, p9, h10, p10, h11, p11, h12, p12, h13, p13, h14, p14, h15, p15, h16, p16, h17, p17, h18, p18, h19, p19, h20, p20, h21, p21, h22, p22, h23, p23, h24, p24, h25, p25, h26, p26, h27, p27, h28, p28, h29, p29, IL_cons, IL_nil]
      refine W_mono (c27 n l0 l1 l2 0 r0 0 0 r3 [a, b, c, d] Tl Tr Ml Mr eg2 en2 hb.md.bd rfl t6) ?_
      rintro v t7 ⟨rfl, rfl⟩
      simp [Mini.execs, Mini.exec, Mini.tst, Mini.tsts, Mini.ev, Mini.evs, Mini.evP, Mini.evB, Mini.asgn, Mini.asgns, W_bnd, W_ret, W_lft, W_lft0, W_cond, W_if, W_cel, W_resd, W_fail, peek, look, slot, Mini.pk, Mini.evI, Mini.tsts, dats, seqL, seqT, pyAt, bop_add, bop_sub, bop_mulP, bop_modP, bop_fdivP, bf_lenL, bf_lenT, bf_abs, bf_int, bf_tupL, bf_tupT, bf_lisL, bf_lisT, bf_max, bf_min, bf_gcd, co_lt, co_le, co_gt, co_ge, co_eq, co_ne, truth, isTy, int?, Mini.bindKw, h0, p0, h1, p1, h2, p2, h3, p3, h4, p4, h5, p5, h6, p6, h7, p7, h8, p8, h9, p9, h10, p10, h11, p11, h12, p12, h13, p13, h14, p14, h15, p15, h16, p16, h17, p17, h18, p18, h19, p19, h20, p20, h21, p21, h22, p22, h23, p23, h24, p24, h25, p25, h26, p26, h27, p27, h28, p28, h29, p29, Pr, IL_cons, IL_nil]
      refine W_mono (k14 t7) ?_
      rintro v t8 ⟨rfl, rfl⟩
      refine W_mono (k13 t8) ?_
      rintro v t9 ⟨rfl, rfl⟩
      simp [Mini.execs, Mini.exec, Mini.tst, Mini.tsts, Mini.ev, Mini.evs, Mini.evP, Mini.evB, Mini.asgn, Mini.asgns, W_bnd, W_ret, W_lft, W_lft0, W_cond, W_if, W_cel, W_resd, W_fail, peek, look, slot, Mini.pk, Mini.evI, Mini.tsts, dats, seqL, seqT, pyAt, bop_add, bop_sub, bop_mulP, bop_modP, bop_fdivP, bf_lenL, bf_lenT, bf_abs, bf_int, bf_tupL, bf_tupT, bf_lisL, bf_lisT, bf_max, bf_min, bf_gcd, co_lt, co_le, co_gt, co_ge, co_eq, co_ne, truth, isTy, int?, Mini.bindKw, h0, p0, h1, p1, h2, p2, h3, p3, h4, p4, h5, p5, h6, p6, h7, p7, h8, p8, h9, p9, h10, p10, h11, p11, h12, p12, h13, p13, h14, p14, h15, p15, h16, p16, h17, p17, h18, p18, h19, p19, h20, p20, h21, p21, h22, p22, h23, p23, h24, p24, h25, p25, h26, p26, h27, p27, h28, p28, h29, p29, Pr, IL_cons, IL_nil, r1, co_eqS]
  · refine Eq.mpr (if_neg ha) ?_
    refine Eq.mpr (if_neg ha) ?_
    have hi : ¬(a = 0 ∧ d = 0) := by omega
    obtain ⟨gl, gr, l0, l1, l2, r0, r3, el, er, en2, eg2⟩ := parts hT (show a ≠ 0 ∨ d ≠ 0 by omega)
    have en2 : nrm (qp r0 0 0 r3 l0 l1 l2 0) = [a, b, c, d] := en2
    have eg2 : gL (qp r0 0 0 r3 l0 l1 l2 0) ≠ 0 := eg2
    have Tl : T [l0, l1, l2, 0] := by rw [← el]; exact T_nrm gl
    have Tr : T [r0, 0, 0, r3] := by rw [← er]; exact T_nrm gr
    have Ml : Md [l0, l1, l2, 0] := nrm_md (lin_md hb) el
    have Mr : Md [r0, 0, 0, r3] := nrm_md (rnd_sml hb).md er
    have k21 := fun t => c21 (n + 4) (.tuple (IL [a * a + d * d, a * b + c * d, a * c - b * d, 0])) _ rfl gl (lin_md hb).bd t
    have k21r := fun t => c21 (n + 4) (.tuple (IL [a, 0, 0, d])) _ rfl gr (rnd_sml hb).md.bd t
    rw [el] at k21
    rw [er] at k21r
    have k14 := fun t => c14 (n + 2) a b c d hT hb.md (lin_md hb).bd (fun h => ⟨(parts hT h).1, (parts hT h).2.1⟩) t
    rw [if_neg hi, el, er] at k14
    have r1 := bf_reprL Ml.bd Mr.bd Ml.bd Mr.bd Mu.bd Mv.bd rfl rfl rfl rfl rfl rfl
    simp only [Pr, IL_cons, IL_nil] at r1
    simp [Mini.execs, Mini.exec, Mini.tst, Mini.tsts, Mini.ev, Mini.evs, Mini.evP, Mini.evB, Mini.asgn, Mini.asgns, W_bnd, W_ret, W_lft, W_lft0, W_cond, W_if, W_cel, W_resd, W_fail, peek, look, slot, Mini.pk, Mini.evI, Mini.tsts, dats, seqL, seqT, pyAt, bop_add, bop_sub, bop_mulP, bop_modP, bop_fdivP, bf_lenL, bf_lenT, bf_abs, bf_int, bf_tupL, bf_tupT, bf_lisL, bf_lisT, bf_max, bf_min, bf_gcd, co_lt, co_le, co_gt, co_ge, co_eq, co_ne, truth, isTy, int?, Mini.bindKw, h0, p0, h1, p1, h2, p2, h3, p3, h4, p4, h5, p5, h6, p6, h7, p7, h8, p8, h9, p9, h10, p10, h11, p11, h12, p12, h13, p13, h14, p14, h15, p15, h16, p16, h17, p17, h18, p18, h19, p19, h20, p20, h21, p21, h22, p22, h23, p23, h24, p24, h25, p25, h26, p26, h27, p27, h28, p28, h29, p29, sa, sb, sc, sd, IL_cons, IL_nil]
    refine W_mono (k21 t3) ?_
    rintro v t4 ⟨rfl, rfl⟩
    refine W_mono (k21r t4) ?_
    rintro v t5 ⟨rfl, rfl⟩
    simp [Mini.execs, Mini.exec, Mini.tst, Mini.tsts, Mini.ev, Mini.evs, Mini.evP, Mini.evB, Mini.asgn, Mini.asgns, W_bnd, W_ret, W_lft, W_lft0, W_cond, W_if, W_cel, W_resd, W_fail, peek, look, slot, Mini.pk, Mini.evI, Mini.tsts, dats, seqL, seqT, pyAt, bop_add, bop_sub, bop_mulP, bop_modP, bop_fdivP, bf_lenL, bf_lenT, bf_abs, bf_int, bf_tupL, bf_tupT, bf_lisL, bf_lisT, bf_max, bf_min, bf_gcd, co_lt, co_le, co_gt, co_ge, co_eq, co_ne, truth, isTy, int?, Mini.bindKw, h0, p0, h1, p1, h2, p2, h3, p3, h4, p4, h5, p5, h6, p6, h7, p7, h8, p8, h9, p9, h10, p10, h11, p11, h12, p12, h13, p13, h14, p14, h15, p15, h16, p16, h17, p17, h18, p18, h19, p19, h20, p20, h21, p21, h22, p22, h23, p23, h24, p24, h25, p25, h26, p26, h27, p27, h28, p28, h29, p29, IL_cons, IL_nil]
    refine W_mono (k14 t5) ?_
    rintro v t6 ⟨rfl, rfl⟩
    simp [Mini.execs, Mini.exec, Mini.tst, Mini.tsts, Mini.ev, Mini.evs, Mini.evP, Mini.evB, Mini.asgn, Mini.asgns, W_bnd, W_ret, W_lft, W_lft0, W_cond, W_if, W_cel, W_resd, W_fail, peek, look, slot, Mini.pk, Mini.evI, Mini.tsts, dats, seqL, seqT, pyAt, bop_add, bop_sub, bop_mulP, bop_modP, bop_fdivP, bf_lenL, bf_lenT, bf_abs, bf_int, bf_tupL, bf_tupT, bf_lisL, bf_lisT, bf_max, bf_min, bf_gcd, co_lt, co_le, co_gt, co_ge, co_eq, co_ne, truth, isTy, int?, Mini.bindKw, h0, p0, h1, p1, h2, p2, h3, p3, h4, p4, h5, p5, h6, p6, h7, p7, h8, p8, h9, p9, h10, p10, h11, p11, h12, p12, h13, p13, h14, p14, h15, p15, h16, p16, h17, p17, h18, p18, h19, p19, h20, p20, h21, p21, h22, p22, h23, p23, h24, p24, h25, p25, h26, p26, h27, p27, h28, p28, h29, p29, IL_cons, IL_nil]
    refine W_mono (c27 n l0 l1 l2 0 r0 0 0 r3 [a, b, c, d] Tl Tr Ml Mr eg2 en2 hb.md.bd rfl t6) ?_
    rintro v t7 ⟨rfl, rfl⟩
    simp [Mini.execs, Mini.exec, Mini.tst, Mini.tsts, Mini.ev, Mini.evs, Mini.evP, Mini.evB, Mini.asgn, Mini.asgns, W_bnd, W_ret, W_lft, W_lft0, W_cond, W_if, W_cel, W_resd, W_fail, peek, look, slot, Mini.pk, Mini.evI, Mini.tsts, dats, seqL, seqT, pyAt, bop_add, bop_sub, bop_mulP, bop_modP, bop_fdivP, bf_lenL, bf_lenT, bf_abs, bf_int, bf_tupL, bf_tupT, bf_lisL, bf_lisT, bf_max, bf_min, bf_gcd, co_lt, co_le, co_gt, co_ge, co_eq, co_ne, truth, isTy, int?, Mini.bindKw, h0, p0, h1, p1, h2, p2, h3, p3, h4, p4, h5, p5, h6, p6, h7, p7, h8, p8, h9, p9, h10, p10, h11, p11, h12, p12, h13, p13, h14, p14, h15, p15, h16, p16, h17, p17, h18, p18, h19, p19, h20, p20, h21, p21, h22, p22, h23, p23, h24, p24, h25, p25, h26, p26, h27, p27, h28, p28, h29, p29, Pr, IL_cons, IL_nil]
    refine W_mono (k14 t7) ?_
    rintro v t8 ⟨rfl, rfl⟩
    refine W_mono (k13 t8) ?_
    rintro v t9 ⟨rfl, rfl⟩
    simp [Mini.execs, Mini.exec, Mini.tst, Mini.tsts, Mini.ev, Mini.evs, Mini.evP, Mini.evB, Mini.asgn, Mini.asgns, W_bnd, W_ret, W_lft, W_lft0, W_cond, W_if, W_cel, W_resd, W_fail, peek, look, slot, Mini.pk, Mini.evI, Mini.tsts, dats, seqL, seqT, pyAt, bop_add, bop_sub, bop_mulP, bop_modP, bop_fdivP, bf_lenL, bf_lenT, bf_abs, bf_int, bf_tupL, bf_tupT, bf_lisL, bf_lisT, bf_max, bf_min, bf_gcd, co_lt, co_le, co_gt, co_ge, co_eq, co_ne, truth, isTy, int?, Mini.bindKw, h0, p0, h1, p1, h2, p2, h3, p3, h4, p4, h5, p5, h6, p6, h7, p7, h8, p8, h9, p9, h10, p10, h11, p11, h12, p12, h13, p13, h14, p14, h15, p15, h16, p16, h17, p17, h18, p18, h19, p19, h20, p20, h21, p21, h22, p22, h23, p23, h24, p24, h25, p25, h26, p26, h27, p27, h28, p28, h29, p29, Pr, IL_cons, IL_nil, r1, co_eqS]
end K29

end

section
set_option Elab.async false
set_option linter.all false
set_option maxRecDepth 100000
set_option maxHeartbeats 800000
namespace K29
open Mini Gm
open PySem (PyData Str)
theorem W_all {as : PyData → M Env} {mt : Env → M Bool} {me : Env → M Val} : ∀ (l : List Int) {Q : List PyData → Tap → Prop},
    (∀ x ∈ l, W (as (.int x)) [] fun env t1 => t1 = [] ∧ W (mt env) [] fun b t2 => t2 = [] ∧ b = true ∧ W (me env) [] fun y t3 => t3 = [] ∧ y = .d (.bool true)) → Q (l.map fun _ => .bool true) [] → W (evC as mt me (IL l)) [] Q := fun l Q h q =>
  W_comp (p := fun _ => true) (f := fun _ => .bool true) l (fun x hx => W_mono (h x hx) fun env t1 ⟨e, k⟩ => ⟨e, W_mono k fun b t2 ⟨e2, k2, k3⟩ => ⟨e2, k2, fun _ => k3⟩⟩) (by rw [List.filter_eq_self.mpr (fun _ _ => rfl)]; exact q)
theorem bools_true : ∀ l : List Int, bools? (l.map fun _ => PyData.bool true) = some (l.map fun _ => true)
  | [] => rfl
  | x :: l => by
    rw [List.map_cons, List.map_cons]
    unfold bools?
    rw [bools_true l]
theorem rng_IL : ∀ (n : Nat) (a : Int), ∃ l : List Int, rngD a n = IL l ∧ ∀ x ∈ l, a ≤ x ∧ x < a + n
  | 0, a => ⟨[], rfl, fun _ h => by cases h⟩
  | n + 1, a => by
    obtain ⟨l, e, h⟩ := rng_IL n (a + 1)
    refine ⟨a :: l, by unfold rngD; rw [e]; rfl, fun x hx => ?_⟩
    rcases List.mem_cons.mp hx with e | hx
    · rw [e]; omega
    · have := h x hx; omega
theorem bf_all (l : List Int) : bfun .all [.list (l.map fun _ => PyData.bool true)] = some (.bool true) := by
  simp only [bfun, bools_true]
  simp
theorem c29 (ns : List Int) : ∃ t, call S 20 29 [.scr (ns.map PyData.int)] [] = some (.d (.bool true), t) := by
  have main : W (call S (19 + 1) 29 [.scr (IL ns)]) [] fun v _ => v = .d (.bool true) := by
    refine W_call rfl rfl ?_
    have hk : ∃ k : Int, (if (2 : Int) < (if (4 : Int) < (ns.length : Int) then 4 else (ns.length : Int)) then (if (4 : Int) < (ns.length : Int) then 4 else (ns.length : Int)) else 2) = k ∧ 0 ≤ k ∧ k ≤ 4 := ⟨_, rfl, by split <;> (split <;> omega), by split <;> (split <;> omega)⟩
    obtain ⟨k, ek, k0, k4⟩ := hk
    obtain ⟨l, el, hl⟩ := rng_IL k.toNat 0
    have lz : (Mini.line : Int) = 16777216 := by decide
    have c1 : (-(Mini.line : Int) ≤ k ∧ k ≤ (Mini.line : Int)) := by omega
    simp [d29, start, Mini.execs, Mini.exec, Mini.tst, Mini.tsts, Mini.ev, Mini.evs, Mini.evP, Mini.evB, Mini.asgn, Mini.asgns, W_bnd, W_ret, W_lft, W_lft0, W_cond, W_if, W_cel, W_resd, W_fail, peek, look, slot, Mini.pk, Mini.evI, Mini.tsts, dats, seqL, seqT, pyAt, bop_add, bop_sub, bop_mulP, bop_modP, bop_fdivP, bf_lenL, bf_lenT, bf_abs, bf_int, bf_tupL, bf_tupT, bf_lisL, bf_lisT, bf_max, bf_min, bf_gcd, co_lt, co_le, co_gt, co_ge, co_eq, co_ne, truth, isTy, int?, Mini.bindKw, h0, p0, h1, p1, h2, p2, h3, p3, h4, p4, h5, p5, h6, p6, h7, p7, h8, p8, h9, p9, h10, p10, h11, p11, h12, p12, h13, p13, h14, p14, h15, p15, h16, p16, h17, p17, h18, p18, h19, p19, h20, p20, h21, p21, h22, p22, h23, p23, h24, p24, h25, p25, h26, p26, h27, p27, h28, p28, h29, p29, IL_len]
    simp only [ek]
    rw [if_pos c1, el, W_lft]
    refine W_all l ?_ ?_
    · intro x hx
      have hx2 := hl x hx
      simp [Mini.execs, Mini.exec, Mini.tst, Mini.tsts, Mini.ev, Mini.evs, Mini.evP, Mini.evB, Mini.asgn, Mini.asgns, W_bnd, W_ret, W_lft, W_lft0, W_cond, W_if, W_cel, W_resd, W_fail, peek, look, slot, Mini.pk, Mini.evI, Mini.tsts, dats, seqL, seqT, pyAt, bop_add, bop_sub, bop_mulP, bop_modP, bop_fdivP, bf_lenL, bf_lenT, bf_abs, bf_int, bf_tupL, bf_tupT, bf_lisL, bf_lisT, bf_max, bf_min, bf_gcd, co_lt, co_le, co_gt, co_ge, co_eq, co_ne, truth, isTy, int?, Mini.bindKw, h0, p0, h1, p1, h2, p2, h3, p3, h4, p4, h5, p5, h6, p6, h7, p7, h8, p8, h9, p9, h10, p10, h11, p11, h12, p12, h13, p13, h14, p14, h15, p15, h16, p16, h17, p17, h18, p18, h19, p19, h20, p20, h21, p21, h22, p22, h23, p23, h24, p24, h25, p25, h26, p26, h27, p27, h28, p28, h29, p29, Mini.gslots, Mini.wipeE]
      refine W_mono (c15 18 ns x (by omega) (by omega) []) ?_
      rintro v t' ⟨rfl, A, B, rfl, a0, b0, b1⟩
      obtain ⟨v, t2, e28, q28⟩ := c28 11 [.int A, .int B, .int 0] ⟨A, B, 0, rfl, a0, b0, b1, by omega, by omega⟩
      subst q28
      have e28' : call S 19 28 [.cel] [.int A, .int B, .int 0] = some (.d (.bool true), t2) := e28
      simp [Mini.execs, Mini.exec, Mini.tst, Mini.tsts, Mini.ev, Mini.evs, Mini.evP, Mini.evB, Mini.asgn, Mini.asgns, W_bnd, W_ret, W_lft, W_lft0, W_cond, W_if, W_cel, W_resd, W_fail, peek, look, slot, Mini.pk, Mini.evI, Mini.tsts, dats, seqL, seqT, pyAt, bop_add, bop_sub, bop_mulP, bop_modP, bop_fdivP, bf_lenL, bf_lenT, bf_abs, bf_int, bf_tupL, bf_tupT, bf_lisL, bf_lisT, bf_max, bf_min, bf_gcd, co_lt, co_le, co_gt, co_ge, co_eq, co_ne, truth, isTy, int?, Mini.bindKw, h0, p0, h1, p1, h2, p2, h3, p3, h4, p4, h5, p5, h6, p6, h7, p7, h8, p8, h9, p9, h10, p10, h11, p11, h12, p12, h13, p13, h14, p14, h15, p15, h16, p16, h17, p17, h18, p18, h19, p19, h20, p20, h21, p21, h22, p22, h23, p23, h24, p24, h25, p25, h26, p26, h27, p27, h28, p28, h29, p29, W_emp, e28']
    · simp [Mini.execs, Mini.exec, Mini.tst, Mini.tsts, Mini.ev, Mini.evs, Mini.evP, Mini.evB, Mini.asgn, Mini.asgns, W_bnd, W_ret, W_lft, W_lft0, W_cond, W_if, W_cel, W_resd, W_fail, peek, look, slot, Mini.pk, Mini.evI, Mini.tsts, dats, seqL, seqT, pyAt, bop_add, bop_sub, bop_mulP, bop_modP, bop_fdivP, bf_lenL, bf_lenT, bf_abs, bf_int, bf_tupL, bf_tupT, bf_lisL, bf_lisT, bf_max, bf_min, bf_gcd, co_lt, co_le, co_gt, co_ge, co_eq, co_ne, truth, isTy, int?, Mini.bindKw, h0, p0, h1, p1, h2, p2, h3, p3, h4, p4, h5, p5, h6, p6, h7, p7, h8, p8, h9, p9, h10, p10, h11, p11, h12, p12, h13, p13, h14, p14, h15, p15, h16, p16, h17, p17, h18, p18, h19, p19, h20, p20, h21, p21, h22, p22, h23, p23, h24, p24, h25, p25, h26, p26, h27, p27, h28, p28, h29, p29, bf_all]
  obtain ⟨v, t', e, q⟩ := main
  subst q
  exact ⟨t', e⟩
end K29

end

section
set_option Elab.async false
set_option linter.all false
set_option maxRecDepth 100000
set_option maxHeartbeats 0
namespace K29
open PySem PySem.Spec PyProof.Rows L2 Snd
abbrev Rw : PySem.W.OpenRow := PySem.W.OpenLaw.row PySem.Challenge.rw_platelights_k29_whole_halves_linear_roun
def body : List Stmt := PySem.Challenge.pw_platelights_k29_whole_halves_linear_roun.main.body
def top (i : Nat) : Stmt := body.getD i (.Pass ⟨0, 0, 0, 0⟩)
def tops : List Stmt := ix.map top
theorem chk : ((S.defs.zip tops).all fun p => chkD S p.1 p.2) = true := by kernel_rfl
theorem b0 : Bnd d0 (top 5) := by
  intro n ks hm kV doc pm cdv ct an us ws zs hu hw hz
  simp only [d0, List.mem_cons, List.not_mem_nil, or_false, Prod.mk.injEq] at hm
  rcases hm with ⟨rfl, rfl⟩
  · match us, ws, hu, hw with
    | [u0], [], _, _ =>
      have e : zs = [u0] := (Option.some.inj (show some [u0] = some zs from hz)).symm
      subst e
      kernel_rfl
theorem b1 : Bnd d1 (top 6) := by
  intro n ks hm kV doc pm cdv ct an us ws zs hu hw hz
  simp only [d1, List.mem_cons, List.not_mem_nil, or_false, Prod.mk.injEq] at hm
  rcases hm with ⟨rfl, rfl⟩
  · match us, ws, hu, hw with
    | [u0, u1], [], _, _ =>
      have e : zs = [u0, u1] := (Option.some.inj (show some [u0, u1] = some zs from hz)).symm
      subst e
      kernel_rfl
theorem b2 : Bnd d2 (top 7) := by
  intro n ks hm kV doc pm cdv ct an us ws zs hu hw hz
  simp only [d2, List.mem_cons, List.not_mem_nil, or_false, Prod.mk.injEq] at hm
  rcases hm with ⟨rfl, rfl⟩
  · match us, ws, hu, hw with
    | [u0], [], _, _ =>
      have e : zs = [u0] := (Option.some.inj (show some [u0] = some zs from hz)).symm
      subst e
      kernel_rfl
theorem b3 : Bnd d3 (top 8) := by
  intro n ks hm kV doc pm cdv ct an us ws zs hu hw hz
  simp only [d3, List.mem_cons, List.not_mem_nil, or_false, Prod.mk.injEq] at hm
  rcases hm with ⟨rfl, rfl⟩
  · match us, ws, hu, hw with
    | [u0], [], _, _ =>
      have e : zs = [u0] := (Option.some.inj (show some [u0] = some zs from hz)).symm
      subst e
      kernel_rfl
theorem b4 : Bnd d4 (top 9) := by
  intro n ks hm kV doc pm cdv ct an us ws zs hu hw hz
  simp only [d4, List.mem_cons, List.not_mem_nil, or_false, Prod.mk.injEq] at hm
  rcases hm with ⟨rfl, rfl⟩
  · match us, ws, hu, hw with
    | [u0, u1], [], _, _ =>
      have e : zs = [u0, u1] := (Option.some.inj (show some [u0, u1] = some zs from hz)).symm
      subst e
      kernel_rfl
theorem b5 : Bnd d5 (top 11) := by
  intro n ks hm kV doc pm cdv ct an us ws zs hu hw hz
  simp only [d5, List.mem_cons, List.not_mem_nil, or_false, Prod.mk.injEq] at hm
  rcases hm with ⟨rfl, rfl⟩
  · match us, ws, hu, hw with
    | [u0], [], _, _ =>
      have e : zs = [u0] := (Option.some.inj (show some [u0] = some zs from hz)).symm
      subst e
      kernel_rfl
theorem b6 : Bnd d6 (top 13) := by
  intro n ks hm kV doc pm cdv ct an us ws zs hu hw hz
  simp only [d6, List.mem_cons, List.not_mem_nil, or_false, Prod.mk.injEq] at hm
  rcases hm with ⟨rfl, rfl⟩
  · match us, ws, hu, hw with
    | [u0], [], _, _ =>
      have e : zs = [u0] := (Option.some.inj (show some [u0] = some zs from hz)).symm
      subst e
      kernel_rfl
theorem b7 : Bnd d7 (top 14) := by
  intro n ks hm kV doc pm cdv ct an us ws zs hu hw hz
  simp only [d7, List.mem_cons, List.not_mem_nil, or_false, Prod.mk.injEq] at hm
  rcases hm with ⟨rfl, rfl⟩
  · match us, ws, hu, hw with
    | [u0], [], _, _ =>
      have e : zs = [u0] := (Option.some.inj (show some [u0] = some zs from hz)).symm
      subst e
      kernel_rfl
theorem b8 : Bnd d8 (top 15) := by
  intro n ks hm kV doc pm cdv ct an us ws zs hu hw hz
  simp only [d8, List.mem_cons, List.not_mem_nil, or_false, Prod.mk.injEq] at hm
  rcases hm with ⟨rfl, rfl⟩
  · match us, ws, hu, hw with
    | [u0], [], _, _ =>
      have e : zs = [u0] := (Option.some.inj (show some [u0] = some zs from hz)).symm
      subst e
      kernel_rfl
theorem b9 : Bnd d9 (top 18) := by
  intro n ks hm kV doc pm cdv ct an us ws zs hu hw hz
  simp only [d9, List.mem_cons, List.not_mem_nil, or_false, Prod.mk.injEq] at hm
  rcases hm with ⟨rfl, rfl⟩
  · match us, ws, hu, hw with
    | [u0], [], _, _ =>
      have e : zs = [u0] := (Option.some.inj (show some [u0] = some zs from hz)).symm
      subst e
      kernel_rfl
theorem b10 : Bnd d10 (top 19) := by
  intro n ks hm kV doc pm cdv ct an us ws zs hu hw hz
  simp only [d10, List.mem_cons, List.not_mem_nil, or_false, Prod.mk.injEq] at hm
  rcases hm with ⟨rfl, rfl⟩
  · match us, ws, hu, hw with
    | [u0, u1], [], _, _ =>
      have e : zs = [u0, u1] := (Option.some.inj (show some [u0, u1] = some zs from hz)).symm
      subst e
      kernel_rfl
theorem b11 : Bnd d11 (top 20) := by
  intro n ks hm kV doc pm cdv ct an us ws zs hu hw hz
  simp only [d11, List.mem_cons, List.not_mem_nil, or_false, Prod.mk.injEq] at hm
  rcases hm with ⟨rfl, rfl⟩
  · match us, ws, hu, hw with
    | [u0, u1], [], _, _ =>
      have e : zs = [u0, u1] := (Option.some.inj (show some [u0, u1] = some zs from hz)).symm
      subst e
      kernel_rfl
theorem b12 : Bnd d12 (top 21) := by
  intro n ks hm kV doc pm cdv ct an us ws zs hu hw hz
  simp only [d12, List.mem_cons, List.not_mem_nil, or_false, Prod.mk.injEq] at hm
  rcases hm with ⟨rfl, rfl⟩
  · match us, ws, hu, hw with
    | [u0, u1], [], _, _ =>
      have e : zs = [u0, u1] := (Option.some.inj (show some [u0, u1] = some zs from hz)).symm
      subst e
      kernel_rfl
theorem b13 : Bnd d13 (top 22) := by
  intro n ks hm kV doc pm cdv ct an us ws zs hu hw hz
  simp only [d13, List.mem_cons, List.not_mem_nil, or_false, Prod.mk.injEq] at hm
  rcases hm with ⟨rfl, rfl⟩ | ⟨rfl, rfl⟩
  · match us, ws, hu, hw with
    | [], [w0], _, _ =>
      have e : zs = [w0] := (Option.some.inj (show some [w0] = some zs from hz)).symm
      subst e
      kernel_rfl
  · match us, ws, hu, hw with
    | [u0], [], _, _ =>
      have e : zs = [u0] := (Option.some.inj (show some [u0] = some zs from hz)).symm
      subst e
      kernel_rfl
theorem b14 : Bnd d14 (top 23) := by
  intro n ks hm kV doc pm cdv ct an us ws zs hu hw hz
  simp only [d14, List.mem_cons, List.not_mem_nil, or_false, Prod.mk.injEq] at hm
  rcases hm with ⟨rfl, rfl⟩ | ⟨rfl, rfl⟩
  · match us, ws, hu, hw with
    | [], [w0], _, _ =>
      have e : zs = [w0] := (Option.some.inj (show some [w0] = some zs from hz)).symm
      subst e
      kernel_rfl
  · match us, ws, hu, hw with
    | [u0], [], _, _ =>
      have e : zs = [u0] := (Option.some.inj (show some [u0] = some zs from hz)).symm
      subst e
      kernel_rfl
theorem b15 : Bnd d15 (top 25) := by
  intro n ks hm kV doc pm cdv ct an us ws zs hu hw hz
  simp only [d15, List.mem_cons, List.not_mem_nil, or_false, Prod.mk.injEq] at hm
  rcases hm with ⟨rfl, rfl⟩
  · match us, ws, hu, hw with
    | [u0, u1], [], _, _ =>
      have e : zs = [u0, u1] := (Option.some.inj (show some [u0, u1] = some zs from hz)).symm
      subst e
      kernel_rfl
theorem b16 : Bnd d16 (top 26) := by
  intro n ks hm kV doc pm cdv ct an us ws zs hu hw hz
  simp only [d16, List.mem_cons, List.not_mem_nil, or_false, Prod.mk.injEq] at hm
  rcases hm with ⟨rfl, rfl⟩
  · match us, ws, hu, hw with
    | [u0, u1], [], _, _ =>
      have e : zs = [u0, u1] := (Option.some.inj (show some [u0, u1] = some zs from hz)).symm
      subst e
      kernel_rfl
theorem b17 : Bnd d17 (top 27) := by
  intro n ks hm kV doc pm cdv ct an us ws zs hu hw hz
  simp only [d17, List.mem_cons, List.not_mem_nil, or_false, Prod.mk.injEq] at hm
  rcases hm with ⟨rfl, rfl⟩
  · match us, ws, hu, hw with
    | [u0, u1], [], _, _ =>
      have e : zs = [u0, u1] := (Option.some.inj (show some [u0, u1] = some zs from hz)).symm
      subst e
      kernel_rfl
theorem b18 : Bnd d18 (top 28) := by
  intro n ks hm kV doc pm cdv ct an us ws zs hu hw hz
  simp only [d18, List.mem_cons, List.not_mem_nil, or_false, Prod.mk.injEq] at hm
  rcases hm with ⟨rfl, rfl⟩
  · match us, ws, hu, hw with
    | [u0, u1], [], _, _ =>
      have e : zs = [u0, u1] := (Option.some.inj (show some [u0, u1] = some zs from hz)).symm
      subst e
      kernel_rfl
theorem b19 : Bnd d19 (top 29) := by
  intro n ks hm kV doc pm cdv ct an us ws zs hu hw hz
  simp only [d19, List.mem_cons, List.not_mem_nil, or_false, Prod.mk.injEq] at hm
  rcases hm with ⟨rfl, rfl⟩
  · match us, ws, hu, hw with
    | [u0], [], _, _ =>
      have e : zs = [u0] := (Option.some.inj (show some [u0] = some zs from hz)).symm
      subst e
      kernel_rfl
theorem b20 : Bnd d20 (top 30) := by
  intro n ks hm kV doc pm cdv ct an us ws zs hu hw hz
  simp only [d20, List.mem_cons, List.not_mem_nil, or_false, Prod.mk.injEq] at hm
  rcases hm with ⟨rfl, rfl⟩
  · match us, ws, hu, hw with
    | [u0], [], _, _ =>
      have e : zs = [u0] := (Option.some.inj (show some [u0] = some zs from hz)).symm
      subst e
      kernel_rfl
theorem b21 : Bnd d21 (top 31) := by
  intro n ks hm kV doc pm cdv ct an us ws zs hu hw hz
  simp only [d21, List.mem_cons, List.not_mem_nil, or_false, Prod.mk.injEq] at hm
  rcases hm with ⟨rfl, rfl⟩
  · match us, ws, hu, hw with
    | [u0], [], _, _ =>
      have e : zs = [u0] := (Option.some.inj (show some [u0] = some zs from hz)).symm
      subst e
      kernel_rfl
theorem b22 : Bnd d22 (top 32) := by
  intro n ks hm kV doc pm cdv ct an us ws zs hu hw hz
  simp only [d22, List.mem_cons, List.not_mem_nil, or_false, Prod.mk.injEq] at hm
  rcases hm with ⟨rfl, rfl⟩
  · match us, ws, hu, hw with
    | [u0, u1], [], _, _ =>
      have e : zs = [u0, u1] := (Option.some.inj (show some [u0, u1] = some zs from hz)).symm
      subst e
      kernel_rfl
theorem b23 : Bnd d23 (top 33) := by
  intro n ks hm kV doc pm cdv ct an us ws zs hu hw hz
  simp only [d23, List.mem_cons, List.not_mem_nil, or_false, Prod.mk.injEq] at hm
  rcases hm with ⟨rfl, rfl⟩
  · match us, ws, hu, hw with
    | [u0, u1], [], _, _ =>
      have e : zs = [u0, u1] := (Option.some.inj (show some [u0, u1] = some zs from hz)).symm
      subst e
      kernel_rfl
theorem b24 : Bnd d24 (top 34) := by
  intro n ks hm kV doc pm cdv ct an us ws zs hu hw hz
  simp only [d24, List.mem_cons, List.not_mem_nil, or_false, Prod.mk.injEq] at hm
  rcases hm with ⟨rfl, rfl⟩
  · match us, ws, hu, hw with
    | [u0], [], _, _ =>
      have e : zs = [u0] := (Option.some.inj (show some [u0] = some zs from hz)).symm
      subst e
      kernel_rfl
theorem b25 : Bnd d25 (top 35) := by
  intro n ks hm kV doc pm cdv ct an us ws zs hu hw hz
  simp only [d25, List.mem_cons, List.not_mem_nil, or_false, Prod.mk.injEq] at hm
  rcases hm with ⟨rfl, rfl⟩
  · match us, ws, hu, hw with
    | [u0, u1], [], _, _ =>
      have e : zs = [u0, u1] := (Option.some.inj (show some [u0, u1] = some zs from hz)).symm
      subst e
      kernel_rfl
theorem b26 : Bnd d26 (top 36) := by
  intro n ks hm kV doc pm cdv ct an us ws zs hu hw hz
  simp only [d26, List.mem_cons, List.not_mem_nil, or_false, Prod.mk.injEq] at hm
  rcases hm with ⟨rfl, rfl⟩
  · match us, ws, hu, hw with
    | [u0], [], _, _ =>
      have e : zs = [u0] := (Option.some.inj (show some [u0] = some zs from hz)).symm
      subst e
      kernel_rfl
theorem b27 : Bnd d27 (top 37) := by
  intro n ks hm kV doc pm cdv ct an us ws zs hu hw hz
  simp only [d27, List.mem_cons, List.not_mem_nil, or_false, Prod.mk.injEq] at hm
  rcases hm with ⟨rfl, rfl⟩
  · match us, ws, hu, hw with
    | [u0, u1], [], _, _ =>
      have e : zs = [u0, u1] := (Option.some.inj (show some [u0, u1] = some zs from hz)).symm
      subst e
      kernel_rfl
theorem b28 : Bnd d28 (top 38) := by
  intro n ks hm kV doc pm cdv ct an us ws zs hu hw hz
  simp only [d28, List.mem_cons, List.not_mem_nil, or_false, Prod.mk.injEq] at hm
  rcases hm with ⟨rfl, rfl⟩
  · match us, ws, hu, hw with
    | [u0], [], _, _ =>
      have e : zs = [u0] := (Option.some.inj (show some [u0] = some zs from hz)).symm
      subst e
      kernel_rfl
theorem b29 : Bnd d29 (top 39) := by
  intro n ks hm kV doc pm cdv ct an us ws zs hu hw hz
  simp only [d29, List.mem_cons, List.not_mem_nil, or_false, Prod.mk.injEq] at hm
  rcases hm with ⟨rfl, rfl⟩
  · match us, ws, hu, hw with
    | [u0], [], _, _ =>
      have e : zs = [u0] := (Option.some.inj (show some [u0] = some zs from hz)).symm
      subst e
      kernel_rfl
theorem bs : ∀ (i : Nat) (d : Mini.Def) (st : Stmt), S.defs[i]? = some d → tops[i]? = some st → Bnd d st := by
  intro i d st hd hs
  match i, hd, hs with
  | 0, hd, hs => cases hd; cases hs; exact b0
  | 1, hd, hs => cases hd; cases hs; exact b1
  | 2, hd, hs => cases hd; cases hs; exact b2
  | 3, hd, hs => cases hd; cases hs; exact b3
  | 4, hd, hs => cases hd; cases hs; exact b4
  | 5, hd, hs => cases hd; cases hs; exact b5
  | 6, hd, hs => cases hd; cases hs; exact b6
  | 7, hd, hs => cases hd; cases hs; exact b7
  | 8, hd, hs => cases hd; cases hs; exact b8
  | 9, hd, hs => cases hd; cases hs; exact b9
  | 10, hd, hs => cases hd; cases hs; exact b10
  | 11, hd, hs => cases hd; cases hs; exact b11
  | 12, hd, hs => cases hd; cases hs; exact b12
  | 13, hd, hs => cases hd; cases hs; exact b13
  | 14, hd, hs => cases hd; cases hs; exact b14
  | 15, hd, hs => cases hd; cases hs; exact b15
  | 16, hd, hs => cases hd; cases hs; exact b16
  | 17, hd, hs => cases hd; cases hs; exact b17
  | 18, hd, hs => cases hd; cases hs; exact b18
  | 19, hd, hs => cases hd; cases hs; exact b19
  | 20, hd, hs => cases hd; cases hs; exact b20
  | 21, hd, hs => cases hd; cases hs; exact b21
  | 22, hd, hs => cases hd; cases hs; exact b22
  | 23, hd, hs => cases hd; cases hs; exact b23
  | 24, hd, hs => cases hd; cases hs; exact b24
  | 25, hd, hs => cases hd; cases hs; exact b25
  | 26, hd, hs => cases hd; cases hs; exact b26
  | 27, hd, hs => cases hd; cases hs; exact b27
  | 28, hd, hs => cases hd; cases hs; exact b28
  | 29, hd, hs => cases hd; cases hs; exact b29
  | n + 30, hd, _ => cases hd
theorem hc (i : Nat) (d : Mini.Def) (st : Stmt) (hd : S.defs[i]? = some d) (hs : tops[i]? = some st) : chkD S d st = true ∧ Bnd d st := by
  refine ⟨List.all_eq_true.mp chk (d, st) (List.mem_of_getElem? (i := i) ?_), bs i d st hd hs⟩
  rw [List.getElem?_zip_eq_some]
  exact ⟨hd, hs⟩
abbrev hk : PySem.W.Hook := hookM 4 S tops
def ob (s : PySem.W.SharedT) : He.AlD := obsMG 4 S tops (HandSHeadRun.getT s)
theorem ob_eq (s : PySem.W.SharedT) : ob s = hk.obs s.abs := obsMG_eq (HandSHeadRun.getT_eq s)
def loose0 : List PySem.Str := ["LightError", "InvalidTurn", "is_whole", "are_wholes", "common_part", "lowest", "lowest_over", "upright_to", "is_whole_turn", "check_turn", "turn_with", "is_turn", "quaternion_product", "turn_after", "joined_turns", "two_halves", "linear_and_round", "_law_source", "_law_draw", "_law_pick", "_law_about", "_law_common", "_law_low", "_law_along", "_law_mult", "_law_both", "_law_spin", "_law_number", "_law_great", "_law_is_pair"]
def loose1 : List PySem.Str := ["_law_right", "NO_TURN"]
def loose : List PySem.Str := loose0 ++ loose1
theorem run (w : World) : HandSHeadRun.RunEqI Rw (PySem.W.view Rw.prog [0, 39]) hk ob 20000 loose w := by
  unfold HandSHeadRun.RunEqI
  kernel_rfl
end K29
open PySem PySem.W PySem.Calls PyProof.Rows
theorem K29.close (hlaw : ∀ ns : List Int, ns.length ≤ 63 → ∃ t, Mini.call K29.S 20 29 [.scr (ns.map PyData.int)] [] = some (.d (.bool true), t)) : PySem.Challenge.rw_platelights_k29_whole_halves_linear_roun.Holds := by
  w_on; o_law
  refine HandSHeadRun.head_imp (r := OpenLaw.row PySem.Challenge.rw_platelights_k29_whole_halves_linear_roun) (q := view (OpenLaw.row PySem.Challenge.rw_platelights_k29_whole_halves_linear_roun).prog [0, 39]) (H := K29.hk) (ob := K29.ob) (M := 20000) (loose := K29.loose) (d := HandSHeadRun.topDef (OpenLaw.row PySem.Challenge.rw_platelights_k29_whole_halves_linear_roun).prog 39) (kwd := []) K29.ob_eq
    K29.run (by kernel_rfl) (by kernel_rfl) (by kernel_rfl) (by rfl) (by first | assumption | decide +kernel) (by decide +kernel) ⟨rfl, rfl, rfl, rfl, rfl, by decide +kernel⟩ ?hw ?hc
  case hw => w_witness2
  case hc =>
    refine Snd.walk_G (l := PySem.Challenge.rw_platelights_k29_whole_halves_linear_roun) (n := 63) (lv := 20) (iL := 29) (x := "_law_script") (S := K29.S) (tops := K29.tops) (dL := K29.d29) rfl (by decide) (by kernel_rfl) ⟨rfl, by decide, by decide⟩ rfl rfl (List.mem_cons_self) (by kernel_rfl) (by kernel_rfl) K29.hc hlaw

end
theorem PySem.Challenge.cw_platelights_k29_whole_halves_linear_roun_holds : PySem.Challenge.rw_platelights_k29_whole_halves_linear_roun.Holds := by
  exact K29.close fun ns _ => K29.c29 ns
