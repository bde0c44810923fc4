import PyProof.Rows.All
import Wide.All
import OpenK.AllK
import Wide.FinOn
import KE.KStateDown
import Lean
import HandS.HeadHook2
import HandS.ForMost
import HandS.Exc
import HandS.Wide
import HandS.IsInst
import HandS.More
import HandS.ClsMeth
import HandS.CallSlots
import HandS.WideMore
import HandS.HeadHook1
import HandS.HeadNt
import HandS.HeadEnd
import HandS.Ends
import HandS.Codes
import HandS.Defaults
import HandS.Words
import HandS.WordsExc
import HandS.Head0
import HandS.Head1
import HandS.Head2
import PySem.Challenge.RW_lostyear_k01_names
set_option maxRecDepth 100000
/-! MP: a small Python on values: data, code, evaluator. -/
set_option Elab.async false
set_option linter.all false
namespace MP

/-- data by value -/
inductive D where
  | non | bl (b : Bool) | int (i : Int) | str (s : List Nat)
  | tup (xs : List D) | lst (xs : List D)
  | obj (c : Nat) (fs : List D)
  | cell (n : Nat) | cls (c : Nat) | fn (f : Nat)

/-- what stands at a mutable address: a list, an instance -/
inductive Ow where
  | L (xs : List D)
  | O (c : Nat) (fs : List D)

/-- an expression's value: data; a list (instance) that a name owns, read; a new one that nobody owns yet -/
inductive RV where
  | d (x : D) | bor (o : Ow) | fl (o : Ow)

/-- the shared mutable objects -/
abbrev Wd := List Ow

inductive Res (α : Type) where
  | ok (a : α) (w : Wd)
  | exc (c : Nat) (fs : List D) (w : Wd)
  | bad

def Res.bind {α β : Type} : Res α → (α → Wd → Res β) → Res β
  | .ok a w, k => k a w
  | .exc c fs w, _ => .exc c fs w
  | .bad, _ => .bad

inductive Slot where
  | none | val (x : D) | own (o : Ow)
abbrev Env := List Slot

/-- the built-in types that are asked for -/
inductive Ty where
  | none | bool | int | str | tuple | list
  deriving DecidableEq
inductive P1 where
  | neg | len | toInt | toBool | toStr | sum | max1 | min1 | tuple | list | sorted | isN | notN | isT (t : Ty) | isCls (c : Nat)
inductive P2 where
  | add | sub | mul | fdiv | mod | pow | lt | le | gt | ge | eq | ne | inn | notIn | item | max2 | min2 | join | split | index

inductive Tg where
  | var (i : Nat) | tup (is : List Nat)

mutual
inductive E where
  | con (x : D)
  | var (i : Nat)
  | tup (es : Es) | lst (es : Es)
  | p1 (p : P1) (a : E)
  | p2 (p : P2) (a b : E)
  | ch2 (p q : P2) (a b c : E)
  | ch3 (p q r : P2) (a b c e : E)
  | andd (a b : E) | orr (a b : E) | nott (a : E)
  | ife (c a b : E)
  | slice (a : E) (lo hi : O)
  | attr (a : E) (f : Nat)
  | call (f : Nat) (es : Es)
  | make (c : Nat) (es : Es)
  | meth (a : E) (m : Nat) (es : Es)
  | comp (elt : E) (t : Tg) (it : It) (cond : E)
  | mkcell (a : E)
inductive O where
  | none | some (e : E)
inductive Es where
  | nil | cons (e : E) (es : Es)
/-- what is walked -/
inductive It where
  | of (e : E) | range1 (n : E) | range2 (lo hi : E) | enum (e : E) | zip (a b : E)
end

mutual
inductive S where
  | pass | brk | cont
  | expr (e : E)
  | set (i : Nat) (e : E)
  | unp (is : List Nat) (e : E)
  | aug (i : Nat) (p : P2) (e : E)
  | setItem (i : Nat) (b e : E)
  | setAttr (i : Nat) (f : Nat) (e : E)
  | append (i : Nat) (e : E)
  | ret (e : E)
  | retv (i : Nat)
  | ite (c : E) (a b : Ss)
  | for_ (t : Tg) (it : It) (b : Ss)
  | whl (c : E) (b : Ss)
  | raise (c : Nat) (es : Es)
  | frz (i : Nat)
inductive Ss where
  | nil | cons (s : S) (r : Ss)
end

/-! ### tables, calls -/
structure Tab where
  field : Nat → Nat → Option Nat
  meth : Nat → Nat → Option Nat
  ccon : Nat → Nat → Option D
  sub : Nat → Nat → Bool
  init : Nat → Option Nat
structure Calls where
  fn : Nat → List D → Wd → Res RV
  new : Nat → List D → Wd → Res RV
  fuel : Nat

def RV.toD : RV → Option D
  | .d x => some x
  | .fl (.L xs) => some (.lst xs)
  | .fl (.O c fs) => some (.obj c fs)
  | .bor _ => none
def RV.ow? : RV → Wd → Option Ow
  | .d (.lst xs), _ => some (.L xs)
  | .d (.obj c fs), _ => some (.O c fs)
  | .d (.cell n), w => w[n]?
  | .bor o, _ => some o
  | .fl o, _ => some o
  | _, _ => none
/-- a list, a tuple, by its items -/
def RV.seq? (r : RV) (w : Wd) : Option (List D) := match r with
  | .d (.tup xs) => some xs
  | _ => match r.ow? w with
    | some (.L xs) => some xs
    | _ => none
def RV.lst? (r : RV) (w : Wd) : Option (List D) := match r.ow? w with
  | some (.L xs) => some xs
  | _ => none
def Wd.ok1 {α : Type} (w : Wd) : Option α → Res α
  | some a => .ok a w
  | none => .bad

/-! ### operations on values -/
def big : Nat := 1000000
/-- a place in a sequence -/
def ixAt (n : Nat) (i : Int) : Option Nat :=
  if 0 ≤ i then (if i < n then some i.toNat else none) else if -(n : Int) ≤ i then some (i + n).toNat else none
def at_ {α : Type} (xs : List α) (i : Int) : Option α := (ixAt xs.length i).bind fun j => xs[j]?
/-- a bound of a slice -/
def cutIx (n : Nat) (i : Int) : Nat := if i < 0 then (i + n).toNat else min i.toNat n
def cutLo (n : Nat) : Option Int → Nat
  | none => 0
  | some i => cutIx n i
def cutHi (n : Nat) : Option Int → Nat
  | none => n
  | some i => cutIx n i
def cut {α : Type} (xs : List α) (lo hi : Option Int) : List α := (xs.drop (cutLo xs.length lo)).take (cutHi xs.length hi - cutLo xs.length lo)

def isFlat : D → Bool
  | .non | .bl _ | .int _ | .str _ => true
  | _ => false
/-- == of two flat values -/
def eqF : D → D → Bool
  | .non, .non => true
  | .bl a, .bl b => a == b
  | .bl a, .int b => (if a then 1 else 0) == b
  | .int a, .bl b => a == (if b then 1 else 0)
  | .int a, .int b => a == b
  | .str a, .str b => a == b
  | _, _ => false
/-- flat, and no bool against an int -/
def eqOk : D → D → Bool
  | .bl _, .int _ => false
  | .int _, .bl _ => false
  | a, b => isFlat a && isFlat b
mutual
/-- plain data -/
def plain : D → Bool
  | .non | .bl _ | .int _ | .str _ => true
  | .tup xs => plains xs
  | .lst xs => plains xs
  | _ => false
def plains : List D → Bool
  | [] => true
  | x :: xs => plain x && plains xs
end
mutual
/-- == of plain data -/
def eqD : D → D → Bool
  | .tup xs, .tup ys => eqDs xs ys
  | .lst xs, .lst ys => eqDs xs ys
  | a, b => eqF a b
def eqDs : List D → List D → Bool
  | [], [] => true
  | x :: xs, y :: ys => eqD x y && eqDs xs ys
  | _, _ => false
end
def mulOk (i j : Int) : Bool := (decide (-(2 ^ 64) < i) && decide (i < 2 ^ 64)) || (decide (-(2 ^ 64) < j) && decide (j < 2 ^ 64))
def divOk (j : Int) : Bool := decide (0 < j) && decide (j.natAbs.log2 < 9000)
def powOk (i j : Int) : Bool := decide (0 ≤ j) && decide (j ≤ 1000000) && decide (i.natAbs < 2 ^ 64)

def opInt : P2 → Int → Int → Option D
  | .add, i, j => some (.int (i + j))
  | .sub, i, j => some (.int (i - j))
  | .mul, i, j => if mulOk i j then some (.int (i * j)) else none
  | .fdiv, i, j => if divOk j then some (.int (i / j)) else none
  | .mod, i, j => if 0 < j then some (.int (i % j)) else none
  | .pow, i, j => if powOk i j then some (.int (i ^ j.toNat)) else none
  | .lt, i, j => some (.bl (decide (i < j)))
  | .le, i, j => some (.bl (decide (i ≤ j)))
  | .gt, i, j => some (.bl (decide (j < i)))
  | .ge, i, j => some (.bl (decide (j ≤ i)))
  | .eq, i, j => some (.bl (decide (i = j)))
  | .ne, i, j => some (.bl (!decide (i = j)))
  | .max2, i, j => some (.int (if j > i then j else i))
  | .min2, i, j => some (.int (if j < i then j else i))
  | _, _, _ => none
def opStr : P2 → List Nat → List Nat → Option D
  | .add, a, b => if a.length + b.length ≤ big then some (.str (a ++ b)) else none
  | .eq, a, b => some (.bl (decide (a = b)))
  | .ne, a, b => some (.bl (!decide (a = b)))
  | .inn, [c], b => some (.bl (decide (c ∈ b)))
  | .notIn, [c], b => some (.bl (!decide (c ∈ b)))
  | _, _, _ => none
/-- texts joined -/
def joinL (s : List Nat) : List (List Nat) → List Nat
  | [] => []
  | [a] => a
  | a :: b :: r => a ++ (s ++ joinL s (b :: r))
def strs? : List D → Option (List (List Nat))
  | [] => some []
  | .str s :: r => (strs? r).map (s :: ·)
  | _ :: _ => none
def ints? : List D → Option (List Int)
  | [] => some []
  | .int i :: r => (ints? r).map (i :: ·)
  | _ :: _ => none
def lens (xs : List (List Nat)) : Nat := (xs.map fun a => a.length).sum
def opSeq (p : P2) (a b : RV) (w : Wd) : Option RV :=
  match p, a, b with
  | .item, .d (.str s), .d (.int i) => if s.length ≤ big then (at_ s i).map fun c => .d (.str [c]) else none
  | .item, a, .d (.int i) => (a.seq? w).bind fun xs => (at_ xs i).map .d
  | .join, .d (.str s), b => (b.lst? w).bind fun xs => (strs? xs).bind fun ss => if lens ss + s.length * ss.length ≤ big then some (.d (.str (joinL s ss))) else none
  | .inn, .d x, b => (b.seq? w).bind fun xs => if isFlat x && xs.all isFlat then some (.d (.bl (xs.any fun y => eqF y x))) else none
  | .notIn, .d x, b => (b.seq? w).bind fun xs => if isFlat x && xs.all isFlat then some (.d (.bl (!xs.any fun y => eqF y x))) else none
  | .eq, .d x, .d y => if eqOk x y then some (.d (.bl (eqF x y))) else none
  | .ne, .d x, .d y => if eqOk x y then some (.d (.bl (!eqF x y))) else none
  | _, _, _ => none
def op2 (p : P2) (a b : RV) (w : Wd) : Option RV :=
  match a, b with
  | .d (.int i), .d (.int j) => (opInt p i j).map .d
  | .d (.str s), .d (.str t) => (opStr p s t).map .d
  | a, b => opSeq p a b w
def truth (r : RV) (w : Wd) : Option Bool :=
  match r with
  | .d .non => some false
  | .d (.bl b) => some b
  | .d (.int i) => some (i != 0)
  | .d (.str s) => if s.length ≤ big then some (!s.isEmpty) else none
  | r => (r.seq? w).map fun xs => !xs.isEmpty
def tyOf : D → Option Ty
  | .non => some .none
  | .bl _ => some .bool
  | .int _ => some .int
  | .str _ => some .str
  | .tup _ => some .tuple
  | .lst _ => some .list
  | _ => none
def isTy (u t : Ty) : Bool := u == t || (u == .bool && t == .int)
def op1 (p : P1) (a : RV) (w : Wd) : Option RV :=
  match p, a with
  | .neg, .d (.int i) => some (.d (.int (-i)))
  | .len, .d (.str s) => if s.length ≤ big then some (.d (.int s.length)) else none
  | .len, a => (a.seq? w).map fun xs => .d (.int xs.length)
  | .toInt, .d (.int i) => some (.d (.int i))
  | .toInt, .d (.bl b) => some (.d (.int (if b then 1 else 0)))
  | .toBool, a => (truth a w).map fun b => .d (.bl b)
  | .isN, .d .non => some (.d (.bl true))
  | .isN, .d _ => some (.d (.bl false))
  | .notN, .d .non => some (.d (.bl false))
  | .notN, .d _ => some (.d (.bl true))
  | .isT t, .d x => (tyOf x).map fun u => .d (.bl (isTy u t))
  | .isT t, .bor (.L _) => some (.d (.bl (isTy .list t)))
  | .isT t, .fl (.L _) => some (.d (.bl (isTy .list t)))
  | _, _ => none

/-! ### expressions -/
def bindTg : Tg → D → Env → Option Env
  | .var i, x, env => some (env.set i (.val x))
  | .tup is, .tup xs, env => if is.length = xs.length then some ((is.zip xs).foldl (fun e p => e.set p.1 (.val p.2)) env) else none
  | .tup _, _, _ => none
def compLoop (f : D → Wd → Res (Option D)) : List D → Wd → Res (List D)
  | [], w => .ok [] w
  | x :: xs, w => (f x w).bind fun y w => (compLoop f xs w).bind fun ys w => .ok (match y with
    | some y => y :: ys
    | none => ys) w
/-- where nothing may be raised -/
def noExc {α : Type} : Res α → Res α
  | .exc _ _ _ => .bad
  | r => r
def rangeD (lo : Int) (n : Nat) : List D := (List.range n).map fun i => .int (lo + (i : Nat))
def asD (r : Res RV) : Res D := r.bind fun r w => w.ok1 r.toD
def asB (r : Res RV) : Res Bool := r.bind fun r w => match r with
  | .d (.bl b) => .ok b w
  | _ => .bad
def asI (r : Res RV) : Res Int := r.bind fun r w => match r with
  | .d (.int i) => .ok i w
  | _ => .bad
def rngOk (i : Int) : Bool := decide (-(2 ^ 62) ≤ i) && decide (i < 2 ^ 62)
def sliceR (a : RV) (lo hi : Option Int) (w : Wd) : Option RV :=
  match a with
  | .d (.str s) => if s.length ≤ big then some (.d (.str (cut s lo hi))) else none
  | .d (.tup xs) => if cutLo xs.length lo = 0 && cutHi xs.length hi = xs.length then none else some (.d (.tup (cut xs lo hi)))
  | a => (a.lst? w).map fun xs => .fl (.L (cut xs lo hi))

def clsOf : D → Wd → Option Nat
  | .obj c _, _ => some c
  | .cell n, w => match w[n]? with
    | some (.O c _) => some c
    | _ => none
  | _, _ => none

def andR (r : Res Bool) (k : Wd → Res Bool) : Res Bool := r.bind fun t w => if t then k w else .ok false w
def orR (r : Res Bool) (k : Wd → Res Bool) : Res Bool := r.bind fun t w => if t then .ok true w else k w
def notR (r : Res Bool) : Res Bool := r.bind fun t w => .ok (!t) w
def blR (r : Res Bool) : Res RV := r.bind fun t w => .ok (.d (.bl t)) w
section
variable (T : Tab) (R : Calls)
mutual
def ev : E → Env → Wd → Res RV
  | .con x, _, w => .ok (.d x) w
  | .var i, env, w => match env[i]? with
    | some (.val x) => .ok (.d x) w
    | some (.own o) => .ok (.bor o) w
    | _ => .bad
  | .tup es, env, w => (evDs es env w).bind fun xs w => if xs.length ≤ big then .ok (.d (.tup xs)) w else .bad
  | .lst es, env, w => (evDs es env w).bind fun xs w => if xs.length ≤ big then .ok (.fl (.L xs)) w else .bad
  | .p1 p a, env, w => (ev a env w).bind fun x w => w.ok1 (op1 p x w)
  | .p2 p a b, env, w => (ev a env w).bind fun x w => (ev b env w).bind fun y w => w.ok1 (op2 p x y w)
  | .ch2 p q a b c, env, w => (ev a env w).bind fun x w => (ev b env w).bind fun y w => (asB (w.ok1 (op2 p x y w))).bind fun t w =>
      if t then (ev c env w).bind fun z w => w.ok1 (op2 q y z w) else .ok (.d (.bl false)) w
  | .ch3 p q r a b c e, env, w => (ev a env w).bind fun x w => (ev b env w).bind fun y w => (asB (w.ok1 (op2 p x y w))).bind fun t w =>
      if t then (ev c env w).bind fun z w => (asB (w.ok1 (op2 q y z w))).bind fun t w =>
        if t then (ev e env w).bind fun u w => w.ok1 (op2 r z u w) else .ok (.d (.bl false)) w
      else .ok (.d (.bl false)) w
  | .andd a b, env, w => blR (andR (asB (ev a env w)) fun w => asB (ev b env w))
  | .orr a b, env, w => blR (orR (asB (ev a env w)) fun w => asB (ev b env w))
  | .nott a, env, w => blR (notR (asB (ev a env w)))
  | .ife c a b, env, w => (asB (ev c env w)).bind fun t w => if t then ev a env w else ev b env w
  | .slice a lo hi, env, w => (ev a env w).bind fun x w => (evO lo env w).bind fun l w => (evO hi env w).bind fun h w => w.ok1 (sliceR x l h w)
  | .attr a f, env, w => (ev a env w).bind fun x w => match x.ow? w with
    | some (.O c fs) => w.ok1 ((T.field c f).bind fun i => (fs[i]?).map .d)
    | _ => .bad
  | .call f es, env, w => (evDs es env w).bind fun xs w => R.fn f xs w
  | .make c es, env, w => (evDs es env w).bind fun xs w => R.new c xs w
  | .meth a m es, env, w => (asD (ev a env w)).bind fun x w => (w.ok1 ((clsOf x w).bind fun c => T.meth c m)).bind fun f w => (evDs es env w).bind fun xs w => R.fn f (x :: xs) w
  | .comp elt tg it cond, env, w => (evI it env w).bind fun xs w => if xs.length ≤ big then
      (compLoop (fun x w => match bindTg tg x env with
        | some env' => (noExc (asB (ev cond env' w))).bind fun t w => if t then (noExc (asD (ev elt env' w))).bind fun y w => .ok (some y) w else .ok none w
        | none => .bad) xs w).bind fun ys w => .ok (.fl (.L ys)) w
    else .bad
  | .mkcell a, env, w => (ev a env w).bind fun x w => match x with
    | .fl o => .ok (.d (.cell w.length)) (w ++ [o])
    | _ => .bad
def evO : O → Env → Wd → Res (Option Int)
  | .none, _, w => .ok none w
  | .some e, env, w => (asI (ev e env w)).bind fun i w => .ok (some i) w
def evDs : Es → Env → Wd → Res (List D)
  | .nil, _, w => .ok [] w
  | .cons e es, env, w => (asD (ev e env w)).bind fun x w => (evDs es env w).bind fun xs w => .ok (x :: xs) w
def evI : It → Env → Wd → Res (List D)
  | .of e, env, w => (asD (ev e env w)).bind fun r w => match r with
    | .tup xs => .ok xs w
    | .lst xs => .ok xs w
    | .str s => .ok (s.map fun c => .str [c]) w
    | _ => .bad
  | .range1 n, env, w => (asI (ev n env w)).bind fun n w => if rngOk n then .ok (rangeD 0 n.toNat) w else .bad
  | .range2 lo hi, env, w => (asI (ev lo env w)).bind fun a w => (asI (ev hi env w)).bind fun b w => if rngOk a && rngOk b then .ok (rangeD a (b - a).toNat) w else .bad
  | .enum e, env, w => (asD (ev e env w)).bind fun r w => match r with
    | .lst xs => .ok ((xs.zipIdx).map fun p => .tup [.int p.2, p.1]) w
    | _ => .bad
  | .zip a b, env, w => (asD (ev a env w)).bind fun r w => (asD (ev b env w)).bind fun s w => match r, s with
    | .lst xs, .lst ys => .ok ((xs.zip ys).map fun p => .tup [p.1, p.2]) w
    | _, _ => .bad
end

/-! ### statements -/
inductive SR where
  | next (env : Env) (w : Wd)
  | ret (r : RV) (w : Wd)
  | brk (env : Env) (w : Wd)
  | cont (env : Env) (w : Wd)
  | exc (c : Nat) (fs : List D) (env : Env) (w : Wd)
  | bad
def onOk {α : Type} (env : Env) (r : Res α) (k : α → Wd → SR) : SR := match r with
  | .ok a w => k a w
  | .exc c fs w => .exc c fs env w
  | .bad => .bad
def slotOf : RV → Option Slot
  | .d x => some (.val x)
  | .fl o => some (.own o)
  | .bor _ => none
def forLoop (f : D → Env → Wd → SR) : List D → Env → Wd → SR
  | [], env, w => .next env w
  | x :: xs, env, w => match f x env w with
    | .next env w => forLoop f xs env w
    | .cont env w => forLoop f xs env w
    | .brk env w => .next env w
    | r => r
def whlLoop (c : Env → Wd → Res Bool) (f : Env → Wd → SR) : Nat → Env → Wd → SR
  | 0, _, _ => .bad
  | n + 1, env, w => onOk env (c env w) fun t w => if t then match f env w with
      | .next env w => whlLoop c f n env w
      | .cont env w => whlLoop c f n env w
      | .brk env w => .next env w
      | r => r
    else .next env w
def setOw (o : Ow) (i : Int) (x : D) : Option Ow := match o with
  | .L xs => (ixAt xs.length i).map fun j => .L (xs.set j x)
  | .O _ _ => none
def setFld (o : Ow) (f : Nat) (x : D) : Option Ow := match o with
  | .O c fs => (T.field c f).bind fun i => if i < fs.length then some (.O c (fs.set i x)) else if i = fs.length then some (.O c (fs ++ [x])) else none
  | .L _ => none
def app (o : Ow) (x : D) : Option Ow := match o with
  | .L xs => if xs.length < big then some (.L (xs ++ [x])) else none
  | .O _ _ => none
/-- a name that holds what may be changed: a list, an instance of its own; a cell -/
def writable (env : Env) (i : Nat) : Bool := match env[i]? with
  | some (.own _) => true
  | some (.val (.cell _)) => true
  | _ => false
/-- a name that holds a list of its own, or a cell's -/
def listAt (env : Env) (w : Wd) (i : Nat) : Bool := match env[i]? with
  | some (.own (.L _)) => true
  | some (.val (.cell n)) => match w[n]? with
    | some (.L _) => true
    | _ => false
  | _ => false
/-- what a name (or a cell) holds is changed -/
def changeV (i : Nat) (g : Ow → Option Ow) (env : Env) (w : Wd) : SR := match env[i]? with
  | some (.own o) => match g o with
    | some o => .next (env.set i (.own o)) w
    | none => .bad
  | some (.val (.cell n)) => match (w[n]?).bind g with
    | some o => .next env (w.set n o)
    | none => .bad
  | _ => .bad
mutual
def exS : S → Env → Wd → SR
  | .pass, env, w => .next env w
  | .brk, env, w => .brk env w
  | .cont, env, w => .cont env w
  | .expr e, env, w => onOk env (ev T R e env w) fun _ w => .next env w
  | .set i e, env, w => onOk env (ev T R e env w) fun r w => match slotOf r with
    | some s => .next (env.set i s) w
    | none => .bad
  | .unp is e, env, w => onOk env (asD (ev T R e env w)) fun x w => match x with
    | .tup xs => match bindTg (.tup is) (.tup xs) env with
      | some env => .next env w
      | none => .bad
    | _ => .bad
  | .aug i p e, env, w => match env[i]? with
    | some (.val x) => onOk env (ev T R e env w) fun y w => match op2 p (.d x) y w with
      | some (.d z) => .next (env.set i (.val z)) w
      | _ => .bad
    | _ => .bad
  | .setItem i b e, env, w => if writable env i then onOk env (asD (ev T R e env w)) fun x w => onOk env (asI (ev T R b env w)) fun j w => changeV i (fun o => setOw o j x) env w else .bad
  | .setAttr i f e, env, w => if writable env i then onOk env (asD (ev T R e env w)) fun x w => changeV i (fun o => setFld T o f x) env w else .bad
  | .append i e, env, w => if listAt env w i then onOk env (asD (ev T R e env w)) fun x w => changeV i (fun o => app o x) env w else .bad
  | .ret e, env, w => onOk env (ev T R e env w) fun r w => match r with
    | .bor _ => .bad
    | r => .ret r w
  | .retv i, env, w => match env[i]? with
    | some (.own o) => .ret (.fl o) w
    | some (.val x) => .ret (.d x) w
    | _ => .bad
  | .ite c a b, env, w => onOk env (asB (ev T R c env w)) fun t w => if t then exSs a env w else exSs b env w
  | .for_ t it b, env, w => onOk env (evI T R it env w) fun xs w => forLoop (fun x env w => match bindTg t x env with
    | some env => exSs b env w
    | none => .bad) xs env w
  | .whl c b, env, w => whlLoop (fun env w => asB (ev T R c env w)) (fun env w => exSs b env w) R.fuel env w
  | .raise c es, env, w => onOk env (evDs T R es env w) fun xs w => .exc c xs env w
  | .frz i, env, w => match env[i]? with
    | some (.own (.L xs)) => .next (env.set i (.val (.lst xs))) w
    | some (.own (.O c fs)) => .next (env.set i (.val (.obj c fs))) w
    | _ => .next env w
def exSs : Ss → Env → Wd → SR
  | .nil, env, w => .next env w
  | .cons s r, env, w => match exS s env w with
    | .next env w => exSs r env w
    | x => x
end
end

/-! ### defs, by the depth of calls -/
structure Fn where
  np : Nat
  ns : Nat
  body : Ss
def startE (f : Fn) (xs : List D) : Env := xs.map .val ++ List.replicate (f.ns - xs.length) .none
def endFn : SR → Res RV
  | .next _ w => .ok (.d .non) w
  | .ret (.bor _) _ => .bad
  | .ret r w => .ok r w
  | .exc c fs _ w => .exc c fs w
  | _ => .bad
def endMk : SR → Res RV
  | .next (.own o :: _) w => .ok (.fl o) w
  | .next (.val (.obj c fs) :: _) w => .ok (.d (.obj c fs)) w
  | .exc c fs _ w => .exc c fs w
  | _ => .bad
structure Pgm where
  tab : Tab
  fns : Nat → Option Fn
  fuel : Nat
mutual
def Pgm.run (p : Pgm) : Nat → Nat → List D → Wd → Res RV
  | 0, _, _, _ => .bad
  | k + 1, f, xs, w => match p.fns f with
    | some fn => if xs.length = fn.np then endFn (exSs p.tab ⟨p.run k, p.make k, p.fuel⟩ fn.body (startE fn xs) w) else .bad
    | none => .bad
def Pgm.make (p : Pgm) : Nat → Nat → List D → Wd → Res RV
  | 0, _, _, _ => .bad
  | k + 1, c, xs, w => match p.tab.init c with
    | some f => match p.fns f with
      | some fn => if xs.length + 1 = fn.np then endMk (exSs p.tab ⟨p.run k, p.make k, p.fuel⟩ fn.body (.own (.O c []) :: (startE fn xs)) w) else .bad
      | none => .bad
    | none => .bad
end
end MP

set_option maxRecDepth 100000
/-! MPRep: how data by value stand in the abstract heap. -/
namespace MP
open PySem PySem.Spec PyProof.Rows L2

/-- the names of classes and of their fields -/
structure Nm where
  cls : Nat → Str
  fld : Nat → List Str

/-- the ghost: what may be written (by anybody), where the cells are -/
structure Gh where
  M : Addr → Prop
  cm : List Addr

section
variable (nm : Nm) (K : PySem.W.Frag)

/-- a list that nobody writes -/
def Fz (g : Gh) (H : Hp) (a : Addr) (vs : List V) : Prop :=
  (H a = some (.lst vs) ∧ ¬ g.M a) ∨ (∃ o, H a = some (.frz o (.lst vs))) ∨
    ∃ (o : Obj) (its : Array Value) (n : Nat), K.lookup a = some o ∧ o.cls = .type "list" ∧ o.dict = none ∧ o.data = .seq its n ∧ its.size ≤ sizeLine ∧ Vals vs its.toList
theorem Fz.sq {g : Gh} {H : Hp} {a : Addr} {vs : List V} (h : Fz K g H a vs) : SqL K H a vs := by
  rcases h with ⟨h, _⟩ | ⟨o, h⟩ | h
  · exact .inl (.inl h)
  · exact .inl (.inr ⟨o, h⟩)
  · exact .inr h

/-- an instance's attributes by name -/
def kvs (c : Nat) (vs : List V) : List (Str × V) := (nm.fld c).zip vs
def addr (c : Nat) : Addr := He.ga K (nm.cls c)

mutual
inductive Rep (g : Gh) (H : Hp) : D → V → Prop
  | non : Rep g H .non .non
  | bl (b : Bool) : Rep g H (.bl b) (.bl b)
  | int (i : Int) : Rep g H (.int i) (.int i)
  | str (s : List Nat) : Rep g H (.str s) (.str ⟨s.toArray⟩)
  | tup {a : Addr} {xs : List D} {vs : List V} : SqT K H a vs → RepL g H xs vs → Rep g H (.tup xs) (.ref a)
  | lst {a : Addr} {xs : List D} {vs : List V} : Fz K g H a vs → RepL g H xs vs → Rep g H (.lst xs) (.ref a)
  | obj {a dx : Addr} {c : Nat} {xs : List D} {vs : List V} : H a = some (.ins (addr nm K c) dx (kvs nm c vs)) → ¬ g.M a → vs.length ≤ (nm.fld c).length → RepL g H xs vs → Rep g H (.obj c xs) (.ref a)
  | cell {n : Nat} {a : Addr} : g.cm[n]? = some a → Rep g H (.cell n) (.ref a)
  | cls (c : Nat) : Rep g H (.cls c) (.ref (addr nm K c))
inductive RepL (g : Gh) (H : Hp) : List D → List V → Prop
  | nil : RepL g H [] []
  | cons {x : D} {xs : List D} {v : V} {vs : List V} : Rep g H x v → RepL g H xs vs → RepL g H (x :: xs) (v :: vs)
end

/-- what stands at a's own address -/
inductive OwR (g : Gh) (H : Hp) : Ow → Addr → Prop
  | L {a : Addr} {xs : List D} {vs : List V} : H a = some (.lst vs) → RepL nm K g H xs vs → OwR g H (.L xs) a
  | O {a dx : Addr} {c : Nat} {xs : List D} {vs : List V} : H a = some (.ins (addr nm K c) dx (kvs nm c vs)) → vs.length ≤ (nm.fld c).length → RepL nm K g H xs vs → OwR g H (.O c xs) a

/-- a step of the heap as data see it: all but the cells stand as they stood; what is written anew is new -/
structure Ext (g g' : Gh) (H H' : Hp) : Prop where
  keep : ∀ a o, H a = some o → a ∉ g.cm → H' a = some o
  tup : ∀ a xs, H a = some (.tup xs) → H' a = some (.tup xs)
  frz : ∀ a o u, H a = some (.frz o u) → H' a = some (.frz o u)
  old : ∀ a, g.M a → g'.M a
  new : ∀ a, g'.M a → g.M a ∨ H a = none
  pre : g.cm <+: g'.cm
  newc : ∀ a ∈ g'.cm, a ∈ g.cm ∨ H a = none
  live : ∀ a o, H a = some o → ∃ o', H' a = some o'

/-- what data lean on -/
structure Ext0 (g g' : Gh) (H H' : Hp) : Prop where
  keep : ∀ a o, H a = some o → ¬ g.M a → H' a = some o
  tup : ∀ a xs, H a = some (.tup xs) → H' a = some (.tup xs)
  frz : ∀ a o u, H a = some (.frz o u) → H' a = some (.frz o u)
  new : ∀ a, g'.M a → g.M a ∨ H a = none
  pre : g.cm <+: g'.cm

/-- the state of what may be written -/
structure WR (g : Gh) (w : Wd) (H : Hp) : Prop where
  cells : ∀ (n : Nat) (o : Ow), w[n]? = some o → ∃ a, g.cm[n]? = some a ∧ OwR nm K g H o a
  len : g.cm.length = w.length
  cmM : ∀ a ∈ g.cm, g.M a
  nd : g.cm.Nodup
  dom : ∀ a, g.M a → ∃ o, H a = some o
end

section
variable {nm : Nm} {K : PySem.W.Frag} {g g' g1 g2 : Gh} {H H' H1 H2 : Hp}
theorem Ext.refl : Ext g g H H := ⟨fun _ _ h _ => h, fun _ _ h => h, fun _ _ _ h => h, fun _ h => h, fun _ h => .inl h, List.prefix_refl _, fun _ h => .inl h, fun _ o h => ⟨o, h⟩⟩
theorem Ext.trans (a : Ext g g1 H H1) (b : Ext g1 g2 H1 H2) : Ext g g2 H H2 where
  keep := fun c o h hc => b.keep c o (a.keep c o h hc) fun z => by
    rcases a.newc c z with z | z
    · exact hc z
    · rw [h] at z
      cases z
  tup := fun c xs h => b.tup c xs (a.tup c xs h)
  frz := fun c o u h => b.frz c o u (a.frz c o u h)
  old := fun c h => b.old c (a.old c h)
  new := fun c h => by
    rcases b.new c h with h | h
    · exact a.new c h
    · refine .inr ?_
      cases q : H c with
      | none => rfl
      | some o =>
        obtain ⟨o', e⟩ := a.live c o q
        rw [h] at e
        cases e
  pre := a.pre.trans b.pre
  newc := fun c h => by
    rcases b.newc c h with h | h
    · exact a.newc c h
    · refine .inr ?_
      cases q : H c with
      | none => rfl
      | some o =>
        obtain ⟨o', e⟩ := a.live c o q
        rw [h] at e
        cases e
  live := fun c o h => by
    obtain ⟨o1, e⟩ := a.live c o h
    exact b.live c o1 e

theorem Ext.to0 (e : Ext g g' H H') (cm : ∀ a ∈ g.cm, g.M a) : Ext0 g g' H H' := ⟨fun a o h n => e.keep a o h fun z => n (cm a z), e.tup, e.frz, e.new, e.pre⟩
theorem Fz.mono0 {a : Addr} {vs : List V} (e : Ext0 g g' H H') (h : Fz K g H a vs) : Fz K g' H' a vs := by
  rcases h with ⟨h, n⟩ | ⟨o, h⟩ | h
  · refine .inl ⟨e.keep a _ h n, fun z => ?_⟩
    rcases e.new a z with z | z
    · exact n z
    · rw [h] at z
      cases z
  · exact .inr (.inl ⟨o, e.frz a o _ h⟩)
  · exact .inr (.inr h)
theorem SqT.mono0 {a : Addr} {vs : List V} (e : Ext0 g g' H H') (h : SqT K H a vs) : SqT K H' a vs := by
  rcases h with (h | ⟨o, h⟩) | h
  · exact .inl (.inl (e.tup _ _ h))
  · exact .inl (.inr ⟨o, e.frz _ _ _ h⟩)
  · exact .inr h
mutual
theorem Rep.mono0 (e : Ext0 g g' H H') : ∀ (d : D) (v : V), Rep nm K g H d v → Rep nm K g' H' d v
  | .non, _, h => by cases h; exact .non
  | .bl _, _, h => by cases h; exact .bl _
  | .int _, _, h => by cases h; exact .int _
  | .str _, _, h => by cases h; exact .str _
  | .tup xs, _, h => by
    cases h with
    | tup h1 h2 => exact .tup (SqT.mono0 e h1) (RepL.mono0 e xs _ h2)
  | .lst xs, _, h => by
    cases h with
    | lst h1 h2 => exact .lst (Fz.mono0 e h1) (RepL.mono0 e xs _ h2)
  | .obj c xs, _, h => by
    cases h with
    | obj h1 n l h2 =>
      refine .obj (e.keep _ _ h1 n) (fun z => ?_) l (RepL.mono0 e xs _ h2)
      rcases e.new _ z with z | z
      · exact n z
      · rw [h1] at z
        cases z
  | .cell n, _, h => by
    cases h with
    | cell h1 =>
      obtain ⟨t, et⟩ := e.pre
      refine .cell ?_
      rw [← et, List.getElem?_append_left (List.getElem?_eq_some_iff.mp h1).1]
      exact h1
  | .cls c, _, h => by cases h; exact .cls c
  | .fn _, _, h => by cases h
theorem RepL.mono0 (e : Ext0 g g' H H') : ∀ (ds : List D) (vs : List V), RepL nm K g H ds vs → RepL nm K g' H' ds vs
  | [], _, h => by cases h; exact .nil
  | d :: ds, _, h => by
    cases h with
    | cons h1 h2 => exact .cons (Rep.mono0 e d _ h1) (RepL.mono0 e ds _ h2)
end
theorem Fz.mono {a : Addr} {vs : List V} (e : Ext g g' H H') (cm : ∀ a ∈ g.cm, g.M a) (h : Fz K g H a vs) : Fz K g' H' a vs := Fz.mono0 (e.to0 cm) h
theorem Rep.mono (e : Ext g g' H H') (cm : ∀ a ∈ g.cm, g.M a) (d : D) (v : V) (h : Rep nm K g H d v) : Rep nm K g' H' d v := Rep.mono0 (e.to0 cm) d v h
theorem RepL.mono (e : Ext g g' H H') (cm : ∀ a ∈ g.cm, g.M a) (ds : List D) (vs : List V) (h : RepL nm K g H ds vs) : RepL nm K g' H' ds vs := RepL.mono0 (e.to0 cm) ds vs h
theorem RepL.length : ∀ {ds : List D} {vs : List V}, RepL nm K g H ds vs → ds.length = vs.length
  | [], _, h => by cases h; rfl
  | d :: ds, _, h => by
    cases h with
    | cons h1 h2 => exact congrArg Nat.succ (RepL.length h2)
theorem RepL.get : ∀ {ds : List D} {vs : List V} {i : Nat} {d : D}, RepL nm K g H ds vs → ds[i]? = some d → ∃ v, vs[i]? = some v ∧ Rep nm K g H d v
  | [], _, _, _, _, e => by simp at e
  | x :: xs, _, 0, d, h, e => by
    cases h with
    | cons h1 h2 =>
      simp at e
      subst e
      exact ⟨_, rfl, h1⟩
  | x :: xs, _, i + 1, d, h, e => by
    cases h with
    | cons h1 h2 =>
      obtain ⟨v, e1, r⟩ := RepL.get (i := i) h2 (by simpa using e)
      exact ⟨v, by simpa using e1, r⟩
theorem RepL.getV : ∀ {ds : List D} {vs : List V} {i : Nat} {v : V}, RepL nm K g H ds vs → vs[i]? = some v → ∃ d, ds[i]? = some d ∧ Rep nm K g H d v
  | _, [], _, _, _, e => by simp at e
  | _, x :: xs, 0, d, h, e => by
    cases h with
    | cons h1 h2 =>
      simp at e
      subst e
      exact ⟨_, rfl, h1⟩
  | _, x :: xs, i + 1, d, h, e => by
    cases h with
    | cons h1 h2 =>
      obtain ⟨v, e1, r⟩ := RepL.getV (i := i) h2 (by simpa using e)
      exact ⟨v, by simpa using e1, r⟩
theorem RepL.append : ∀ {ds es : List D} {vs us : List V}, RepL nm K g H ds vs → RepL nm K g H es us → RepL nm K g H (ds ++ es) (vs ++ us)
  | [], _, _, _, h, h' => by cases h; exact h'
  | _ :: _, _, _, _, h, h' => by
    cases h with
    | cons h1 h2 => exact .cons h1 (RepL.append h2 h')
theorem RepL.set {d : D} {v : V} (r : Rep nm K g H d v) : ∀ {ds : List D} {vs : List V} (i : Nat), RepL nm K g H ds vs → RepL nm K g H (ds.set i d) (vs.set i v)
  | [], _, _, h => by cases h; exact .nil
  | _ :: _, _, 0, h => by
    cases h with
    | cons h1 h2 => exact .cons r h2
  | _ :: _, _, i + 1, h => by
    cases h with
    | cons h1 h2 => exact .cons h1 (RepL.set r i h2)
theorem RepL.take : ∀ {ds : List D} {vs : List V} (i : Nat), RepL nm K g H ds vs → RepL nm K g H (ds.take i) (vs.take i)
  | [], _, _, h => by cases h; simp; exact .nil
  | _ :: _, _, 0, h => by simp; exact .nil
  | _ :: _, _, i + 1, h => by
    cases h with
    | cons h1 h2 => simp; exact .cons h1 (RepL.take i h2)
theorem RepL.drop : ∀ {ds : List D} {vs : List V} (i : Nat), RepL nm K g H ds vs → RepL nm K g H (ds.drop i) (vs.drop i)
  | [], _, _, h => by cases h; simp; exact .nil
  | _ :: _, _, 0, h => by simpa using h
  | _ :: _, _, i + 1, h => by
    cases h with
    | cons h1 h2 => simpa using RepL.drop i h2
theorem OwR.mono {o : Ow} {a : Addr} (e : Ext g g' H H') (cm : ∀ a ∈ g.cm, g.M a) (hc : a ∉ g.cm) (h : OwR nm K g H o a) : OwR nm K g' H' o a := by
  cases h with
  | L h1 h2 => exact .L (e.keep _ _ h1 hc) (RepL.mono e cm _ _ h2)
  | O h1 l h2 => exact .O (e.keep _ _ h1 hc) l (RepL.mono e cm _ _ h2)
theorem OwR.there {o : Ow} {a : Addr} (h : OwR nm K g H o a) : ∃ u, H a = some u := by
  cases h with
  | L h1 h2 => exact ⟨_, h1⟩
  | O h1 l h2 => exact ⟨_, h1⟩
end
end MP

set_option maxRecDepth 100000
set_option maxHeartbeats 1000000
/-! MPOp: the operations on values keep what the data say. -/
namespace MP
open PySem PySem.Spec PyProof.Rows L2
section
variable (nm : Nm) (K : PySem.W.Frag)
/-- a value of an expression, as it stands -/
def RV.at (g : Gh) (H : Hp) : RV → V → Prop
  | .d x, v => Rep nm K g H x v
  | .bor o, v => ∃ a, v = .ref a ∧ OwR nm K g H o a ∧ a ∉ g.cm
  | .fl o, v => ∃ a, v = .ref a ∧ OwR nm K g H o a ∧ a ∉ g.cm
/-- .. behind a step: what nobody owns is new -/
def RP (g' : Gh) (H H' : Hp) (r : RV) (v : V) : Prop := RV.at nm K g' H' r v ∧ ∀ o, r = .fl o → ∀ a, v = .ref a → H a = none ∧ g'.M a
end
section
variable {nm : Nm} {K : PySem.W.Frag} {g g' g1 g2 : Gh} {H H' H1 H2 : Hp} {w w' : Wd}
theorem RV.at.mono {r : RV} {v : V} (e : Ext g g' H H') (cm : ∀ a ∈ g.cm, g.M a) (h : RV.at nm K g H r v) : RV.at nm K g' H' r v := by
  cases r with
  | d x => exact Rep.mono e cm x v h
  | bor o =>
    obtain ⟨a, rfl, h1, h2⟩ := h
    refine ⟨a, rfl, h1.mono e cm h2, fun z => ?_⟩
    rcases e.newc a z with z | z
    · exact h2 z
    · obtain ⟨u, q⟩ := h1.there
      rw [q] at z
      cases z
  | fl o =>
    obtain ⟨a, rfl, h1, h2⟩ := h
    refine ⟨a, rfl, h1.mono e cm h2, fun z => ?_⟩
    rcases e.newc a z with z | z
    · exact h2 z
    · obtain ⟨u, q⟩ := h1.there
      rw [q] at z
      cases z
theorem RP.start {r : RV} {v : V} (e : Ext g g1 H H1) (h : RP nm K g' H1 H' r v) : RP nm K g' H H' r v := by
  refine ⟨h.1, fun o eo a ea => ?_⟩
  obtain ⟨h1, h2⟩ := h.2 o eo a ea
  refine ⟨?_, h2⟩
  cases q : H a with
  | none => rfl
  | some u =>
    obtain ⟨o', e'⟩ := e.live a u q
    rw [h1] at e'
    cases e'
theorem RP.d {x : D} {v : V} (h : Rep nm K g' H' x v) : RP nm K g' H H' (.d x) v := ⟨h, fun o e => by cases e⟩

/-! ### what is read -/
def OwX (nm : Nm) (K : PySem.W.Frag) (g : Gh) (H : Hp) (a : Addr) : Ow → Prop
  | .L xs => ∃ vs, SqL K H a vs ∧ RepL nm K g H xs vs
  | .O c xs => ∃ dx vs, H a = some (.ins (addr nm K c) dx (kvs nm c vs)) ∧ vs.length ≤ (nm.fld c).length ∧ RepL nm K g H xs vs
theorem ow_of {r : RV} {o : Ow} {v : V} (W : WR nm K g w H) (h : RV.at nm K g H r v) (e : r.ow? w = some o) : ∃ a, v = .ref a ∧ OwX nm K g H a o := by
  have go : ∀ {a : Addr} {o : Ow}, OwR nm K g H o a → OwX nm K g H a o := by
    intro a o q
    cases q with
    | L h1 h2 => exact ⟨_, .inl (.inl h1), h2⟩
    | O h1 l h2 => exact ⟨_, _, h1, l, h2⟩
  cases r with
  | d x =>
    cases x with
    | lst xs =>
      cases e
      cases h with
      | lst h1 h2 => exact ⟨_, rfl, _, h1.sq, h2⟩
    | obj c xs =>
      cases e
      cases h with
      | obj h1 n l h2 => exact ⟨_, rfl, _, _, h1, l, h2⟩
    | cell n =>
      cases h with
      | cell h1 =>
        obtain ⟨a, e1, q⟩ := W.cells n o e
        rw [h1] at e1
        cases e1
        exact ⟨_, rfl, go q⟩
    | _ => cases e
  | bor o' =>
    cases e
    obtain ⟨a, rfl, q, _⟩ := h
    exact ⟨a, rfl, go q⟩
  | fl o' =>
    cases e
    obtain ⟨a, rfl, q, _⟩ := h
    exact ⟨a, rfl, go q⟩
theorem lst_of {r : RV} {xs : List D} {v : V} (W : WR nm K g w H) (h : RV.at nm K g H r v) (e : r.lst? w = some xs) : ∃ a vs, v = .ref a ∧ SqL K H a vs ∧ RepL nm K g H xs vs := by
  unfold RV.lst? at e
  split at e
  · rename_i ys eo
    cases e
    obtain ⟨a, ev, vs, h1, h2⟩ := ow_of W h eo
    exact ⟨a, vs, ev, h1, h2⟩
  · cases e
theorem seq_of {r : RV} {xs : List D} {v : V} (W : WR nm K g w H) (h : RV.at nm K g H r v) (e : r.seq? w = some xs) : ∃ a vs, v = .ref a ∧ (SqL K H a vs ∨ SqT K H a vs) ∧ RepL nm K g H xs vs := by
  unfold RV.seq? at e
  split at e
  · cases e
    cases h with
    | tup h1 h2 => exact ⟨_, _, rfl, .inr h1, h2⟩
  · split at e
    · rename_i ys eo
      cases e
      obtain ⟨a, ev, vs, h1, h2⟩ := ow_of W h eo
      exact ⟨a, vs, ev, .inl h1, h2⟩
    · cases e
theorem at_of' {xs : List D} {vs : List V} {i : Int} {d : D} (r : RepL nm K g H xs vs) (e : at_ xs i = some d) : ∃ v, atI vs i = some v ∧ Rep nm K g H d v := by
  unfold at_ at e
  cases q : ixAt xs.length i with
  | none => rw [q] at e; cases e
  | some j =>
    rw [q] at e
    obtain ⟨v, h1, h2⟩ := r.get (show xs[j]? = some d from e)
    refine ⟨v, ?_, h2⟩
    have q2 : ixN vs.length i = some j := by rw [← r.length]; exact q
    unfold atI
    rw [q2]
    exact h1
/-- a flat value -/
theorem flat_of {x : D} {v : V} (h : Rep nm K g H x v) (f : isFlat x = true) : flatV v = true := by
  cases x with
  | non => cases h; rfl
  | bl b => cases h; rfl
  | int i => cases h; rfl
  | str s => cases h; rfl
  | _ => cases f
theorem eqF_of {x y : D} {v u : V} (h : Rep nm K g H x v) (h' : Rep nm K g H y u) (f : isFlat x = true) (f' : isFlat y = true) : eqV v u = eqF x y := by
  have hs : ∀ a b : List Nat, ((⟨a.toArray⟩ : Str) == ⟨b.toArray⟩) = (a == b) := fun a b => by
    rw [Bool.eq_iff_iff]
    simp
  cases x with
  | non => cases h; cases y with
    | non => cases h'; rfl
    | bl b => cases h'; rfl
    | int b => cases h'; rfl
    | str b => cases h'; rfl
    | _ => cases f'
  | bl a => cases h; cases y with
    | non => cases h'; rfl
    | bl b => cases h'; rfl
    | int b => cases h'; rfl
    | str b => cases h'; rfl
    | _ => cases f'
  | int a => cases h; cases y with
    | non => cases h'; rfl
    | bl b => cases h'; rfl
    | int b => cases h'; rfl
    | str b => cases h'; rfl
    | _ => cases f'
  | str a => cases h; cases y with
    | non => cases h'; rfl
    | bl b => cases h'; rfl
    | int b => cases h'; rfl
    | str b => cases h'; exact hs a b
    | _ => cases f'
  | _ => cases f
theorem flats_of : ∀ {xs : List D} {vs : List V}, RepL nm K g H xs vs → xs.all isFlat = true → vs.all flatV = true
  | [], _, h, _ => by cases h; rfl
  | x :: xs, _, h, f => by
    cases h with
    | cons h1 h2 =>
      rw [List.all_cons, Bool.and_eq_true] at f ⊢
      exact ⟨flat_of h1 f.1, flats_of h2 f.2⟩
theorem inF_of {x : D} {v : V} (h : Rep nm K g H x v) (f : isFlat x = true) : ∀ {xs : List D} {vs : List V}, RepL nm K g H xs vs → xs.all isFlat = true → inV v vs = xs.any fun y => eqF y x
  | [], _, h', _ => by cases h'; rfl
  | y :: xs, _, h', f' => by
    cases h' with
    | cons h1 h2 =>
      rw [List.all_cons, Bool.and_eq_true] at f'
      have e := inF_of h f h2 f'.2
      unfold inV at e ⊢
      rw [List.any_cons, List.any_cons, e, eqF_of h1 h f'.1 f]

/-! ### two values -/
def r2 (nm : Nm) (K : PySem.W.Frag) (p : P2) : R2 := fun x y H Q => ∃ g w a b z, WR nm K g w H ∧ RV.at nm K g H a x ∧ RV.at nm K g H b y ∧ op2 p a b w = some z ∧
  ∀ g' H' v, Ext g g' H H' → WR nm K g' w H' → RP nm K g' H H' z v → Q v H'
theorem op2_inv {p : P2} {a b z : RV} (h : op2 p a b w = some z) :
    (∃ i j d, a = .d (.int i) ∧ b = .d (.int j) ∧ opInt p i j = some d ∧ z = .d d) ∨ (∃ s t d, a = .d (.str s) ∧ b = .d (.str t) ∧ opStr p s t = some d ∧ z = .d d) ∨ opSeq p a b w = some z := by
  unfold op2 at h
  split at h
  · rename_i i j
    obtain ⟨d, h1, h2⟩ := Option.map_eq_some_iff.mp h
    exact .inl ⟨i, j, d, rfl, rfl, h1, h2.symm⟩
  · rename_i s t
    obtain ⟨d, h1, h2⟩ := Option.map_eq_some_iff.mp h
    exact .inr (.inl ⟨s, t, d, rfl, rfl, h1, h2.symm⟩)
  · exact .inr (.inr h)
/-- an answer that is a value by itself -/
theorem done {x : D} {v : V} {Q : VK} (W : WR nm K g w H) (r : ∀ g, Rep nm K g H x v) (q : ∀ g' H' v, Ext g g' H H' → WR nm K g' w H' → RP nm K g' H H' (.d x) v → Q v H') : Q v H :=
  q g H v Ext.refl W (RP.d (r g))
/-- a new object that nobody writes -/
theorem Ext.fz {p : Addr} {o : HO} (n : H p = none) : Ext g g H (upd H p o) where
  keep := fun a u h _ => by rw [upd_ne (ne_of_none h n)]; exact h
  tup := fun a u h => by rw [upd_ne (ne_of_none h n)]; exact h
  frz := fun a u x h => by rw [upd_ne (ne_of_none h n)]; exact h
  old := fun _ h => h
  new := fun _ h => .inl h
  pre := List.prefix_refl _
  newc := fun _ h => .inl h
  live := fun a u h => ⟨u, by rw [upd_ne (ne_of_none h n)]; exact h⟩
/-- .. that somebody will write -/
def Gh.with (g : Gh) (p : Addr) : Gh := ⟨fun a => g.M a ∨ a = p, g.cm⟩
theorem Ext.fl {p : Addr} {o : HO} (n : H p = none) : Ext g (g.with p) H (upd H p o) where
  keep := fun a u h _ => by rw [upd_ne (ne_of_none h n)]; exact h
  tup := fun a u h => by rw [upd_ne (ne_of_none h n)]; exact h
  frz := fun a u x h => by rw [upd_ne (ne_of_none h n)]; exact h
  old := fun _ h => .inl h
  new := fun a h => h.elim .inl fun e => .inr (by rw [e]; exact n)
  pre := List.prefix_refl _
  newc := fun _ h => .inl h
  live := fun a u h => ⟨u, by rw [upd_ne (ne_of_none h n)]; exact h⟩
theorem WR.step (W : WR nm K g w H) (e : Ext g g' H H') (hm : g'.cm = g.cm) (k : ∀ a ∈ g.cm, ∀ o, H a = some o → H' a = some o) (d : ∀ a, g'.M a → ∃ o, H' a = some o) : WR nm K g' w H' := by
  refine ⟨fun n o h => ?_, by rw [hm]; exact W.len, fun a h => e.old a (W.cmM a (by rw [← hm]; exact h)), by rw [hm]; exact W.nd, d⟩
  obtain ⟨a, h1, h2⟩ := W.cells n o h
  have ha : a ∈ g.cm := List.mem_of_getElem? h1
  refine ⟨a, by rw [hm]; exact h1, ?_⟩
  cases h2 with
  | L h3 h4 => exact .L (k a ha _ h3) (RepL.mono e W.cmM _ _ h4)
  | O h3 l h4 => exact .O (k a ha _ h3) l (RepL.mono e W.cmM _ _ h4)
theorem WR.fz {p : Addr} {o : HO} (W : WR nm K g w H) (n : H p = none) : WR nm K g w (upd H p o) :=
  W.step (Ext.fz n) rfl (fun a _ u h => by rw [upd_ne (ne_of_none h n)]; exact h) fun a h => by
    obtain ⟨u, q⟩ := W.dom a h
    exact ⟨u, by rw [upd_ne (ne_of_none q n)]; exact q⟩
theorem WR.fl {p : Addr} {o : HO} (W : WR nm K g w H) (n : H p = none) : WR nm K (g.with p) w (upd H p o) :=
  W.step (Ext.fl n) rfl (fun a _ u h => by rw [upd_ne (ne_of_none h n)]; exact h) fun a h => by
    rcases h with h | h
    · obtain ⟨u, q⟩ := W.dom a h
      exact ⟨u, by rw [upd_ne (ne_of_none q n)]; exact q⟩
    · exact ⟨o, by rw [h]; exact upd_same⟩
theorem WR.out (W : WR nm K g w H) {p : Addr} (n : H p = none) : p ∉ g.cm := fun z => by
  obtain ⟨o, q⟩ := W.dom p (W.cmM p z)
  rw [n] at q
  cases q
/-- a new tuple -/
theorem new_tup {xs : List D} {vs : List V} {Q : VK} (W : WR nm K g w H) (r : RepL nm K g H xs vs) (q : ∀ g' H' v, Ext g g' H H' → WR nm K g' w H' → RP nm K g' H H' (.d (.tup xs)) v → Q v H') :
    ∀ p, H p = none → Q (.ref p) (upd H p (.tup vs)) := fun p n =>
  q g _ _ (Ext.fz n) (W.fz n) (RP.d (.tup (.inl (.inl upd_same)) (RepL.mono (Ext.fz n) W.cmM _ _ r)))
/-- a new list that nobody owns yet -/
theorem new_lst {xs : List D} {vs : List V} {Q : VK} (W : WR nm K g w H) (r : RepL nm K g H xs vs) (q : ∀ g' H' v, Ext g g' H H' → WR nm K g' w H' → RP nm K g' H H' (.fl (.L xs)) v → Q v H') :
    ∀ p, H p = none → Q (.ref p) (upd H p (.lst vs)) := fun p n => by
  refine q (g.with p) _ _ (Ext.fl n) (W.fl n) ⟨⟨p, rfl, .L upd_same (RepL.mono (Ext.fl n) W.cmM _ _ r), W.out n⟩, fun o e a ea => ?_⟩
  cases ea
  exact ⟨n, .inr rfl⟩
theorem big_le : big ≤ sizeLine := by decide
theorem str_app (a b : List Nat) : (⟨a.toArray⟩ : Str) ++ ⟨b.toArray⟩ = ⟨(a ++ b).toArray⟩ := by
  show Str.append _ _ = _
  unfold Str.append
  simp
theorem str_len (a : List Nat) : (⟨a.toArray⟩ : Str).length = a.length := by simp [Str.length]
end

section
variable {X : Cx} {nm : Nm}
theorem lift0 {g g1 : Gh} {K : PySem.W.Frag} {H : Hp} {d : D} {x : V} (f : isFlat d = true) (r : Rep nm K g1 H d x) : Rep nm K g H d x := by
  cases d with
  | non => cases r; exact .non
  | bl b => cases r; exact .bl b
  | int i => cases r; exact .int i
  | str s => cases r; exact .str s
  | _ => cases f
/-- an operation by its three kinds -/
theorem op_of {f : Value → Value → Sem Value} {p : P2} {rI' rS' rQ' : R2} (oI : OpR X f rI') (hI : ∀ (H : Hp) (i j : Int) (d : D) (Q : VK), opInt p i j = some d → (∀ g x, Rep nm X.K g H d x → Q x H) → rI' (.int i) (.int j) H Q)
    (oS : OpR X f rS') (hS : ∀ (H : Hp) (a b : List Nat) (d : D) (Q : VK), opStr p a b = some d → (∀ g x, Rep nm X.K g H d x → Q x H) → rS' (.str ⟨a.toArray⟩) (.str ⟨b.toArray⟩) H Q)
    (oQ : OpR X f rQ') (hQ : ∀ (g : Gh) (H : Hp) (w : Wd) (a b : RV) (x y : V) (z : RV) (Q : VK), WR nm X.K g w H → RV.at nm X.K g H a x → RV.at nm X.K g H b y → opSeq p a b w = some z →
      (∀ g' H' v, Ext g g' H H' → WR nm X.K g' w H' → RP nm X.K g' H H' z v → Q v H') → rQ' x y H Q) : OpR X f (r2 nm X.K p) := by
  intro pins s σ H x y v u Q I rx ry h
  obtain ⟨g, w, a, b, z, W, ha, hb, e, q⟩ := h
  rcases op2_inv e with ⟨i, j, d, rfl, rfl, e2, rfl⟩ | ⟨i, j, d, rfl, rfl, e2, rfl⟩ | e2
  · cases ha
    cases hb
    have fd : isFlat d = true := by
      cases p <;> simp only [opInt] at e2 <;> first | (cases e2 <;> rfl) | (split at e2 <;> cases e2 <;> rfl)
    exact oI pins s σ H _ _ v u Q I rx ry (hI H i j d Q e2 fun g1 x r => q g H x Ext.refl W (RP.d (lift0 fd r)))
  · cases ha
    cases hb
    have fd : isFlat d = true := by
      unfold opStr at e2
      split at e2 <;> first | (cases e2 <;> rfl) | (split at e2 <;> cases e2 <;> rfl)
    exact oS pins s σ H _ _ v u Q I rx ry (hS H i j d Q e2 fun g1 x r => q g H x Ext.refl W (RP.d (lift0 fd r)))
  · exact oQ pins s σ H _ _ v u Q I rx ry (hQ g H w a b x y z Q W ha hb e2 q)
/-- no rule -/
theorem op_no {f : Value → Value → Sem Value} : OpR X f (fun _ _ _ _ => False) := fun _ _ _ _ _ _ _ _ _ _ _ _ h => h.elim
/-- ints alone -/
theorem op_ints {f : Value → Value → Sem Value} {p : P2} {rI' : R2} (oI : OpR X f rI') (hI : ∀ (H : Hp) (i j : Int) (d : D) (Q : VK), opInt p i j = some d → (∀ g x, Rep nm X.K g H d x → Q x H) → rI' (.int i) (.int j) H Q)
    (hS : ∀ a b, opStr p a b = none) (hQ : ∀ a b w, opSeq p a b w = none) : OpR X f (r2 nm X.K p) :=
  op_of oI hI op_no (fun H a b d Q e _ => by rw [hS] at e; cases e) op_no fun g H w a b x y z Q _ _ _ e _ => by rw [hQ] at e; cases e
theorem mulOk_ok {i j : Int} (h : mulOk i j = true) : CMul i j := by
  unfold mulOk at h
  simp only [Bool.or_eq_true, Bool.and_eq_true, decide_eq_true_eq] at h
  exact h
theorem b_add : OpR X (binaryOp .Add) (r2 nm X.K .add) := by
  refine op_of op_add (fun H i j d Q e q => ?_) op_add_str (fun H a b d Q e q => ?_) op_no (fun g H w a b x y z Q W ha hb e q => ?_)
  · cases e
    exact ⟨i, j, rfl, rfl, q ⟨fun _ => False, []⟩ _ (.int _)⟩
  · simp only [opStr] at e
    split at e <;> cases e
    rename_i hz
    refine ⟨_, _, rfl, rfl, ?_, ?_⟩
    · rw [str_len, str_len]
      exact Nat.le_trans hz big_le
    · rw [str_app]
      exact q ⟨fun _ => False, []⟩ _ (.str _)
  · unfold opSeq at e
    split at e <;> simp_all
theorem b_sub : OpR X (binaryOp .Sub) (r2 nm X.K .sub) :=
  op_ints op_sub (fun H i j d Q e q => by cases e; exact ⟨i, j, rfl, rfl, q ⟨fun _ => False, []⟩ _ (.int _)⟩) (fun a b => by unfold opStr; split <;> simp_all) fun a b w => by unfold opSeq; split <;> simp_all
theorem b_mul : OpR X (binaryOp .Mult) (r2 nm X.K .mul) :=
  op_ints op_mul (fun H i j d Q e q => by
    simp only [opInt] at e
    split at e <;> cases e
    exact ⟨i, j, rfl, rfl, mulOk_ok (by assumption), q ⟨fun _ => False, []⟩ _ (.int _)⟩) (fun a b => by unfold opStr; split <;> simp_all) fun a b w => by unfold opSeq; split <;> simp_all
theorem b_fdiv : OpR X (binaryOp .FloorDiv) (r2 nm X.K .fdiv) :=
  op_ints op_fdivW (fun H i j d Q e q => by
    simp only [opInt] at e
    split at e <;> cases e
    rename_i h
    unfold divOk at h
    simp only [Bool.and_eq_true, decide_eq_true_eq] at h
    exact ⟨i, j, rfl, rfl, h, q ⟨fun _ => False, []⟩ _ (.int _)⟩) (fun a b => by unfold opStr; split <;> simp_all) fun a b w => by unfold opSeq; split <;> simp_all
theorem b_mod : OpR X (binaryOp .Mod) (r2 nm X.K .mod) :=
  op_ints op_mod (fun H i j d Q e q => by
    simp only [opInt] at e
    split at e <;> cases e
    exact ⟨i, j, rfl, rfl, (by assumption), q ⟨fun _ => False, []⟩ _ (.int _)⟩) (fun a b => by unfold opStr; split <;> simp_all) fun a b w => by unfold opSeq; split <;> simp_all
theorem b_pow : OpR X (binaryOp .Pow) (r2 nm X.K .pow) :=
  op_ints op_pow (fun H i j d Q e q => by
    simp only [opInt] at e
    split at e <;> cases e
    rename_i h
    unfold powOk at h
    simp only [Bool.and_eq_true, decide_eq_true_eq] at h
    exact ⟨i, j, rfl, rfl, ⟨h.1.1, h.1.2, h.2⟩, q ⟨fun _ => False, []⟩ _ (.int _)⟩) (fun a b => by unfold opStr; split <;> simp_all) fun a b w => by unfold opSeq; split <;> simp_all
theorem c_lt : OpR X (compareOp .Lt) (r2 nm X.K .lt) :=
  op_ints op_lt (fun H i j d Q e q => by cases e; exact ⟨i, j, rfl, rfl, q ⟨fun _ => False, []⟩ _ (.bl _)⟩) (fun a b => by unfold opStr; split <;> simp_all) fun a b w => by unfold opSeq; split <;> simp_all
theorem c_le : OpR X (compareOp .LtE) (r2 nm X.K .le) :=
  op_ints op_le (fun H i j d Q e q => by cases e; exact ⟨i, j, rfl, rfl, q ⟨fun _ => False, []⟩ _ (.bl _)⟩) (fun a b => by unfold opStr; split <;> simp_all) fun a b w => by unfold opSeq; split <;> simp_all
theorem c_gt : OpR X (compareOp .Gt) (r2 nm X.K .gt) :=
  op_ints op_gt (fun H i j d Q e q => by cases e; exact ⟨i, j, rfl, rfl, q ⟨fun _ => False, []⟩ _ (.bl _)⟩) (fun a b => by unfold opStr; split <;> simp_all) fun a b w => by unfold opSeq; split <;> simp_all
theorem c_ge : OpR X (compareOp .GtE) (r2 nm X.K .ge) :=
  op_ints op_ge (fun H i j d Q e q => by cases e; exact ⟨i, j, rfl, rfl, q ⟨fun _ => False, []⟩ _ (.bl _)⟩) (fun a b => by unfold opStr; split <;> simp_all) fun a b w => by unfold opSeq; split <;> simp_all
theorem str_eq (a b : List Nat) : decide ((V.str ⟨a.toArray⟩) = V.str ⟨b.toArray⟩) = decide (a = b) := by
  rw [Bool.eq_iff_iff]
  simp
theorem scal_of {K : PySem.W.Frag} {g : Gh} {H : Hp} {x y : D} {v u : V} (h : Rep nm K g H x v) (h' : Rep nm K g H y u) (f : eqOk x y = true) : scal v u = true ∧ decide (v = u) = eqF x y := by
  have hi : ∀ a b : Int, decide (V.int a = V.int b) = (a == b) := fun a b => dec_int
  have hb : ∀ a b : Bool, decide (V.bl a = V.bl b) = (a == b) := fun a b => dec_bl
  have hs : ∀ a b : List Nat, decide ((V.str ⟨a.toArray⟩) = V.str ⟨b.toArray⟩) = (a == b) := fun a b => by
    rw [Bool.eq_iff_iff]
    simp
  cases x with
  | non => cases h; cases y with
    | non => cases h'; exact ⟨rfl, rfl⟩
    | bl b => cases h'; exact ⟨rfl, rfl⟩
    | int b => cases h'; exact ⟨rfl, rfl⟩
    | str b => cases h'; exact ⟨rfl, rfl⟩
    | _ => cases f
  | bl a => cases h; cases y with
    | non => cases h'; exact ⟨rfl, rfl⟩
    | bl b => cases h'; exact ⟨rfl, hb a b⟩
    | str b => cases h'; exact ⟨rfl, rfl⟩
    | _ => cases f
  | int a => cases h; cases y with
    | non => cases h'; exact ⟨rfl, rfl⟩
    | int b => cases h'; exact ⟨rfl, hi a b⟩
    | str b => cases h'; exact ⟨rfl, rfl⟩
    | _ => cases f
  | str a => cases h; cases y with
    | non => cases h'; exact ⟨rfl, rfl⟩
    | bl b => cases h'; exact ⟨rfl, rfl⟩
    | int b => cases h'; exact ⟨rfl, rfl⟩
    | str b => cases h'; exact ⟨rfl, hs a b⟩
    | _ => cases f
  | _ => cases f
theorem opSeq_eq {a b z : RV} {w : Wd} (e : opSeq .eq a b w = some z) : ∃ x y, a = .d x ∧ b = .d y ∧ eqOk x y = true ∧ z = .d (.bl (eqF x y)) := by
  unfold opSeq at e
  split at e <;> first | (exfalso; simp_all; done) | skip
  all_goals first | (split at e <;> cases e; exact ⟨_, _, rfl, rfl, by assumption, rfl⟩) | cases e
theorem opSeq_ne {a b z : RV} {w : Wd} (e : opSeq .ne a b w = some z) : ∃ x y, a = .d x ∧ b = .d y ∧ eqOk x y = true ∧ z = .d (.bl (!eqF x y)) := by
  unfold opSeq at e
  split at e <;> first | (exfalso; simp_all; done) | skip
  all_goals first | (split at e <;> cases e; exact ⟨_, _, rfl, rfl, by assumption, rfl⟩) | cases e
theorem c_eq : OpR X (compareOp .Eq) (r2 nm X.K .eq) := by
  refine op_of op_eq (fun H i j d Q e q => ?_) op_eq (fun H a b d Q e q => ?_) op_eq (fun g H w a b x y z Q W ha hb e q => ?_)
  · cases e
    refine ⟨rfl, ?_⟩
    rw [show decide (V.int i = V.int j) = decide (i = j) from by rw [dec_int, Bool.beq_eq_decide_eq]]
    exact q ⟨fun _ => False, []⟩ _ (.bl _)
  · simp only [opStr] at e
    cases e
    refine ⟨rfl, ?_⟩
    rw [str_eq]
    exact q ⟨fun _ => False, []⟩ _ (.bl _)
  · obtain ⟨x1, y1, rfl, rfl, f, rfl⟩ := opSeq_eq e
    obtain ⟨h1, h2⟩ := scal_of ha hb f
    refine ⟨h1, ?_⟩
    rw [h2]
    exact q g H _ Ext.refl W (RP.d (.bl _))
theorem c_ne : OpR X (compareOp .NotEq) (r2 nm X.K .ne) := by
  refine op_of op_ne (fun H i j d Q e q => ?_) op_ne (fun H a b d Q e q => ?_) op_ne (fun g H w a b x y z Q W ha hb e q => ?_)
  · cases e
    refine ⟨rfl, ?_⟩
    rw [show decide (V.int i = V.int j) = decide (i = j) from by rw [dec_int, Bool.beq_eq_decide_eq]]
    exact q ⟨fun _ => False, []⟩ _ (.bl _)
  · simp only [opStr] at e
    cases e
    refine ⟨rfl, ?_⟩
    rw [str_eq]
    exact q ⟨fun _ => False, []⟩ _ (.bl _)
  · obtain ⟨x1, y1, rfl, rfl, f, rfl⟩ := opSeq_ne e
    obtain ⟨h1, h2⟩ := scal_of ha hb f
    refine ⟨h1, ?_⟩
    rw [h2]
    exact q g H _ Ext.refl W (RP.d (.bl _))
end
end MP

set_option maxRecDepth 100000
set_option maxHeartbeats 1000000
/-! MPE: expressions. -/
namespace MP
open PySem PySem.Spec PyProof.Rows L2

/-- a body's entry -/
structure En where
  H0 : Hp
  g0 : Gh
  dom' : ∀ a, g0.M a → H0 a ≠ none
section
variable (nm : Nm) (K : PySem.W.Frag)
/-- the names' slots, by what the names hold -/
structure BR (en : En) (g : Gh) (env : Env) (w : Wd) (σ : L2.St) (H : Hp) : Prop where
  wr : WR nm K g w H
  ext : Ext en.g0 g en.H0 H
  len : env.length = σ.length
  val : ∀ (i : Nat) (x : D), env[i]? = some (.val x) → ∃ v, σ[i]? = some (some v) ∧ Rep nm K g H x v
  own : ∀ (i : Nat) (o : Ow), env[i]? = some (.own o) → ∃ a, σ[i]? = some (some (.ref a)) ∧ OwR nm K g H o a ∧ g.M a ∧ a ∉ g.cm ∧ en.H0 a = none
  dis : ∀ (i j : Nat) (o p : Ow) (a : Addr), env[i]? = some (.own o) → env[j]? = some (.own p) → σ[i]? = some (some (.ref a)) → σ[j]? = some (some (.ref a)) → i = j
/-- an exception's own dict -/
def ExR (g : Gh) (H : Hp) (c : Nat) (fs : List D) (d : Option Addr) : Prop :=
  (fs = [] ∧ d = none) ∨ ∃ dx vs, d = some dx ∧ H dx = some (.xd (kvs nm c vs)) ∧ vs.length = (nm.fld c).length ∧ RepL nm K g H fs vs
/-- an answer of the evaluator, as a wish -/
def EG (Wx : WX) (σ : L2.St) {α β : Type} (rel : Gh → Hp → α → β → Prop) (g : Gh) (H : Hp) (r : Res α) (Q : β → Hp → Prop) : Prop := match r with
  | .ok x w' => ∀ g' H' v, Ext g g' H H' → WR nm K g' w' H' → rel g' H' x v → Q v H'
  | .exc c fs w' => ∀ g' H' d, Ext g g' H H' → WR nm K g' w' H' → ExR nm K g' H' c fs d → Wx (.ref (addr nm K c)) d σ H'
  | .bad => False
def tR (en : En) (Wx : WX) (r : Env → Wd → Res RV) : TE := fun σ H Q => ∃ g env w, BR nm K en g env w σ H ∧ EG nm K Wx σ (fun g' H' => RP nm K g' H H') g H (r env w) Q
def tV (en : En) (Wx : WX) (r : Env → Wd → Res D) : TE := fun σ H Q => ∃ g env w, BR nm K en g env w σ H ∧ EG nm K Wx σ (fun g' H' => Rep nm K g' H') g H (r env w) Q
def tLs (en : En) (Wx : WX) (r : Env → Wd → Res (List D)) : TA := fun σ H Q => ∃ g env w, BR nm K en g env w σ H ∧ EG nm K Wx σ (fun g' H' => RepL nm K g' H') g H (r env w) Q
def tBl (en : En) (Wx : WX) (r : Env → Wd → Res Bool) : TT := fun σ H Q => ∃ g env w, BR nm K en g env w σ H ∧ EG nm K Wx σ (fun _ _ b c => b = c) g H (r env w) Q
end
section
variable {nm : Nm} {K : PySem.W.Frag} {g g' g1 g2 : Gh} {H H' H1 H2 : Hp} {w w' w1 : Wd} {env : Env} {σ : L2.St} {en : En} {Wx : WX}
theorem BR.step (B : BR nm K en g env w σ H) (e : Ext g g' H H') (W : WR nm K g' w' H') : BR nm K en g' env w' σ H' where
  wr := W
  ext := B.ext.trans e
  len := B.len
  val := fun i x h => by
    obtain ⟨v, h1, h2⟩ := B.val i x h
    exact ⟨v, h1, Rep.mono e B.wr.cmM x v h2⟩
  own := fun i o h => by
    obtain ⟨a, h1, h2, h3, h4, h5⟩ := B.own i o h
    refine ⟨a, h1, h2.mono e B.wr.cmM h4, e.old a h3, fun z => ?_, h5⟩
    rcases e.newc a z with z | z
    · exact h4 z
    · obtain ⟨u, q⟩ := h2.there
      rw [q] at z
      cases z
  dis := B.dis
theorem ExR.mono {c : Nat} {fs : List D} {d : Option Addr} : ExR nm K g H c fs d → ExR nm K g H c fs d := fun h => h
theorem EG.start {α β : Type} {rel rel1 : Gh → Hp → α → β → Prop} {r : Res α} {Q : β → Hp → Prop} (e : Ext g g1 H H1) (h : EG nm K Wx σ rel g H r Q) (k : ∀ g' H' x v, rel1 g' H' x v → rel g' H' x v) : EG nm K Wx σ rel1 g1 H1 r Q := by
  cases r with
  | ok x w' => exact fun g' H' v e1 W r => h g' H' v (e.trans e1) W (k _ _ _ _ r)
  | exc c fs w' => exact fun g' H' d e1 W x => h g' H' d (e.trans e1) W x
  | bad => exact h
/-- one answer behind another -/
theorem EG.bind {α α' β β' : Type} {rel : Gh → Hp → α → β → Prop} {rel' : Gh → Hp → α' → β' → Prop} {r : Res α} {k : α → Wd → Res α'} {Q : β' → Hp → Prop} {Q1 : β → Hp → Prop} (h : EG nm K Wx σ rel' g H (r.bind k) Q)
    (f : ∀ x w1 g1 H1 v, r = .ok x w1 → Ext g g1 H H1 → WR nm K g1 w1 H1 → rel g1 H1 x v → EG nm K Wx σ rel' g H (k x w1) Q → Q1 v H1) : EG nm K Wx σ rel g H r Q1 := by
  cases r with
  | ok x w1 => exact fun g1 H1 v e W rr => f x w1 g1 H1 v rfl e W rr h
  | exc c fs w1 => exact h
  | bad => exact h
theorem EG.ok1 {α β : Type} {rel : Gh → Hp → α → β → Prop} {o : Option α} {Q : β → Hp → Prop} (h : EG nm K Wx σ rel g H (w.ok1 o) Q) : ∃ x, o = some x ∧ ∀ g' H' v, Ext g g' H H' → WR nm K g' w H' → rel g' H' x v → Q v H' := by
  cases o with
  | none => exact h.elim
  | some x => exact ⟨x, rfl, h⟩
/-- what nobody owns becomes data -/
def Gh.less (g : Gh) (p : Addr) : Gh := ⟨fun a => g.M a ∧ a ≠ p, g.cm⟩
theorem Ext0.less {p : Addr} : Ext0 g (g.less p) H H := ⟨fun _ _ h _ => h, fun _ _ h => h, fun _ _ _ h => h, fun _ h => .inl h.1, List.prefix_refl _⟩
theorem WR.less {p : Addr} (W : WR nm K g w H) (hp : p ∉ g.cm) : WR nm K (g.less p) w H where
  cells := fun n o h => by
    obtain ⟨a, h1, h2⟩ := W.cells n o h
    refine ⟨a, h1, ?_⟩
    cases h2 with
    | L h3 h4 => exact .L h3 (RepL.mono0 Ext0.less _ _ h4)
    | O h3 l h4 => exact .O h3 l (RepL.mono0 Ext0.less _ _ h4)
  len := W.len
  cmM := fun a h => ⟨W.cmM a h, fun e => hp (e ▸ h)⟩
  nd := W.nd
  dom := fun a h => W.dom a h.1
theorem Ext.less {p : Addr} (e : Ext g g1 H H1) (W : WR nm K g w H) (n : H p = none) : Ext g (g1.less p) H H1 where
  keep := e.keep
  tup := e.tup
  frz := e.frz
  old := fun a h => ⟨e.old a h, fun z => by
    obtain ⟨o, q⟩ := W.dom a h
    rw [z, n] at q
    cases q⟩
  new := fun a h => e.new a h.1
  pre := e.pre
  newc := e.newc
  live := e.live
/-- a value that is stored elsewhere -/
theorem toD_ok {r : RV} {x : D} {v : V} {Q : V → Hp → Prop} (e : r.toD = some x) (W : WR nm K g w H) (e1 : Ext g g1 H H1) (W1 : WR nm K g1 w1 H1) (h : RP nm K g1 H H1 r v)
    (q : ∀ g' H' v, Ext g g' H H' → WR nm K g' w1 H' → Rep nm K g' H' x v → Q v H') : Q v H1 := by
  cases r with
  | d y =>
    cases e
    exact q g1 H1 v e1 W1 h.1
  | bor o => cases e
  | fl o =>
    obtain ⟨⟨a, rfl, h1, h2⟩, h3⟩ := h
    obtain ⟨h4, h5⟩ := h3 o rfl a rfl
    refine q (g1.less a) H1 _ (e1.less W h4) (W1.less h2) ?_
    cases h1 with
    | L h6 h7 =>
      cases e
      exact .lst (.inl ⟨h6, fun z => z.2 rfl⟩) (RepL.mono0 Ext0.less _ _ h7)
    | O h6 l h7 =>
      cases e
      exact .obj h6 (fun z => z.2 rfl) l (RepL.mono0 Ext0.less _ _ h7)
end

section
variable {T : Tab} {R : Calls} {X : Cx} {nm : Nm} {en : En} {Wx : WX} {a b c e : Expr} {pos : Pos} {ra rb rc : Env → Wd → Res RV}
theorem _root_.L2.PE.imp {t t' : TE} (h : PE X e t) (k : ∀ σ H Q, t' σ H Q → t σ H Q) : PE X e t' := ⟨fun pins s σ H Q I q => h.run pins s σ H Q I (k σ H Q q)⟩
theorem _root_.L2.PT.imp {t t' : TT} (h : PT X e t) (k : ∀ σ H Q, t' σ H Q → t σ H Q) : PT X e t' := ⟨fun pins s σ H Q I q => h.run pins s σ H Q I (k σ H Q q)⟩
theorem _root_.L2.PW.imp {t t' : TT} (h : PW X e t) (k : ∀ σ H Q, t' σ H Q → t σ H Q) : PW X e t' := ⟨fun wh pins s σ H Q I q => h.run wh pins s σ H Q I (k σ H Q q)⟩
theorem _root_.L2.PA.imp {es : List Expr} {t t' : TA} (h : PA X es t) (k : ∀ σ H Q, t' σ H Q → t σ H Q) : PA X es t' := ⟨fun ps pins s σ H Q I q => h.run ps pins s σ H Q I (k σ H Q q)⟩
/-- a constant -/
theorem v_con {x : D} {v : V} (h : PE X e (tC v)) (r : ∀ g H, Rep nm X.K g H x v) : PE X e (tR nm X.K en Wx fun _ w => .ok (.d x) w) :=
  h.imp fun σ H Q ⟨g, env, w, B, q⟩ => q g H v Ext.refl B.wr (RP.d (r g H))
/-- a name of the def's own -/
theorem v_var {i : Nat} (h : PE X e (tVar i)) : PE X e (tR nm X.K en Wx fun env w => ev T R (.var i) env w) :=
  h.imp fun σ H Q ⟨g, env, w, B, q⟩ => by
    simp only [ev] at q
    split at q
    · rename_i x ex
      obtain ⟨v, h1, h2⟩ := B.val i x ex
      exact ⟨v, h1, q g H v Ext.refl B.wr (RP.d h2)⟩
    · rename_i o eo
      obtain ⟨a, h1, h2, h3, h4, h5⟩ := B.own i o eo
      exact ⟨_, h1, q g H _ Ext.refl B.wr ⟨⟨a, rfl, h2, h4⟩, fun o e => by cases e⟩⟩
    · exact q.elim
/-- two values -/
theorem t_two {p : P2} {σ : L2.St} {H : Hp} {Q : VK} (h : tR nm X.K en Wx (fun env w => (ra env w).bind fun x w => (rb env w).bind fun y w => w.ok1 (op2 p x y w)) σ H Q) : tOp (r2 nm X.K p) (tR nm X.K en Wx ra) (tR nm X.K en Wx rb) σ H Q := by
  obtain ⟨g, env, w, B, q⟩ := h
  refine ⟨g, env, w, B, q.bind fun x w1 g1 H1 v e1 E1 W1 R1 q1 => ?_⟩
  refine ⟨g1, env, w1, B.step E1 W1, (q1.start E1 fun _ _ _ _ z => RP.start E1 z).bind fun y w2 g2 H2 u e2 E2 W2 R2 q2 => ?_⟩
  obtain ⟨z, ez, q3⟩ := q2.ok1
  exact ⟨g2, w2, x, y, z, W2, R1.1.mono E2 W1.cmM, R2.1, ez, fun g' H' v E3 W3 R3 => q3 g' H' v (E2.trans E3) W3 (RP.start E2 R3)⟩
theorem v_bin {op : Operator} {p : P2} (ho : OpR X (binaryOp op) (r2 nm X.K p)) (ha : PE X a (tR nm X.K en Wx ra)) (hb : PE X b (tR nm X.K en Wx rb)) :
    PE X (.BinOp a op b pos) (tR nm X.K en Wx fun env w => (ra env w).bind fun x w => (rb env w).bind fun y w => w.ok1 (op2 p x y w)) :=
  (pe_op ho ha hb).imp fun σ H Q h => t_two h
theorem v_cmp {op : CmpOp} {p : P2} (ho : OpR X (compareOp op) (r2 nm X.K p)) (ha : PE X a (tR nm X.K en Wx ra)) (hb : PE X b (tR nm X.K en Wx rb)) (hm : behindInMarks op b = false) :
    PE X (.Compare a [op] [b] pos) (tR nm X.K en Wx fun env w => (ra env w).bind fun x w => (rb env w).bind fun y w => w.ok1 (op2 p x y w)) :=
  (pe_cmpR ho ha hb hm).imp fun σ H Q h => t_two h
/-- a value's bool -/
theorem EG.asB {r : Res RV} {Q : Bool → Hp → Prop} {K : PySem.W.Frag} {σ : L2.St} {g : Gh} {H : Hp} (h : EG nm K Wx σ (fun _ _ b c => b = c) g H (asB r) Q) : EG nm K Wx σ (fun g' H' => RP nm K g' H H') g H r (fun x H' => ∃ k, x = .bl k ∧ Q k H') := by
  refine EG.bind h fun x w1 g1 H1 v e1 E1 W1 R1 q1 => ?_
  split at q1
  · rename_i b
    obtain ⟨h1, _⟩ := R1
    cases h1
    exact ⟨b, rfl, q1 g1 H1 b E1 W1 rfl⟩
  · exact q1.elim
theorem c_cmp {op : CmpOp} {p : P2} (ho : OpR X (compareOp op) (r2 nm X.K p)) (ha : PE X a (tR nm X.K en Wx ra)) (hb : PE X b (tR nm X.K en Wx rb)) (hm : behindInMarks op b = false) :
    PT X (.Compare a [op] [b] pos) (tBl nm X.K en Wx fun env w => asB ((ra env w).bind fun x w => (rb env w).bind fun y w => w.ok1 (op2 p x y w))) :=
  (pt_cmpR ho ha hb hm).imp fun σ H Q ⟨g, env, w, B, q⟩ => t_two ⟨g, env, w, B, EG.asB q⟩
/-- a bool's expression as a test -/
theorem c_val (h : PE X e (tR nm X.K en Wx ra)) (he : ∀ whole, isTrue e X.env whole = (do let v ← whole; standAt e.pos; holding [v] (truthy v))) : PT X e (tBl nm X.K en Wx fun env w => asB (ra env w)) :=
  (pt_val h he).imp fun σ H Q ⟨g, env, w, B, q⟩ => ⟨g, env, w, B, EG.asB q⟩
end
end MP

set_option maxRecDepth 100000
set_option maxHeartbeats 1000000
/-! MPE2: more expressions. -/
namespace MP
open PySem PySem.Spec PyProof.Rows L2
section
variable {T : Tab} {R : Calls} {X : Cx} {nm : Nm} {en : En} {Wx : WX} {a b c e : Expr} {es : List Expr} {pos : Pos} {ra rb rc rd : Env → Wd → Res RV} {rs : Env → Wd → Res (List D)} {rA rB : Env → Wd → Res Bool}
/-! ### what is stored -/
theorem EG.asD {r : Res RV} {Q : V → Hp → Prop} {K : PySem.W.Frag} {σ : L2.St} {g : Gh} {H : Hp} {w : Wd} (W0 : WR nm K g w H) (h : EG nm K Wx σ (fun g' H' => Rep nm K g' H') g H (asD r) Q) : EG nm K Wx σ (fun g' H' => RP nm K g' H H') g H r Q := by
  refine EG.bind h fun x w1 g1 H1 v e1 E1 W1 R1 q1 => ?_
  obtain ⟨y, ey, q2⟩ := q1.ok1
  exact toD_ok ey W0 E1 W1 R1 fun g' H' v e W r => q2 g' H' v e W r
theorem v_D (h : PE X e (tR nm X.K en Wx ra)) : PE X e (tV nm X.K en Wx fun env w => asD (ra env w)) :=
  h.imp fun σ H Q ⟨g, env, w, B, q⟩ => ⟨g, env, w, B, EG.asD B.wr q⟩
theorem EG.asI {r : Res RV} {Q : Int → Hp → Prop} {K : PySem.W.Frag} {σ : L2.St} {g : Gh} {H : Hp} (h : EG nm K Wx σ (fun _ _ b c => b = c) g H (asI r) Q) : EG nm K Wx σ (fun g' H' => RP nm K g' H H') g H r (fun x H' => ∃ k, x = .int k ∧ Q k H') := by
  refine EG.bind h fun x w1 g1 H1 v e1 E1 W1 R1 q1 => ?_
  split at q1
  · rename_i b
    obtain ⟨h1, _⟩ := R1
    cases h1
    exact ⟨b, rfl, q1 g1 H1 b E1 W1 rfl⟩
  · exact q1.elim

/-! ### chains -/
theorem t_ch2 {p q : P2} {σ : L2.St} {H : Hp} {Q : VK} (h : tR nm X.K en Wx (fun env w => (ra env w).bind fun x w => (rb env w).bind fun y w => (asB (w.ok1 (op2 p x y w))).bind fun t w =>
      if t then (rc env w).bind fun z w => w.ok1 (op2 q y z w) else .ok (.d (.bl false)) w) σ H Q) : tChain (r2 nm X.K p) (r2 nm X.K q) (tR nm X.K en Wx ra) (tR nm X.K en Wx rb) (tR nm X.K en Wx rc) σ H Q := by
  obtain ⟨g, env, w, B, h⟩ := h
  refine ⟨g, env, w, B, h.bind fun x w1 g1 H1 v e1 E1 W1 R1 h => ?_⟩
  refine ⟨g1, env, w1, B.step E1 W1, (h.start E1 fun _ _ _ _ z => RP.start E1 z).bind fun y w2 g2 H2 u e2 E2 W2 R2 h => ?_⟩
  have h := h.start E2 (rel1 := fun g' H' => RP nm X.K g' H2 H') fun _ _ _ _ z => RP.start E2 z
  have B2 := (B.step E1 W1).step E2 W2
  cases ez : op2 p x y w2 with
  | none => rw [ez] at h; exact h.elim
  | some z =>
    rw [ez] at h
    refine ⟨g2, w2, x, y, z, W2, R1.1.mono E2 W1.cmM, R2.1, ez, fun g3 H3 v3 E3 W3 R3 => ?_⟩
    have h : EG nm X.K Wx σ (fun g' H' => RP nm X.K g' H2 H') g2 H2 (asB (.ok z w2) |>.bind fun t w => if t then (rc env w).bind fun z w => w.ok1 (op2 q y z w) else .ok (.d (.bl false)) w) Q := h
    unfold MP.asB at h
    cases z with
    | d zd =>
      cases zd with
      | bl t =>
        obtain ⟨k1, _⟩ := R3
        cases k1
        refine ⟨t, rfl, ?_⟩
        have h : EG nm X.K Wx σ (fun g' H' => RP nm X.K g' H2 H') g2 H2 (if t then (rc env w2).bind fun z w => w.ok1 (op2 q y z w) else .ok (.d (.bl false)) w2) Q := h
        cases t with
        | true =>
          refine ⟨g3, env, w2, B2.step E3 W3, (h.start E3 fun _ _ _ _ z => RP.start E3 z).bind fun z w4 g4 H4 v4 e4 E4 W4 R4 h => ?_⟩
          obtain ⟨r, er, h⟩ := h.ok1
          exact ⟨g4, w4, y, z, r, W4, (R2.1.mono E3 W2.cmM).mono E4 W3.cmM, R4.1, er, fun g' H' v E5 W5 R5 => h g' H' v (E4.trans E5) W5 (RP.start E4 R5)⟩
        | false => exact h g3 H3 _ E3 W3 (RP.d (.bl false))
      | _ => exact h.elim
    | _ => exact h.elim
theorem v_ch2 {op op' : CmpOp} {p q : P2} (ho : OpR X (compareOp op) (r2 nm X.K p)) (ho' : OpR X (compareOp op') (r2 nm X.K q)) (ha : PE X a (tR nm X.K en Wx ra)) (hb : PE X b (tR nm X.K en Wx rb)) (hc : PE X c (tR nm X.K en Wx rc))
    (hm : lastMarks [op, op'] [b, c] = false) : PE X (.Compare a [op, op'] [b, c] pos) (tR nm X.K en Wx fun env w => (ra env w).bind fun x w => (rb env w).bind fun y w => (asB (w.ok1 (op2 p x y w))).bind fun t w =>
      if t then (rc env w).bind fun z w => w.ok1 (op2 q y z w) else .ok (.d (.bl false)) w) :=
  (pe_chain ho ho' ha hb hc hm).imp fun σ H Q h => t_ch2 h
theorem c_ch2 {op op' : CmpOp} {p q : P2} (ho : OpR X (compareOp op) (r2 nm X.K p)) (ho' : OpR X (compareOp op') (r2 nm X.K q)) (ha : PE X a (tR nm X.K en Wx ra)) (hb : PE X b (tR nm X.K en Wx rb)) (hc : PE X c (tR nm X.K en Wx rc))
    (hm : lastMarks [op, op'] [b, c] = false) : PT X (.Compare a [op, op'] [b, c] pos) (tBl nm X.K en Wx fun env w => asB ((ra env w).bind fun x w => (rb env w).bind fun y w => (asB (w.ok1 (op2 p x y w))).bind fun t w =>
      if t then (rc env w).bind fun z w => w.ok1 (op2 q y z w) else .ok (.d (.bl false)) w)) :=
  (pt_chain ho ho' ha hb hc hm).imp fun σ H Q ⟨g, env, w, B, q⟩ => t_ch2 ⟨g, env, w, B, EG.asB q⟩
theorem EG.bl {r : Res RV} {Q : Bool → Hp → Prop} {K : PySem.W.Frag} {σ : L2.St} {g : Gh} {H : Hp} (h : EG nm K Wx σ (fun _ _ b c => b = c) g H (MP.asB r) Q) : EG nm K Wx σ (fun g' H' => RP nm K g' H H') g H r (fun x H' => ∃ k, x = .bl k ∧ Q k H') := EG.asB h

/-! ### and, or, not -/
def andB (rA rB : Env → Wd → Res Bool) : Env → Wd → Res Bool := fun env w => andR (rA env w) (rB env)
def orB (rA rB : Env → Wd → Res Bool) : Env → Wd → Res Bool := fun env w => orR (rA env w) (rB env)
def notB (rA : Env → Wd → Res Bool) : Env → Wd → Res Bool := fun env w => notR (rA env w)
theorem asB_blR (r : Res Bool) : asB (blR r) = r := by cases r <;> rfl
theorem c_and1 (h : PT X a (tBl nm X.K en Wx rA)) : PW X (.BoolOp .And [a] pos) (tBl nm X.K en Wx rA) := pw_and1 h
theorem c_or1 (h : PT X a (tBl nm X.K en Wx rA)) : PW X (.BoolOp .Or [a] pos) (tBl nm X.K en Wx rA) := pw_or1 h
theorem c_and (h : PT X a (tBl nm X.K en Wx rA)) (h2 : PW X (.BoolOp .And (b :: es) pos) (tBl nm X.K en Wx rB)) : PW X (.BoolOp .And (a :: b :: es) pos) (tBl nm X.K en Wx (andB rA rB)) := by
  refine (pw_and h h2).imp fun σ H Q ⟨g, env, w, B, q⟩ => ⟨g, env, w, B, EG.bind q fun t w1 g1 H1 v e1 E1 W1 R1 q => ?_⟩
  subst R1
  cases t with
  | true => exact ⟨g1, env, w1, B.step E1 W1, q.start E1 fun _ _ _ _ z => z⟩
  | false => exact q g1 H1 false E1 W1 rfl
theorem c_or (h : PT X a (tBl nm X.K en Wx rA)) (h2 : PW X (.BoolOp .Or (b :: es) pos) (tBl nm X.K en Wx rB)) : PW X (.BoolOp .Or (a :: b :: es) pos) (tBl nm X.K en Wx (orB rA rB)) := by
  refine (pw_or h h2).imp fun σ H Q ⟨g, env, w, B, q⟩ => ⟨g, env, w, B, EG.bind q fun t w1 g1 H1 v e1 E1 W1 R1 q => ?_⟩
  subst R1
  cases t with
  | false => exact ⟨g1, env, w1, B.step E1 W1, q.start E1 fun _ _ _ _ z => z⟩
  | true => exact q g1 H1 true E1 W1 rfl
theorem c_not (h : PT X a (tBl nm X.K en Wx rA)) : PT X (.UnaryOp .Not a pos) (tBl nm X.K en Wx (notB rA)) := by
  refine (pt_not h).imp fun σ H Q ⟨g, env, w, B, q⟩ => ⟨g, env, w, B, EG.bind q fun t w1 g1 H1 v e1 E1 W1 R1 q => ?_⟩
  subst R1
  exact q g1 H1 _ E1 W1 rfl
theorem EG.blR {r : Res Bool} {Q : V → Hp → Prop} {K : PySem.W.Frag} {σ : L2.St} {g : Gh} {H : Hp} (h : EG nm K Wx σ (fun g' H' => RP nm K g' H H') g H (MP.blR r) Q) : EG nm K Wx σ (fun _ _ b c => b = c) g H r (fun k H' => Q (.bl k) H') :=
  EG.bind h fun t w1 g1 H1 v e1 E1 W1 R1 q => by
    subst R1
    exact q g1 H1 _ E1 W1 (RP.d (.bl _))
/-- values: the operands' values are bools -/
theorem v_and (h : PE X a (tR nm X.K en Wx ra)) (h2 : PE X (.BoolOp .And (b :: es) pos) (tR nm X.K en Wx rb)) : PE X (.BoolOp .And (a :: b :: es) pos) (tR nm X.K en Wx fun env w => blR (andB (fun env w => asB (ra env w)) (fun env w => asB (rb env w)) env w)) := by
  refine (pe_and h h2).imp fun σ H Q ⟨g, env, w, B, q⟩ => ⟨g, env, w, B, (EG.bind (EG.blR q) fun t w1 g1 H1 v e1 E1 W1 R1 q => ?_ : EG nm X.K Wx σ (fun _ _ b c => b = c) g H (MP.asB (ra env w)) (fun k H1 => if k = true then tR nm X.K en Wx rb σ H1 Q else Q (.bl false) H1)).asB⟩
  subst R1
  cases t with
  | true =>
    refine ⟨g1, env, w1, B.step E1 W1, ?_⟩
    have q2 : EG nm X.K Wx σ (fun _ _ b c => b = c) g1 H1 (MP.asB (rb env w1)) (fun k H' => Q (.bl k) H') := q.start E1 fun _ _ _ _ z => z
    have q3 := q2.asB
    cases e : rb env w1 with
    | ok x w2 =>
      rw [e] at q3
      intro g' H' v E W Rr
      obtain ⟨k, rfl, z⟩ := q3 g' H' v E W Rr
      exact z
    | exc c fs w2 =>
      rw [e] at q3
      exact q3
    | bad =>
      rw [e] at q3
      exact q3
  | false => exact q g1 H1 false E1 W1 rfl
theorem v_or (h : PE X a (tR nm X.K en Wx ra)) (h2 : PE X (.BoolOp .Or (b :: es) pos) (tR nm X.K en Wx rb)) : PE X (.BoolOp .Or (a :: b :: es) pos) (tR nm X.K en Wx fun env w => blR (orB (fun env w => asB (ra env w)) (fun env w => asB (rb env w)) env w)) := by
  refine (pe_or h h2).imp fun σ H Q ⟨g, env, w, B, q⟩ => ⟨g, env, w, B, (EG.bind (EG.blR q) fun t w1 g1 H1 v e1 E1 W1 R1 q => ?_ : EG nm X.K Wx σ (fun _ _ b c => b = c) g H (MP.asB (ra env w)) (fun k H1 => if k = true then Q (.bl true) H1 else tR nm X.K en Wx rb σ H1 Q)).asB⟩
  subst R1
  cases t with
  | false =>
    refine ⟨g1, env, w1, B.step E1 W1, ?_⟩
    have q2 : EG nm X.K Wx σ (fun _ _ b c => b = c) g1 H1 (MP.asB (rb env w1)) (fun k H' => Q (.bl k) H') := q.start E1 fun _ _ _ _ z => z
    have q3 := q2.asB
    cases e : rb env w1 with
    | ok x w2 =>
      rw [e] at q3
      intro g' H' v E W Rr
      obtain ⟨k, rfl, z⟩ := q3 g' H' v E W Rr
      exact z
    | exc c fs w2 =>
      rw [e] at q3
      exact q3
    | bad =>
      rw [e] at q3
      exact q3
  | true => exact q g1 H1 true E1 W1 rfl
theorem v_not (h : PE X a (tR nm X.K en Wx ra)) : PE X (.UnaryOp .Not a pos) (tR nm X.K en Wx fun env w => blR (notB (fun env w => asB (ra env w)) env w)) := by
  refine (pe_not h).imp fun σ H Q ⟨g, env, w, B, q⟩ => ⟨g, env, w, B, (EG.bind (EG.blR q) fun t w1 g1 H1 v e1 E1 W1 R1 q => ?_ : EG nm X.K Wx σ (fun _ _ b c => b = c) g H (MP.asB (ra env w)) (fun k H1 => Q (.bl (!k)) H1)).asB⟩
  subst R1
  exact q g1 H1 _ E1 W1 rfl
theorem v_ife (hc : PT X c (tBl nm X.K en Wx rA)) (ha : PE X a (tR nm X.K en Wx ra)) (hb : PE X b (tR nm X.K en Wx rb)) : PE X (.IfExp c a b pos) (tR nm X.K en Wx fun env w => (rA env w).bind fun t w => if t then ra env w else rb env w) := by
  refine (pe_ifExp hc ha hb).imp fun σ H Q ⟨g, env, w, B, q⟩ => ⟨g, env, w, B, EG.bind q fun t w1 g1 H1 v e1 E1 W1 R1 q => ?_⟩
  subst R1
  have q := q.start E1 (rel1 := fun g' H' => RP nm X.K g' H1 H') fun _ _ _ _ z => RP.start E1 z
  cases t with
  | true => exact ⟨g1, env, w1, B.step E1 W1, q⟩
  | false => exact ⟨g1, env, w1, B.step E1 W1, q⟩

/-! ### several values, displays -/
theorem a_nil : PA X [] (tLs nm X.K en Wx fun _ w => .ok [] w) := pa_nil.imp fun σ H Q ⟨g, env, w, B, q⟩ => q g H [] Ext.refl B.wr .nil
theorem a_cons (h : PE X e (tR nm X.K en Wx ra)) (h2 : PA X es (tLs nm X.K en Wx rs)) (hs : starEach (e :: es) X.env = (false, eval e X.env) :: starEach es X.env) :
    PA X (e :: es) (tLs nm X.K en Wx fun env w => (asD (ra env w)).bind fun x w => (rs env w).bind fun xs w => .ok (x :: xs) w) := by
  refine (pa_cons (v_D h) h2 hs).imp fun σ H Q ⟨g, env, w, B, q⟩ => ⟨g, env, w, B, EG.bind q fun x w1 g1 H1 v e1 E1 W1 R1 q => ?_⟩
  refine ⟨g1, env, w1, B.step E1 W1, EG.bind (q.start E1 fun _ _ _ _ z => z) fun xs w2 g2 H2 vs e2 E2 W2 R2 q => ?_⟩
  exact q g2 H2 _ E2 W2 (.cons (Rep.mono E2 W1.cmM _ _ R1) R2)
theorem v_tup {k : Nat} (h : PA X es (tLs nm X.K en Wx rs)) : PE X (.Tuple es k pos) (tR nm X.K en Wx fun env w => (rs env w).bind fun xs w => if xs.length ≤ big then .ok (.d (.tup xs)) w else .bad) := by
  refine (pe_tup h).imp fun σ H Q ⟨g, env, w, B, q⟩ => ⟨g, env, w, B, EG.bind q fun xs w1 g1 H1 vs e1 E1 W1 R1 q => ?_⟩
  by_cases hz : xs.length ≤ big
  · rw [if_pos hz] at q
    refine ⟨by rw [← R1.length]; exact Nat.le_trans hz big_le, new_tup W1 R1 fun g' H' v E W Rr => ?_⟩
    exact q g' H' v (E1.trans E) W (RP.start E1 Rr)
  · rw [if_neg hz] at q
    exact q.elim
theorem v_lst (h : PA X es (tLs nm X.K en Wx rs)) : PE X (.List es pos) (tR nm X.K en Wx fun env w => (rs env w).bind fun xs w => if xs.length ≤ big then .ok (.fl (.L xs)) w else .bad) := by
  refine (pe_lst h).imp fun σ H Q ⟨g, env, w, B, q⟩ => ⟨g, env, w, B, EG.bind q fun xs w1 g1 H1 vs e1 E1 W1 R1 q => ?_⟩
  by_cases hz : xs.length ≤ big
  · rw [if_pos hz] at q
    refine ⟨by rw [← R1.length]; exact Nat.le_trans hz big_le, new_lst W1 R1 fun g' H' v E W Rr => ?_⟩
    exact q g' H' v (E1.trans E) W (RP.start E1 Rr)
  · rw [if_neg hz] at q
    exact q.elim

/-! ### places and cuts -/
theorem ix_any : IxR X (r2 nm X.K .item) := by
  intro value slice pins s σ H x y v u Q I rx ry h hs
  obtain ⟨g, w, a, b, z, W, ha, hb, e, q⟩ := h
  rcases op2_inv e with ⟨i, j, d, rfl, rfl, e2, rfl⟩ | ⟨i, j, d, rfl, rfl, e2, rfl⟩ | e2
  · simp [opInt] at e2
  · simp [opStr] at e2
  · unfold opSeq at e2
    split at e2 <;> first | (exfalso; simp_all; done) | skip
    · rename_i s1 i1 _
      split at e2
      · rename_i hz
        obtain ⟨c1, h1, h2⟩ := Option.map_eq_some_iff.mp e2
        subst h2
        cases ha
        cases hb
        refine ix_str value slice pins s σ H _ _ v u Q I rx ry ⟨_, i1, c1, rfl, rfl, ?_, ?_, ?_⟩ hs
        · rw [str_len]
          exact Nat.le_trans hz big_le
        · exact h1
        · exact q g H _ Ext.refl W (RP.d (.str [c1]))
      · cases e2
    · rename_i i1 _ h0
      obtain ⟨xs, h1, h2⟩ := Option.bind_eq_some_iff.mp e2
      obtain ⟨d, h3, h4⟩ := Option.map_eq_some_iff.mp h2
      subst h4
      obtain ⟨ad, vs, rfl, h5, h6⟩ := seq_of W ha h1
      cases hb
      obtain ⟨y1, h7, h8⟩ := at_of' h6 h3
      have fin := q g H y1 Ext.refl W (RP.d h8)
      rcases h5 with h5 | h5
      · exact ix_list value slice pins s σ H _ _ v u Q I rx ry ⟨ad, vs, i1, y1, rfl, rfl, h5, h7, fin⟩ hs
      · exact ix_tup value slice pins s σ H _ _ v u Q I rx ry ⟨ad, vs, i1, y1, rfl, rfl, h5, h7, fin⟩ hs
theorem v_item (ha : PE X a (tR nm X.K en Wx ra)) (hb : PE X b (tR nm X.K en Wx rb)) (hs : PlainIx b) : PE X (.Subscript a b pos) (tR nm X.K en Wx fun env w => (ra env w).bind fun x w => (rb env w).bind fun y w => w.ok1 (op2 .item x y w)) :=
  (pe_ix ix_any ha hb hs).imp fun σ H Q h => t_two h
def tOpt (nm : Nm) (K : PySem.W.Frag) (en : En) (Wx : WX) (r : Env → Wd → Res (Option Int)) : TO := fun σ H Q => ∃ g env w, BR nm K en g env w σ H ∧ EG nm K Wx σ (fun _ _ b c => b = c) g H (r env w) Q
theorem o_none : PO X none (tOpt nm X.K en Wx fun _ w => .ok none w) := ⟨fun pins s σ H Q I ⟨g, env, w, B, q⟩ => po_none.run pins s σ H Q I (q g H none Ext.refl B.wr rfl)⟩
theorem o_some (h : PE X e (tR nm X.K en Wx ra)) : PO X (some e) (tOpt nm X.K en Wx fun env w => (asI (ra env w)).bind fun i w => .ok (some i) w) :=
  ⟨fun pins s σ H Q I ⟨g, env, w, B, q⟩ => (po_some h).run pins s σ H Q I ⟨g, env, w, B, EG.asI (Q := fun k H' => Q (some k) H') (EG.bind q fun i w1 g1 H1 v e1 E1 W1 R1 q => by
    subst R1
    exact q g1 H1 _ E1 W1 rfl)⟩⟩
theorem cutV_rep {K : PySem.W.Frag} {g : Gh} {H : Hp} {xs : List D} {vs : List V} (r : RepL nm K g H xs vs) (lo hi : Option Int) : RepL nm K g H (cut xs lo hi) (cutV vs lo hi) := by
  have e1 : cutLo xs.length lo = HT.sIx vs.length 0 lo := by rw [r.length]; cases lo <;> rfl
  have e2 : cutHi xs.length hi = HT.sIx vs.length vs.length hi := by rw [r.length]; cases hi <;> rfl
  unfold cut cutV
  rw [e1, e2]
  exact (r.drop _).take _
def rSl (nm : Nm) (K : PySem.W.Frag) : V → Option Int → Option Int → Hp → VK → Prop := fun x lo hi H Q => ∃ g w a z, WR nm K g w H ∧ RV.at nm K g H a x ∧ sliceR a lo hi w = some z ∧
  ∀ g' H' v, Ext g g' H H' → WR nm K g' w H' → RP nm K g' H H' z v → Q v H'
theorem sl_any : SlR X (rSl nm X.K) := by
  intro pins s σ H x v vl vu lo hi sl Q I rx hs pl pu h
  obtain ⟨g, w, a, z, W, ha, e, q⟩ := h
  unfold sliceR at e
  split at e
  · rename_i s1
    split at e <;> cases e
    rename_i hz
    cases ha
    refine sl_str pins s σ H _ v vl vu lo hi sl Q I rx hs pl pu ⟨_, rfl, ?_, ?_⟩
    · rw [str_len]
      exact Nat.le_trans hz big_le
    · have e1 : cutS ⟨s1.toArray⟩ lo hi = ⟨(cut s1 lo hi).toArray⟩ := by
        have l : (⟨s1.toArray⟩ : Str).length = s1.length := str_len s1
        have e1 : cutLo s1.length lo = HT.sIx s1.length 0 lo := by cases lo <;> rfl
        have e2 : cutHi s1.length hi = HT.sIx s1.length s1.length hi := by cases hi <;> rfl
        unfold cutS cut
        rw [l, e1, e2]
      rw [e1]
      exact q g H _ Ext.refl W (RP.d (.str _))
  · rename_i xs
    split at e <;> cases e
    rename_i hz
    cases ha with
    | tup h1 h2 =>
      refine sl_tup pins s σ H _ v vl vu lo hi sl Q I rx hs pl pu ⟨_, _, rfl, h1, ?_, new_tup W (cutV_rep h2 lo hi) q⟩
      have e1 : cutLo xs.length lo = HT.sIx xs.length 0 lo := by cases lo <;> rfl
      have e2 : cutHi xs.length hi = HT.sIx xs.length xs.length hi := by cases hi <;> rfl
      rw [← h2.length, ← e1, ← e2]
      intro z
      apply hz
      simp only [Bool.and_eq_true, decide_eq_true_eq]
      exact z
  · obtain ⟨xs, h1, h2⟩ := Option.map_eq_some_iff.mp e
    subst h2
    obtain ⟨ad, vs, rfl, h5, h6⟩ := lst_of W ha h1
    exact sl_list pins s σ H _ v vl vu lo hi sl Q I rx hs pl pu ⟨_, _, rfl, h5, new_lst W (cutV_rep h6 lo hi) q⟩
theorem v_slice {lo hi : Option Expr} {p2 : Pos} {rl rh : Env → Wd → Res (Option Int)} (ha : PE X a (tR nm X.K en Wx ra)) (hl : PO X lo (tOpt nm X.K en Wx rl)) (hu : PO X hi (tOpt nm X.K en Wx rh)) :
    PE X (.Subscript a (.Slice lo hi none p2) pos) (tR nm X.K en Wx fun env w => (ra env w).bind fun x w => (rl env w).bind fun l w => (rh env w).bind fun h w => w.ok1 (sliceR x l h w)) := by
  refine (pe_slice (sl_any (nm := nm)) ha hl hu).imp fun σ H Q ⟨g, env, w, B, q⟩ => ⟨g, env, w, B, EG.bind q fun x w1 g1 H1 v e1 E1 W1 R1 q => ?_⟩
  refine ⟨g1, env, w1, B.step E1 W1, EG.bind (q.start E1 (rel1 := fun g' H' => RP nm X.K g' H1 H') fun _ _ _ _ z => RP.start E1 z) fun l w2 g2 H2 u e2 E2 W2 R2 q => ?_⟩
  subst R2
  refine ⟨g2, env, w2, (B.step E1 W1).step E2 W2, EG.bind (q.start E2 (rel1 := fun g' H' => RP nm X.K g' H2 H') fun _ _ _ _ z => RP.start E2 z) fun h w3 g3 H3 u e3 E3 W3 R3 q => ?_⟩
  subst R3
  obtain ⟨z, ez, q⟩ := q.ok1
  exact ⟨g3, w3, x, z, W3, (R1.1.mono E2 W1.cmM).mono E3 W2.cmM, ez, fun g' H' v E W Rr => q g' H' v (E3.trans E) W (RP.start E3 Rr)⟩
end
end MP

set_option maxRecDepth 100000
set_option maxHeartbeats 1000000
/-! MPE3: built-in functions. -/
namespace MP
open PySem PySem.Spec PyProof.Rows L2
section
variable {T : Tab} {R : Calls} {X : Cx} {nm : Nm} {en : En} {Wx : WX} {a b c e : Expr} {es : List Expr} {pos p : Pos} {ra rb rc rd : Env → Wd → Res RV} {rs : Env → Wd → Res (List D)}
/-- one value, read -/
def r1 (nm : Nm) (K : PySem.W.Frag) (q : P1) : List V → Hp → VK → Prop := fun xs H Q => ∃ g w a x z, xs = [x] ∧ WR nm K g w H ∧ RV.at nm K g H a x ∧ op1 q a w = some z ∧ ∀ g' H' v, Ext g g' H H' → WR nm K g' w H' → RP nm K g' H H' z v → Q v H'
/-- two values, read -/
def r22 (nm : Nm) (K : PySem.W.Frag) (q : P2) : List V → Hp → VK → Prop := fun xs H Q => ∃ x y, xs = [x, y] ∧ r2 nm K q x y H Q
theorem CallR.imp {f : Value} {r r' : List V → Hp → VK → Prop} (h : CallR X f r) (k : ∀ xs H Q, r' xs H Q → r xs H Q) : CallR X f r' := fun pins s σ H xs us Q I rx q => h pins s σ H xs us Q I rx (k xs H Q q)
theorem CallR.or' {f : Value} {r r' : List V → Hp → VK → Prop} (h : CallR X f r) (h' : CallR X f r') : CallR X f (fun xs H Q => r xs H Q ∨ r' xs H Q) := fun pins s σ H xs us Q I rx q => q.elim (h pins s σ H xs us Q I rx) (h' pins s σ H xs us Q I rx)
theorem k_len : CallR X (.builtin "len") (r1 nm X.K .len) := by
  refine CallR.imp (CallR.or' call_len_seq call_len_str) fun xs H Q ⟨g, w, a, x, z, ex, W, ha, e, q⟩ => ?_
  unfold op1 at e
  split at e <;> first | (exfalso; simp_all; done) | skip
  · rename_i s _
    split at e <;> cases e
    rename_i hz
    cases ha
    refine .inr ⟨_, ex, ?_, ?_⟩
    · rw [str_len]
      exact Nat.le_trans hz big_le
    · rw [str_len]
      exact q g H _ Ext.refl W (RP.d (.int _))
  · rename_i h1 h2
    obtain ⟨xs1, h3, h4⟩ := Option.map_eq_some_iff.mp e
    subst h4
    obtain ⟨ad, vs, rfl, h5, h6⟩ := seq_of W ha h3
    refine .inl ⟨ad, vs, ex, h5, ?_⟩
    rw [← h6.length]
    exact q g H _ Ext.refl W (RP.d (.int _))
theorem k_int : CallR X (.type "int") (r1 nm X.K .toInt) := by
  refine CallR.imp call_int1 fun xs H Q ⟨g, w, a, x, z, ex, W, ha, e, q⟩ => ?_
  unfold op1 at e
  split at e <;> first | (exfalso; simp_all; done) | skip
  · cases e
    cases ha
    exact .inl ⟨_, ex, q g H _ Ext.refl W (RP.d (.int _))⟩
  · cases e
    cases ha
    exact .inr ⟨_, ex, q g H _ Ext.refl W (RP.d (.int _))⟩
theorem k_max2 (hc : X.calm = true) : CallR X (.builtin "max") (r22 nm X.K .max2) := by
  refine CallR.imp (call_max2 hc) fun xs H Q ⟨x, y, ex, g, w, a, b, z, W, ha, hb, e, q⟩ => ?_
  rcases op2_inv e with ⟨i, j, d, rfl, rfl, e2, rfl⟩ | ⟨i, j, d, rfl, rfl, e2, rfl⟩ | e2
  · cases e2
    cases ha
    cases hb
    exact ⟨i, j, ex, q g H _ Ext.refl W (RP.d (.int _))⟩
  · unfold opStr at e2
    split at e2 <;> simp_all
  · unfold opSeq at e2
    split at e2 <;> simp_all
theorem k_min2 (hc : X.calm = true) : CallR X (.builtin "min") (r22 nm X.K .min2) := by
  refine CallR.imp (call_min2 hc) fun xs H Q ⟨x, y, ex, g, w, a, b, z, W, ha, hb, e, q⟩ => ?_
  rcases op2_inv e with ⟨i, j, d, rfl, rfl, e2, rfl⟩ | ⟨i, j, d, rfl, rfl, e2, rfl⟩ | e2
  · cases e2
    cases ha
    cases hb
    exact ⟨i, j, ex, q g H _ Ext.refl W (RP.d (.int _))⟩
  · unfold opStr at e2
    split at e2 <;> simp_all
  · unfold opSeq at e2
    split at e2 <;> simp_all
/-- one argument, two arguments -/
theorem t_one {q : P1} {σ : L2.St} {H : Hp} {Q : VK} (h : tR nm X.K en Wx (fun env w => (ra env w).bind fun x w => w.ok1 (op1 q x w)) σ H Q) : tCB (r1 nm X.K q) (tCons (tR nm X.K en Wx ra) tNil) σ H Q := by
  obtain ⟨g, env, w, B, q⟩ := h
  refine ⟨g, env, w, B, EG.bind q fun x w1 g1 H1 v e1 E1 W1 R1 q1 => ?_⟩
  obtain ⟨z, ez, q3⟩ := q1.ok1
  exact ⟨g1, w1, x, v, z, rfl, W1, R1.1, ez, fun g' H' u E2 W2 R2 => q3 g' H' u (E1.trans E2) W2 (RP.start E1 R2)⟩
theorem t_two' {p : P2} {σ : L2.St} {H : Hp} {Q : VK} (h : tR nm X.K en Wx (fun env w => (ra env w).bind fun x w => (rb env w).bind fun y w => w.ok1 (op2 p x y w)) σ H Q) : tCB (r22 nm X.K p) (tCons (tR nm X.K en Wx ra) (tCons (tR nm X.K en Wx rb) tNil)) σ H Q := by
  obtain ⟨g, env, w, B, q⟩ := t_two h
  exact ⟨g, env, w, B, by
    cases e : ra env w with
    | ok x w1 =>
      rw [e] at q
      intro g' H' v E W Rr
      obtain ⟨g2, env2, w2, B2, q2⟩ := q g' H' v E W Rr
      refine ⟨g2, env2, w2, B2, ?_⟩
      cases e2 : rb env2 w2 with
      | ok y w3 =>
        rw [e2] at q2
        exact fun g3 H3 u E3 W3 R3 => ⟨v, u, rfl, q2 g3 H3 u E3 W3 R3⟩
      | exc c fs w3 => rw [e2] at q2; exact q2
      | bad => rw [e2] at q2; exact q2
    | exc c fs w1 => rw [e] at q; exact q
    | bad => rw [e] at q; exact q⟩
theorem v_blt1 {x : Str} {id : String} {q : P1} (hc : CallR X (.builtin id) (r1 nm X.K q)) (hg : Gl X x) (hm : X.mg x = none) (hv : bootBuiltins x = some (.builtin id)) (h : PE X e (tR nm X.K en Wx ra)) (hn : x ≠ "__name__") (hdb : (x == ("__debug__" : Str)) = false)
    (he : starEach [e] X.env = (false, eval e X.env) :: starEach [] X.env) : PE X (.Call (.Name x p) [e] [] pos) (tR nm X.K en Wx fun env w => (ra env w).bind fun x w => w.ok1 (op1 q x w)) :=
  (pe_callB hc hg hm hv (pa_cons h pa_nil he) hn hdb he (by rfl)).imp fun σ H Q h => t_one h
theorem v_typ1 {x : Str} {id : String} {q : P1} (hc : CallR X (.type id) (r1 nm X.K q)) (hg : Gl X x) (hm : X.mg x = none) (hv : bootBuiltins x = some (.type id)) (h : PE X e (tR nm X.K en Wx ra)) (hn : x ≠ "__name__") (hdb : (x == ("__debug__" : Str)) = false)
    (he : starEach [e] X.env = (false, eval e X.env) :: starEach [] X.env) : PE X (.Call (.Name x p) [e] [] pos) (tR nm X.K en Wx fun env w => (ra env w).bind fun x w => w.ok1 (op1 q x w)) :=
  (pe_callTy hc hg hm hv (pa_cons h pa_nil he) hn hdb he (by rfl)).imp fun σ H Q h => t_one h
theorem v_blt2 {x : Str} {id : String} {q : P2} (hc : CallR X (.builtin id) (r22 nm X.K q)) (hg : Gl X x) (hm : X.mg x = none) (hv : bootBuiltins x = some (.builtin id)) (h : PE X a (tR nm X.K en Wx ra)) (h2 : PE X b (tR nm X.K en Wx rb)) (hn : x ≠ "__name__") (hdb : (x == ("__debug__" : Str)) = false)
    (he : starEach [a, b] X.env = (false, eval a X.env) :: starEach [b] X.env) (he2 : starEach [b] X.env = (false, eval b X.env) :: starEach [] X.env) :
    PE X (.Call (.Name x p) [a, b] [] pos) (tR nm X.K en Wx fun env w => (ra env w).bind fun x w => (rb env w).bind fun y w => w.ok1 (op2 q x y w)) :=
  (pe_callB hc hg hm hv (pa_cons h (pa_cons h2 pa_nil he2) he) hn hdb he (by rw [he2]; rfl)).imp fun σ H Q h => t_two' h

/-! ### isinstance against a built-in type -/
def Ty.name : Ty → String
  | .none => "NoneType" | .bool => "bool" | .int => "int" | .str => "str" | .tuple => "tuple" | .list => "list"
theorem kit_of' {K : PySem.W.Frag} (u t : Ty) (ht : t ≠ .none) : PySem.W.kitOne K (.type u.name) (.type t.name) = some (isTy u t) := by
  refine kit_ty ?_
  cases t <;> cases u <;> first | exact absurd rfl ht | decide +kernel
theorem tyx_tup {K : PySem.W.Frag} {H : Hp} {ad : Addr} {vs : List V} (h : SqT K H ad vs) : TyX K H (.ref ad) (.type "tuple") := by
  rcases h with (h | ⟨o, h⟩) | ⟨o, its, n, h1, h2, _⟩
  · exact .base (.tup h)
  · exact .fTuple h
  · exact .kTuple h1 h2
theorem tyx_lst {K : PySem.W.Frag} {H : Hp} {ad : Addr} {vs : List V} (h : SqL K H ad vs) : TyX K H (.ref ad) (.type "list") := by
  rcases h with (h | ⟨o, h⟩) | ⟨o, its, n, h1, h2, _⟩
  · exact .base (.lst h)
  · exact .base (.frz h)
  · exact .kList h1 h2
theorem tyx_of {K : PySem.W.Frag} {g : Gh} {H : Hp} {x : D} {v : V} {u : Ty} (h : Rep nm K g H x v) (e : tyOf x = some u) : TyX K H v (.type u.name) := by
  cases x <;> cases e
  · cases h; exact .base .non
  · cases h; exact .base (.bl _)
  · cases h; exact .base (.int _)
  · cases h; exact .base (.str _)
  · cases h with
    | tup h1 h2 => exact tyx_tup h1
  · cases h with
    | lst h1 h2 => exact tyx_lst h1.sq
theorem v_isT {t : Ty} {n2 : Str} {p2 : Pos} (ht : t ≠ .none) (hg : Gl X "isinstance") (hm : X.mg "isinstance" = none) (hg2 : Gl X n2) (hm2 : X.mg n2 = none) (hv2 : bootBuiltins n2 = some (.type t.name)) (hn2 : n2 ≠ "__name__") (hd2 : (n2 == ("__debug__" : Str)) = false)
    (h : PE X e (tR nm X.K en Wx ra)) (he : starEach [e, .Name n2 p2] X.env = (false, eval e X.env) :: starEach [.Name n2 p2] X.env) :
    PE X (.Call (.Name "isinstance" p) [e, .Name n2 p2] [] pos) (tR nm X.K en Wx fun env w => (ra env w).bind fun x w => w.ok1 (op1 (.isT t) x w)) := by
  refine (pe_callB call_isi hg hm PyProof.Rows.boot_isinstance (pa_cons h (pa_cons (pe_bltn hg2 hm2 hv2 (v := .ty t.name) rfl hn2 hd2) pa_nil) he) (by decide) (by decide) he (by rfl)).imp fun σ H Q ⟨g, env, w, B, q⟩ => ?_
  refine ⟨g, env, w, B, EG.bind q fun x w1 g1 H1 v e1 E1 W1 R1 q1 => ?_⟩
  obtain ⟨z, ez, q3⟩ := q1.ok1
  unfold op1 at ez
  split at ez <;> first | (exfalso; simp_all; done) | skip
  · rename_i t2 x1 ht2
    cases ht2
    obtain ⟨u, h1, h2⟩ := Option.map_eq_some_iff.mp ez
    subst h2
    exact ⟨v, .ty t.name, .type u.name, .type t.name, isTy u t, rfl, .ty _, tyx_of R1.1 h1, kit_of' u t ht, q3 g1 H1 _ E1 W1 (RP.d (.bl _))⟩
  · rename_i t2 x1 ht2
    cases ht2
    cases ez
    obtain ⟨ad, rfl, h1, h2⟩ := R1.1
    cases h1 with
    | L h3 h4 => exact ⟨_, .ty t.name, .type "list", .type t.name, isTy .list t, rfl, .ty _, tyx_lst (.inl (.inl h3)), kit_of' .list t ht, q3 g1 H1 _ E1 W1 (RP.d (.bl _))⟩
  · rename_i t2 x1 ht2
    cases ht2
    cases ez
    obtain ⟨ad, rfl, h1, h2⟩ := R1.1
    cases h1 with
    | L h3 h4 => exact ⟨_, .ty t.name, .type "list", .type t.name, isTy .list t, rfl, .ty _, tyx_lst (.inl (.inl h3)), kit_of' .list t ht, q3 g1 H1 _ E1 W1 (RP.d (.bl _))⟩

/-! ### sep.join(list) -/
theorem strs_rep {K : PySem.W.Frag} {g : Gh} {H : Hp} : ∀ {xs : List D} {vs : List V} {ss : List (List Nat)}, RepL nm K g H xs vs → strs? xs = some ss → vs = (ss.map fun s => (⟨s.toArray⟩ : Str)).map V.str
  | [], _, _, h, e => by
    cases h
    cases e
    rfl
  | x :: xs, _, ss, h, e => by
    cases h with
    | cons h1 h2 =>
      cases x with
      | str s =>
        unfold strs? at e
        obtain ⟨r, h3, h4⟩ := Option.map_eq_some_iff.mp e
        subst h4
        cases h1
        rw [strs_rep h2 h3]
        rfl
      | _ => cases e
theorem join_str (s : List Nat) (ss : List (List Nat)) : Txt.join (⟨s.toArray⟩ : Str) (ss.map fun s => (⟨s.toArray⟩ : Str)) = ⟨(joinL s ss).toArray⟩ := by
  have go : ∀ ss : List (List Nat), Str.join (⟨s.toArray⟩ : Str) (ss.map fun s => (⟨s.toArray⟩ : Str)) = ⟨(joinL s ss).toArray⟩ := by
    intro ss
    induction ss with
    | nil => rfl
    | cons a r ih =>
      cases r with
      | nil => rfl
      | cons b r =>
        have e : Str.join (⟨s.toArray⟩ : Str) ((a :: b :: r).map fun s => (⟨s.toArray⟩ : Str)) = ⟨a.toArray⟩ ++ ⟨s.toArray⟩ ++ Str.join (⟨s.toArray⟩ : Str) ((b :: r).map fun s => (⟨s.toArray⟩ : Str)) := rfl
        rw [e, ih, str_app, str_app]
        simp [joinL]
  rw [← go ss]
  exact TL.join_eq _ _
theorem lens_str (ss : List (List Nat)) : ((ss.map fun s => (⟨s.toArray⟩ : Str)).map (·.length)).sum = lens ss := by
  unfold lens
  rw [List.map_map]
  refine congrArg List.sum (List.map_congr_left fun a _ => ?_)
  exact str_len a
theorem opSeq_join {s : List Nat} {b z : RV} {w : Wd} (e : opSeq .join (.d (.str s)) b w = some z) : ∃ xs ss, b.lst? w = some xs ∧ strs? xs = some ss ∧ lens ss + s.length * ss.length ≤ big ∧ z = .d (.str (joinL s ss)) := by
  have e : ((b.lst? w).bind fun xs => (strs? xs).bind fun ss => if lens ss + s.length * ss.length ≤ big then some (.d (.str (joinL s ss))) else none) = some z := by
    cases b with
    | d x => cases x <;> exact e
    | bor o => exact e
    | fl o => exact e
  obtain ⟨xs, h1, h2⟩ := Option.bind_eq_some_iff.mp e
  obtain ⟨ss, h3, h4⟩ := Option.bind_eq_some_iff.mp h2
  split at h4 <;> cases h4
  exact ⟨xs, ss, h1, h3, by assumption, rfl⟩
theorem v_join {apos : Pos} (ha : PE X a (tR nm X.K en Wx ra)) (hb : PE X b (tR nm X.K en Wx rb)) (hstr : ∀ env w x w', ra env w = .ok x w' → ∃ s, x = .d (.str s)) (hs : starEach [b] X.env = [(false, eval b X.env)]) (hbase : attributeBase a "join" X.env (eval a X.env) = eval a X.env) (hline : (apos.endLine == pos.line) = true) :
    PE X (.Call (.Attribute a "join" apos) [b] [] pos) (tR nm X.K en Wx fun env w => (ra env w).bind fun x w => (rb env w).bind fun y w => w.ok1 (op2 .join x y w)) := by
  refine (pe_join ha hb hs hbase hline).imp fun σ H Q ⟨g, env, w, B, q⟩ => ?_
  refine ⟨g, env, w, B, EG.bind q fun x w1 g1 H1 v e1 E1 W1 R1 q1 => ?_⟩
  obtain ⟨s, rfl⟩ := hstr _ _ _ _ e1
  obtain ⟨R1a, _⟩ := R1
  cases R1a
  refine ⟨⟨_, rfl⟩, g1, env, w1, B.step E1 W1, (q1.start E1 fun _ _ _ _ z => RP.start E1 z).bind fun y w2 g2 H2 u e2 E2 W2 R2 q2 => ?_⟩
  obtain ⟨z, ez, q3⟩ := q2.ok1
  rcases op2_inv ez with ⟨i, j, d, h1, h2, e3, rfl⟩ | ⟨i, j, d, h1, rfl, e3, rfl⟩ | e3
  · cases h1
  · simp [opStr] at e3
  · obtain ⟨xs, ss, h1, h3, hz, rfl⟩ := opSeq_join e3
    obtain ⟨ad, vs, rfl, h5, h6⟩ := lst_of W2 R2.1 h1
    have ev := strs_rep h6 h3
    subst ev
    refine ⟨_, ad, ss.map fun s => (⟨s.toArray⟩ : Str), rfl, rfl, .inl h5, ?_, ?_⟩
    · rw [lens_str, str_len, List.length_map, Nat.mul_comm]
      exact Nat.le_trans hz (by decide)
    · rw [join_str]
      exact q3 g2 H2 _ E2 W2 (RP.d (.str _))
end
end MP

set_option maxRecDepth 100000
set_option maxHeartbeats 1000000
/-! MPI: what is walked. -/
namespace MP
open PySem PySem.Spec PyProof.Rows L2
section
variable (nm : Nm) (K : PySem.W.Frag)
/-- J hands out xs, as long as data stand as they stood -/
def Yields (g : Gh) (H : Hp) (J : L2.It) (xs : List D) : Prop := ∀ g2 H2 w2, Ext0 g g2 H H2 → WR nm K g2 w2 H2 →
  (∀ (i : Nat) (x : D), xs[i]? = some x → J.go i H2 ∧ ∀ v H3, J.yld i H2 v H3 → ∃ g3, Ext g2 g3 H2 H3 ∧ WR nm K g3 w2 H3 ∧ Rep nm K g3 H3 x v) ∧ J.stop xs.length H2
def tI (en : En) (Wx : WX) (r : Env → Wd → Res (List D)) : TI := fun σ H R => ∃ g env w, BR nm K en g env w σ H ∧ EG nm K Wx σ (fun g' H' xs J => Yields nm K g' H' J xs) g H (r env w) R
end
section
variable {nm : Nm} {K : PySem.W.Frag} {g g' g1 g2 : Gh} {H H' H1 H2 : Hp} {w : Wd}
theorem Ext0.refl : Ext0 g g H H := ⟨fun _ _ h _ => h, fun _ _ h => h, fun _ _ _ h => h, fun _ h => .inl h, List.prefix_refl _⟩
theorem Ext0.trans (a : Ext0 g g1 H H1) (b : Ext0 g1 g2 H1 H2) : Ext0 g g2 H H2 where
  keep := fun c o h n => b.keep c o (a.keep c o h n) fun z => by
    rcases a.new c z with z | z
    · exact n z
    · rw [h] at z
      cases z
  tup := fun c xs h => b.tup c xs (a.tup c xs h)
  frz := fun c o u h => b.frz c o u (a.frz c o u h)
  new := fun c h => by
    rcases b.new c h with h | h
    · exact a.new c h
    · by_cases m : g.M c
      · exact .inl m
      · refine .inr ?_
        cases q : H c with
        | none => rfl
        | some o =>
          rw [a.keep c o q m] at h
          cases h
  pre := a.pre.trans b.pre
theorem yields_tup {a : Addr} {xs : List D} {vs : List V} (h : SqT K H a vs) (r : RepL nm K g H xs vs) : Yields nm K g H (Itt K a) xs := by
  intro g2 H2 w2 e W
  have h2 := SqT.mono0 e h
  have r2 := RepL.mono0 e _ _ r
  refine ⟨fun i x hx => ?_, ⟨vs, h2, by rw [r2.length]; exact Nat.le_refl _⟩⟩
  obtain ⟨v, h3, h4⟩ := r2.get hx
  refine ⟨⟨vs, v, h2, h3⟩, fun u H3 ⟨e1, e2⟩ => ?_⟩
  subst e1
  have := e2 vs h2
  rw [h3] at this
  cases this
  exact ⟨g2, Ext.refl, W, h4⟩
theorem yields_lst {a : Addr} {xs : List D} {vs : List V} (h : Fz K g H a vs) (r : RepL nm K g H xs vs) : Yields nm K g H (Itl K a) xs := by
  intro g2 H2 w2 e W
  have h2 := (Fz.mono0 e h).sq
  have r2 := RepL.mono0 e _ _ r
  refine ⟨fun i x hx => ?_, ⟨vs, h2, by rw [r2.length]; exact Nat.le_refl _⟩⟩
  obtain ⟨v, h3, h4⟩ := r2.get hx
  refine ⟨⟨vs, v, h2, h3⟩, fun u H3 ⟨e1, e2⟩ => ?_⟩
  subst e1
  have := e2 vs h2
  rw [h3] at this
  cases this
  exact ⟨g2, Ext.refl, W, h4⟩
theorem yields_str (s : List Nat) : Yields nm K g H (Its ⟨s.toArray⟩) (s.map fun c => .str [c]) := by
  intro g2 H2 w2 e W
  refine ⟨fun i x hx => ?_, by show s.toArray.size ≤ _; simp⟩
  rw [List.getElem?_map] at hx
  obtain ⟨c, h1, h2⟩ := Option.map_eq_some_iff.mp hx
  subst h2
  have hlt := (List.getElem?_eq_some_iff.mp h1).1
  refine ⟨by show i < s.toArray.size; simpa using hlt, fun u H3 ⟨e1, c2, e2, e3⟩ => ?_⟩
  subst e1
  have e2 : s.toArray[i]? = some c2 := e2
  rw [List.getElem?_toArray, h1] at e2
  cases e2
  subst e3
  exact ⟨g2, Ext.refl, W, .str [c]⟩
theorem yields_rng (lo : Int) (n : Nat) : Yields nm K g H (Itr lo n) (rangeD lo n) := by
  intro g2 H2 w2 e W
  refine ⟨fun i x hx => ?_, by show n ≤ _; simp [rangeD]⟩
  unfold rangeD at hx
  rw [List.getElem?_map] at hx
  obtain ⟨c, h1, h2⟩ := Option.map_eq_some_iff.mp hx
  subst h2
  obtain ⟨h3, h4⟩ := List.getElem?_eq_some_iff.mp h1
  rw [List.getElem_range] at h4
  subst h4
  refine ⟨by show i < n; simpa using h3, fun u H3 ⟨e1, e2⟩ => ?_⟩
  subst e1 e2
  exact ⟨g2, Ext.refl, W, .int _⟩
theorem yields_enum {a : Addr} {xs : List D} {vs : List V} (h : Fz K g H a vs) (r : RepL nm K g H xs vs) : Yields nm K g H (Ite K a) (xs.zipIdx.map fun p => .tup [.int p.2, p.1]) := by
  intro g2 H2 w2 e W
  have h2 := (Fz.mono0 e h).sq
  have r2 := RepL.mono0 e _ _ r
  refine ⟨fun i x hx => ?_, ⟨vs, h2, by rw [r2.length.symm]; simp⟩⟩
  rw [List.getElem?_map, List.getElem?_zipIdx] at hx
  obtain ⟨p, h5, h6⟩ := Option.map_eq_some_iff.mp hx
  obtain ⟨d, h7, h8⟩ := Option.map_eq_some_iff.mp h5
  subst h8 h6
  obtain ⟨v, h3, h4⟩ := r2.get h7
  refine ⟨⟨vs, v, h2, h3⟩, fun u H3 ⟨T, x, e0, n, e1, e2⟩ => ?_⟩
  have := e2 vs h2
  rw [h3] at this
  cases this
  subst e0 e1
  refine ⟨g2, Ext.fz n, W.fz n, .tup (.inl (.inl upd_same)) (.cons ?_ (.cons (Rep.mono (Ext.fz n) W.cmM _ _ h4) .nil))⟩
  rw [Nat.zero_add]
  exact .int _
theorem yields_zip {a b : Addr} {xs ys : List D} {vs us : List V} (h : Fz K g H a vs) (r : RepL nm K g H xs vs) (h' : Fz K g H b us) (r' : RepL nm K g H ys us) : Yields nm K g H (Itz K a b) ((xs.zip ys).map fun p => .tup [p.1, p.2]) := by
  intro g2 H2 w2 e W
  have h2 := (Fz.mono0 e h).sq
  have r2 := RepL.mono0 e _ _ r
  have h2' := (Fz.mono0 e h').sq
  have r2' := RepL.mono0 e _ _ r'
  refine ⟨fun i x hx => ?_, ⟨vs, us, h2, h2', by rw [r2.length.symm, r2'.length.symm]; simp; omega⟩⟩
  rw [List.getElem?_map] at hx
  obtain ⟨p, h5, h6⟩ := Option.map_eq_some_iff.mp hx
  obtain ⟨d, d'⟩ := p
  obtain ⟨h7, h7'⟩ := List.getElem?_zip_eq_some.mp h5
  subst h6
  obtain ⟨v, h3, h4⟩ := r2.get h7
  obtain ⟨v', h3', h4'⟩ := r2'.get h7'
  refine ⟨⟨vs, us, v, v', h2, h2', h3, h3'⟩, fun u H3 ⟨T, x, y, e0, n, e1, e2, e3⟩ => ?_⟩
  have t1 := e2 vs h2
  rw [h3] at t1
  cases t1
  have t2 := e3 us h2'
  rw [h3'] at t2
  cases t2
  subst e0 e1
  exact ⟨g2, Ext.fz n, W.fz n, .tup (.inl (.inl upd_same)) (.cons (Rep.mono (Ext.fz n) W.cmM _ _ h4) (.cons (Rep.mono (Ext.fz n) W.cmM _ _ h4') .nil))⟩
end
section
variable {X : Cx} {nm : Nm} {en : En} {Wx : WX} {a b e tg : Expr} {pos p : Pos} {ra rb : Env → Wd → Res RV}
def itemsOf (r : Res D) : Res (List D) := r.bind fun r w => match r with
  | .tup xs => .ok xs w
  | .lst xs => .ok xs w
  | .str s => .ok (s.map fun c => .str [c]) w
  | _ => .bad
theorem i_of (h : PE X e (tR nm X.K en Wx ra)) : PI X tg e (tI nm X.K en Wx fun env w => itemsOf (asD (ra env w))) := by
  refine ⟨fun pins s σ H R I ⟨g, env, w, B, q⟩ => ?_⟩
  have q : EG nm X.K Wx σ (fun g' H' xs J => Yields nm X.K g' H' J xs) g H (itemsOf (asD (ra env w))) R := q
  cases e1 : asD (ra env w) with
  | ok x w1 =>
    rw [e1] at q
    cases x with
    | tup xs =>
      refine (pi_tup (v_D h)).run pins s σ H R I ⟨g, env, w, B, ?_⟩
      show EG _ _ _ _ _ _ _ (asD (ra env w)) _
      rw [e1]
      intro g1 H1 v E1 W1 R1
      cases R1 with
      | tup h1 h2 => exact ⟨_, rfl, ⟨_, h1⟩, q g1 H1 _ E1 W1 (yields_tup h1 h2)⟩
    | lst xs =>
      refine (pi_list (v_D h)).run pins s σ H R I ⟨g, env, w, B, ?_⟩
      show EG _ _ _ _ _ _ _ (asD (ra env w)) _
      rw [e1]
      intro g1 H1 v E1 W1 R1
      cases R1 with
      | lst h1 h2 => exact ⟨_, rfl, ⟨_, h1.sq⟩, q g1 H1 _ E1 W1 (yields_lst h1 h2)⟩
    | str s1 =>
      refine (pi_str (v_D h)).run pins s σ H R I ⟨g, env, w, B, ?_⟩
      show EG _ _ _ _ _ _ _ (asD (ra env w)) _
      rw [e1]
      intro g1 H1 v E1 W1 R1
      cases R1
      exact ⟨_, rfl, q g1 H1 _ E1 W1 (yields_str s1)⟩
    | _ => exact (show False from q).elim
  | exc c fs w1 =>
    rw [e1] at q
    refine (pi_list (v_D h)).run pins s σ H R I ⟨g, env, w, B, ?_⟩
    show EG _ _ _ _ _ _ _ (asD (ra env w)) _
    rw [e1]
    exact q
  | bad =>
    rw [e1] at q
    exact (show False from q).elim
theorem PI.imp' {t t' : TI} (h : PI X tg e t) (k : ∀ σ H Q, t' σ H Q → t σ H Q) : PI X tg e t' := ⟨fun pins s σ H Q I q => h.run pins s σ H Q I (k σ H Q q)⟩
theorem rngOk_ok {i : Int} (h : rngOk i = true) : -(2 ^ 62) ≤ i ∧ i < 2 ^ 62 := by
  unfold rngOk at h
  simpa only [Bool.and_eq_true, decide_eq_true_eq] using h
theorem i_rng1 (hg : Gl X "range") (hm : X.mg "range" = none) (h : PE X a (tR nm X.K en Wx ra)) (hs : starEach [a] X.env = [(false, eval a X.env)]) :
    PI X tg (.Call (.Name "range" p) [a] [] pos) (tI nm X.K en Wx fun env w => (asI (ra env w)).bind fun n w => if rngOk n then .ok (rangeD 0 n.toNat) w else .bad) := by
  refine PI.imp' (pi_range1 hg hm (pa_cons h pa_nil hs) hs) fun σ H R ⟨g, env, w, B, q⟩ => ?_
  refine ⟨g, env, w, B, ?_⟩
  have q2 : EG nm X.K Wx σ (fun _ _ b c => b = c) g H (asI (ra env w)) (fun n H1 => rngOk n = true ∧ R (Itr 0 n.toNat) H1) := EG.bind q fun n w1 g1 H1 v e1 E1 W1 R1 q1 => by
    subst R1
    cases hz : rngOk n with
    | true =>
      rw [hz] at q1
      exact ⟨rfl, q1 g1 H1 _ E1 W1 (yields_rng 0 _)⟩
    | false =>
      rw [hz] at q1
      exact q1.elim
  have q3 := EG.asI q2
  cases e : ra env w with
  | ok x w1 =>
    rw [e] at q3
    intro g' H' v E W Rr
    obtain ⟨k, rfl, hz, z⟩ := q3 g' H' v E W Rr
    obtain ⟨h1, h2⟩ := rngOk_ok hz
    exact ⟨k, rfl, h1, h2, z⟩
  | exc c fs w1 => rw [e] at q3; exact q3
  | bad => rw [e] at q3; exact q3
end
end MP

set_option maxRecDepth 100000
set_option maxHeartbeats 1000000
/-! MPC: further walks, comprehensions. -/
namespace MP
open PySem PySem.Spec PyProof.Rows L2
section
variable {X : Cx} {nm : Nm} {en : En} {Wx : WX} {a b e tg : Expr} {pos p : Pos} {ra rb : Env → Wd → Res RV}
/-- an int, then what follows -/
theorem EG.int {r : Res RV} {K : PySem.W.Frag} {σ : L2.St} {g : Gh} {H : Hp} {α β : Type} {rel : Gh → Hp → α → β → Prop} {k : Int → Wd → Res α} {Q : β → Hp → Prop} {Q1 : V → Hp → Prop} (h : EG nm K Wx σ rel g H ((MP.asI r).bind k) Q)
    (f : ∀ i w1 g1 H1, Ext g g1 H H1 → WR nm K g1 w1 H1 → EG nm K Wx σ rel g H (k i w1) Q → Q1 (.int i) H1) : EG nm K Wx σ (fun g' H' => RP nm K g' H H') g H r Q1 := by
  have q3 := EG.asI (Q := fun i H1 => Q1 (.int i) H1) (r := r) (EG.bind h fun i w1 g1 H1 v e1 E1 W1 R1 q1 => by
    subst R1
    exact f i w1 g1 H1 E1 W1 q1)
  cases r with
  | ok x w1 =>
    intro g' H' v E W Rr
    obtain ⟨k, rfl, z⟩ := q3 g' H' v E W Rr
    exact z
  | exc c fs w1 => exact q3
  | bad => exact q3
theorem i_rng2 (hg : Gl X "range") (hm : X.mg "range" = none) (h : PE X a (tR nm X.K en Wx ra)) (h2 : PE X b (tR nm X.K en Wx rb)) (hs : starEach [a, b] X.env = [(false, eval a X.env), (false, eval b X.env)]) (hs2 : starEach [b] X.env = [(false, eval b X.env)]) :
    PI X tg (.Call (.Name "range" p) [a, b] [] pos) (tI nm X.K en Wx fun env w => (asI (ra env w)).bind fun n w => (asI (rb env w)).bind fun m w => if rngOk n && rngOk m then .ok (rangeD n (m - n).toNat) w else .bad) := by
  refine PI.imp' (pi_range2 hg hm (pa_cons h (pa_cons h2 pa_nil hs2) (by rw [hs, hs2])) hs hs2) fun σ H R ⟨g, env, w, B, q⟩ => ?_
  refine ⟨g, env, w, B, EG.int q fun n w1 g1 H1 E1 W1 q => ?_⟩
  refine ⟨g1, env, w1, B.step E1 W1, EG.int (q.start E1 fun _ _ _ _ z => z) fun m w2 g2 H2 E2 W2 q => ?_⟩
  cases hz : rngOk n && rngOk m with
  | true =>
    rw [hz] at q
    rw [Bool.and_eq_true] at hz
    obtain ⟨a1, a2⟩ := rngOk_ok hz.1
    obtain ⟨b1, b2⟩ := rngOk_ok hz.2
    exact ⟨n, m, rfl, ⟨a1, a2, b1, b2⟩, q g2 H2 _ E2 W2 (yields_rng n _)⟩
  | false =>
    rw [hz] at q
    exact (show False from q).elim
theorem i_enum {elts : List Expr} {kk : Nat} {tpos : Pos} (hg : Gl X "enumerate") (hm : X.mg "enumerate" = none) (h : PE X a (tR nm X.K en Wx ra)) (hs : starEach [a] X.env = [(false, eval a X.env)]) :
    PI X (.Tuple elts kk tpos) (.Call (.Name "enumerate" p) [a] [] pos) (tI nm X.K en Wx fun env w => (asD (ra env w)).bind fun r w => match r with
      | .lst xs => .ok ((xs.zipIdx).map fun p => .tup [.int p.2, p.1]) w
      | _ => .bad) := by
  refine PI.imp' (pi_enum hg hm (pa_cons (v_D h) pa_nil hs) hs) fun σ H R ⟨g, env, w, B, q⟩ => ?_
  refine ⟨g, env, w, B, EG.bind q fun x w1 g1 H1 v e1 E1 W1 R1 q => ?_⟩
  cases x with
  | lst xs =>
    cases R1 with
    | lst h1 h2 => exact ⟨_, _, rfl, h1.sq, q g1 H1 _ E1 W1 (yields_enum h1 h2)⟩
  | _ => exact (show False from q).elim
theorem i_zip {elts : List Expr} {kk : Nat} {tpos : Pos} (hg : Gl X "zip") (hm : X.mg "zip" = none) (h : PE X a (tR nm X.K en Wx ra)) (h2 : PE X b (tR nm X.K en Wx rb)) (hs : starEach [a, b] X.env = (false, eval a X.env) :: starEach [b] X.env) (hs2 : starEach [b] X.env = [(false, eval b X.env)]) :
    PI X (.Tuple elts kk tpos) (.Call (.Name "zip" p) [a, b] [] pos) (tI nm X.K en Wx fun env w => (asD (ra env w)).bind fun r w => (asD (rb env w)).bind fun s w => match r, s with
      | .lst xs, .lst ys => .ok ((xs.zip ys).map fun p => .tup [p.1, p.2]) w
      | _, _ => .bad) := by
  refine PI.imp' (pi_zip hg hm (pa_cons (v_D h) (pa_cons (v_D h2) pa_nil hs2) hs) hs (by rw [hs2]; rfl)) fun σ H R ⟨g, env, w, B, q⟩ => ?_
  refine ⟨g, env, w, B, EG.bind q fun x w1 g1 H1 v e1 E1 W1 R1 q => ?_⟩
  refine ⟨g1, env, w1, B.step E1 W1, EG.bind (q.start E1 fun _ _ _ _ z => z) fun y w2 g2 H2 u e2 E2 W2 R2 q => ?_⟩
  cases x with
  | lst xs =>
    cases y with
    | lst ys =>
      cases R1 with
      | lst h1 h2 =>
        cases R2 with
        | lst h3 h4 => exact ⟨_, _, _, _, rfl, (Fz.mono E2 W1.cmM h1).sq, h3.sq, q g2 H2 _ E2 W2 (yields_zip (Fz.mono E2 W1.cmM h1) (RepL.mono E2 W1.cmM _ _ h2) h3 h4)⟩
    | _ => exact (show False from q).elim
  | _ => exact (show False from q).elim

/-! ### targets -/
/-- a walk's target: what it stores -/
def tgSlots : Tg → List Nat
  | .var i => [i]
  | .tup is => is
/-- the slots of a target, in the frame -/
def gTg (nm : Nm) (K : PySem.W.Frag) (en : En) (t : Tg) : TG := fun v σ H Q => ∃ g env env' w x, BR nm K en g env w σ H ∧ Rep nm K g H x v ∧ bindTg t x env = some env' ∧
  ∀ σ', BR nm K en g env' w σ' H → (∀ i, i ∉ tgSlots t → σ'[i]? = σ[i]?) → σ'.length = σ.length → Q σ' H
theorem BR.set {K : PySem.W.Frag} {g : Gh} {env : Env} {w : Wd} {σ : L2.St} {H : Hp} {i : Nat} {x : D} {v : V} (B : BR nm K en g env w σ H) (r : Rep nm K g H x v) : BR nm K en g (env.set i (.val x)) w (σ.set i (some v)) H where
  wr := B.wr
  ext := B.ext
  len := by rw [List.length_set, List.length_set]; exact B.len
  val := fun j y h => by
    by_cases hj : i = j
    · subst hj
      by_cases hl : i < env.length
      · rw [List.getElem?_set_self hl] at h
        cases h
        exact ⟨v, List.getElem?_set_self (by rw [← B.len]; exact hl), r⟩
      · rw [List.getElem?_eq_none (by rw [List.length_set]; omega)] at h
        cases h
    · rw [List.getElem?_set_ne hj] at h ⊢
      exact B.val j y h
  own := fun j o h => by
    by_cases hj : i = j
    · subst hj
      by_cases hl : i < env.length
      · rw [List.getElem?_set_self hl] at h
        cases h
      · rw [List.getElem?_eq_none (by rw [List.length_set]; omega)] at h
        cases h
    · rw [List.getElem?_set_ne hj] at h ⊢
      exact B.own j o h
  dis := fun j k o p a h1 h2 h3 h4 => by
    have n1 : i ≠ j := fun e => by
      subst e
      by_cases hl : i < env.length
      · rw [List.getElem?_set_self hl] at h1
        cases h1
      · rw [List.getElem?_eq_none (by rw [List.length_set]; omega)] at h1
        cases h1
    have n2 : i ≠ k := fun e => by
      subst e
      by_cases hl : i < env.length
      · rw [List.getElem?_set_self hl] at h2
        cases h2
      · rw [List.getElem?_eq_none (by rw [List.length_set]; omega)] at h2
        cases h2
    rw [List.getElem?_set_ne n1] at h1 h3
    rw [List.getElem?_set_ne n2] at h2 h4
    exact B.dis j k o p a h1 h2 h3 h4
theorem g_var {i : Nat} (h : PG X tg (gName i)) : PG X tg (gTg nm X.K en (.var i)) := ⟨fun pins s σ H v u Q I rv ⟨g, env, env', w, x, B, r, e, q⟩ => h.run pins s σ H v u Q I rv (by
  cases e
  exact q _ (B.set r) (fun j hj => List.getElem?_set_ne (fun e => hj (by simp [tgSlots, e]))) (List.length_set ..))⟩
/-- several names -/
def gIs : List Nat → TGs
  | [] => gNil
  | i :: is => gCons (gName i) (gIs is)
theorem gIs_ok {K : PySem.W.Frag} {g : Gh} {w : Wd} {H : Hp} {Q : L2.St → Hp → Prop} : ∀ {is : List Nat} {xs : List D} {vs : List V} {env : Env} {σ : L2.St}, BR nm K en g env w σ H → RepL nm K g H xs vs → is.length = xs.length →
    (∀ σ', BR nm K en g ((is.zip xs).foldl (fun e p => e.set p.1 (.val p.2)) env) w σ' H → (∀ i, i ∉ is → σ'[i]? = σ[i]?) → σ'.length = σ.length → Q σ' H) → gIs is vs σ H Q
  | [], [], _, _, _, B, r, _, q => by
    cases r
    exact ⟨rfl, q _ B (fun _ _ => rfl) rfl⟩
  | [], _ :: _, _, _, _, _, _, hl, _ => by cases hl
  | _ :: _, [], _, _, _, _, _, hl, _ => by cases hl
  | i :: is, x :: xs, _, _, _, B, r, hl, q => by
    cases r with
    | cons r1 r2 =>
      refine ⟨_, _, rfl, gIs_ok (is := is) (xs := xs) (B.set r1) r2 (by simpa using hl) fun σ' B' h1 h2 => ?_⟩
      refine q σ' B' (fun j hj => ?_) (by rw [h2, List.length_set])
      rw [h1 j fun z => hj (List.mem_cons_of_mem _ z)]
      exact List.getElem?_set_ne fun e => hj (by simp [e])
theorem g_tup {es : List Expr} {k : Nat} {is : List Nat} (hc : X.calm = true) (h : PGs X es (gIs is)) (hn : (assignEach es X.env).length = is.length) (hst : (assignEach es X.env).findIdx? (·.1) = none) : PG X (.Tuple es k pos) (gTg nm X.K en (.tup is)) :=
  ⟨fun pins s σ H v u Q I rv ⟨g, env, env', w, x, B, r, e, q⟩ => (pg_tup hc h hn hst).run pins s σ H v u Q I rv (by
    cases x with
    | tup xs =>
      have e2 : is.length = xs.length ∧ (is.zip xs).foldl (fun e p => e.set p.1 (.val p.2)) env = env' := by
        simp only [bindTg] at e
        split at e
        · rename_i hl
          cases e
          exact ⟨hl, rfl⟩
        · cases e
      obtain ⟨hl, rfl⟩ := e2
      cases r with
      | tup h1 h2 => exact ⟨_, _, rfl, h1, by rw [← h2.length]; exact hl.symm, gIs_ok B h2 hl q⟩
    | _ => simp [bindTg] at e)⟩

/-! ### [elt for target in iter if cond] -/
/-- the names of a comprehension's own, forgotten -/
def wipeE (env : Env) : List Nat → Env
  | [] => env
  | v :: vs => (wipeE env vs).set v .none
theorem BR.wipe {K : PySem.W.Frag} {g : Gh} {env : Env} {w : Wd} {σ : L2.St} {H : Hp} (B : BR nm K en g env w σ H) : ∀ vs : List Nat, BR nm K en g (wipeE env vs) w (L2.wipe σ vs) H
  | [] => B
  | i :: vs => by
    have B := BR.wipe B vs
    unfold wipeE L2.wipe
    generalize wipeE env vs = env at B
    generalize L2.wipe σ vs = σ at B
    have key : ∀ {j : Nat} {s : Slot}, (env.set i .none)[j]? = some s → s ≠ .none → i ≠ j ∧ env[j]? = some s := fun {j s} h hs => by
      by_cases hj : i = j
      · subst hj
        by_cases hl : i < env.length
        · rw [List.getElem?_set_self hl] at h
          cases h
          exact absurd rfl hs
        · rw [List.getElem?_eq_none (by rw [List.length_set]; omega)] at h
          cases h
      · rw [List.getElem?_set_ne hj] at h
        exact ⟨hj, h⟩
    refine ⟨B.wr, B.ext, by rw [List.length_set, List.length_set]; exact B.len, fun j y h => ?_, fun j o h => ?_, fun j k o p a h1 h2 h3 h4 => ?_⟩
    · obtain ⟨n, h⟩ := key h (by simp)
      rw [List.getElem?_set_ne n]
      exact B.val j y h
    · obtain ⟨n, h⟩ := key h (by simp)
      rw [List.getElem?_set_ne n]
      exact B.own j o h
    · obtain ⟨n1, h1⟩ := key h1 (by simp)
      obtain ⟨n2, h2⟩ := key h2 (by simp)
      rw [List.getElem?_set_ne n1] at h3
      rw [List.getElem?_set_ne n2] at h4
      exact B.dis j k o p a h1 h2 h3 h4
theorem bind_wipe1 {env : Env} {i : Nat} {s : Slot} : ∀ vs : List Nat, i ∈ vs → True := fun _ _ => trivial
/-- a target's binding does not lean on what its names held -/
theorem foldl_wipe : ∀ (ps : List (Nat × D)) (env env2 : Env), env.length = env2.length → (∀ j, j ∉ ps.map (·.1) → env[j]? = env2[j]?) →
    ps.foldl (fun e p => e.set p.1 (.val p.2)) env = ps.foldl (fun e p => e.set p.1 (.val p.2)) env2
  | [], env, env2, _, h => List.ext_getElem? fun j => h j (by simp)
  | p :: ps, env, env2, hl, h => foldl_wipe ps _ _ (by rw [List.length_set, List.length_set]; exact hl) fun j hj => by
    by_cases e : p.1 = j
    · subst e
      by_cases hz : p.1 < env.length
      · rw [List.getElem?_set_self hz, List.getElem?_set_self (by omega)]
      · rw [List.getElem?_eq_none (by rw [List.length_set]; omega), List.getElem?_eq_none (by rw [List.length_set]; omega)]
    · rw [List.getElem?_set_ne e, List.getElem?_set_ne e]
      exact h j (by simp only [List.map_cons, List.mem_cons, not_or]; exact ⟨fun z => e z.symm, hj⟩)
theorem wipeE_len (env : Env) : ∀ vs : List Nat, (wipeE env vs).length = env.length
  | [] => rfl
  | v :: vs => by unfold wipeE; rw [List.length_set, wipeE_len env vs]
theorem wipeE_out (env : Env) {j : Nat} : ∀ {vs : List Nat}, j ∉ vs → (wipeE env vs)[j]? = env[j]?
  | [], _ => rfl
  | v :: vs, h => by
    unfold wipeE
    rw [List.getElem?_set_ne (fun e => h (by simp [e]))]
    exact wipeE_out env fun z => h (List.mem_cons_of_mem _ z)
theorem bind_wipe {t : Tg} {x : D} {env : Env} : bindTg t x (wipeE env (tgSlots t)) = bindTg t x env := by
  cases t with
  | var i =>
    show some _ = some _
    congr 1
    unfold tgSlots wipeE wipeE
    exact List.set_set ..
  | tup is =>
    cases x with
    | tup xs =>
      simp only [bindTg, tgSlots]
      split
      · rename_i hl
        congr 1
        refine foldl_wipe _ _ _ (wipeE_len _ _) fun j hj => wipeE_out env fun z => hj ?_
        rw [List.map_fst_zip (by omega)]
        exact z
      · rfl
    | _ => rfl
theorem wipe_out (σ : L2.St) {j : Nat} : ∀ {vs : List Nat}, j ∉ vs → (L2.wipe σ vs)[j]? = σ[j]?
  | [], _ => rfl
  | v :: vs, h => by
    unfold L2.wipe
    rw [List.getElem?_set_ne (fun e => h (by simp [e]))]
    exact wipe_out σ fun z => h (List.mem_cons_of_mem _ z)
theorem wipe_in (σ : L2.St) {j : Nat} : ∀ {vs : List Nat}, j ∈ vs → j < σ.length → (L2.wipe σ vs)[j]? = some none
  | v :: vs, h, hl => by
    unfold L2.wipe
    by_cases e : v = j
    · subst e
      exact List.getElem?_set_self (by rw [L2.wipe_length]; exact hl)
    · rw [List.getElem?_set_ne e]
      exact wipe_in σ (by rcases List.mem_cons.mp h with z | z; exact absurd z.symm e; exact z) hl
theorem wipe_eq {σ σ' : L2.St} {vs : List Nat} (hl : σ'.length = σ.length) (h : ∀ i, i ∉ vs → σ'[i]? = σ[i]?) : L2.wipe σ' vs = L2.wipe σ vs := by
  refine List.ext_getElem? fun j => ?_
  by_cases hj : j ∈ vs
  · by_cases hz : j < σ.length
    · rw [wipe_in σ hj hz, wipe_in σ' hj (by rw [hl]; exact hz)]
    · rw [List.getElem?_eq_none (by rw [L2.wipe_length, hl]; omega), List.getElem?_eq_none (by rw [L2.wipe_length]; omega)]
  · rw [wipe_out σ hj, wipe_out σ' hj, h j hj]
theorem wipe_wipe (σ : L2.St) (vs : List Nat) : L2.wipe (L2.wipe σ vs) vs = L2.wipe σ vs := wipe_eq (L2.wipe_length σ vs) fun _ hi => wipe_out σ hi
/-- the new list grows -/
theorem Ext.grow {p : Addr} {o : HO} {K : PySem.W.Frag} {g g1 : Gh} {w : Wd} {H H1 : Hp} (e : Ext g g1 H H1) (n : H p = none) : Ext g g1 H (upd H1 p o) where
  keep := fun a u h hc => by rw [upd_ne (ne_of_none h n)]; exact e.keep a u h hc
  tup := fun a u h => by rw [upd_ne (ne_of_none h n)]; exact e.tup a u h
  frz := fun a u x h => by rw [upd_ne (ne_of_none h n)]; exact e.frz a u x h
  old := e.old
  new := e.new
  pre := e.pre
  newc := e.newc
  live := fun a u h => by rw [upd_ne (ne_of_none h n)]; exact e.live a u h
/-- an own object is written: data and cells stand -/
theorem Ext0.own {p : Addr} {o u : HO} {g : Gh} {H : Hp} (m : g.M p) (h : H p = some u) (ht : ∀ xs, u ≠ .tup xs) (hf : ∀ o v, u ≠ .frz o v) : Ext0 g g H (upd H p o) where
  keep := fun a v e n => by rw [upd_ne (show a ≠ p from fun z => n (by rw [z]; exact m))]; exact e
  tup := fun a xs e => by
    rw [upd_ne (fun z => by rw [z, h] at e; exact ht xs (Option.some.inj e))]
    exact e
  frz := fun a ob v e => by
    rw [upd_ne (fun z => by rw [z, h] at e; exact hf ob v (Option.some.inj e))]
    exact e
  new := fun _ h => .inl h
  pre := List.prefix_refl _
theorem WR.own {p : Addr} {o : HO} {K : PySem.W.Frag} {g : Gh} {H : Hp} {w : Wd} (W : WR nm K g w H) (e : Ext0 g g H (upd H p o)) (hc : p ∉ g.cm) : WR nm K g w (upd H p o) where
  cells := fun n ob h => by
    obtain ⟨a, h1, h2⟩ := W.cells n ob h
    have ne : a ≠ p := fun z => hc (z ▸ List.mem_of_getElem? h1)
    refine ⟨a, h1, ?_⟩
    cases h2 with
    | L h3 h4 => exact .L (by rw [upd_ne ne]; exact h3) (RepL.mono0 e _ _ h4)
    | O h3 l h4 => exact .O (by rw [upd_ne ne]; exact h3) l (RepL.mono0 e _ _ h4)
  len := W.len
  cmM := W.cmM
  nd := W.nd
  dom := fun a h => by
    by_cases z : a = p
    · exact ⟨o, by rw [z]; exact upd_same⟩
    · obtain ⟨v, e⟩ := W.dom a h
      exact ⟨v, by rw [upd_ne z]; exact e⟩
end
end MP

set_option maxRecDepth 100000
set_option maxHeartbeats 1000000
/-! MPL: list comprehensions. -/
namespace MP
open PySem PySem.Spec PyProof.Rows L2
def WF : WX := fun _ _ _ _ => False
section
variable {X : Cx} {nm : Nm} {en : En} {Wx : WX} {g g' g1 g2 : Gh} {H H' H1 H2 : Hp} {w w' w1 : Wd} {env : Env} {σ σ' : L2.St} {K : PySem.W.Frag}
theorem EG.noExc {α α' β β' : Type} {rel : Gh → Hp → α → β → Prop} {rel' : Gh → Hp → α' → β' → Prop} {r : Res α} {k : α → Wd → Res α'} {Q : β' → Hp → Prop} {Q1 : β → Hp → Prop} {g0 : Gh} {H0 : Hp} (h : EG nm K Wx σ rel' g0 H0 ((MP.noExc r).bind k) Q)
    (f : ∀ x w1 g1 H1 v, r = .ok x w1 → Ext g g1 H H1 → WR nm K g1 w1 H1 → rel g1 H1 x v → EG nm K Wx σ rel' g0 H0 (k x w1) Q → Q1 v H1) : EG nm K WF σ' rel g H r Q1 := by
  cases r with
  | ok x w1 => exact fun g1 H1 v e W rr => f x w1 g1 H1 v rfl e W rr h
  | exc c fs w1 => exact (show False from h).elim
  | bad => exact (show False from h).elim
/-- a list that no name owns is written -/
theorem BR.tmp {p : Addr} {vs us : List V} (B : BR nm K en g env w σ H) (m : g.M p) (hc : p ∉ g.cm) (h : H p = some (.lst vs)) (n : en.H0 p = none) (no : ∀ (i : Nat) (o : Ow), env[i]? = some (.own o) → σ[i]? ≠ some (some (.ref p))) : BR nm K en g env w σ (upd H p (.lst us)) where
  wr := B.wr.own (Ext0.own m h (by simp) (by simp)) hc
  ext := B.ext.grow (K := K) (w := w) n
  len := B.len
  val := fun i x e => by
    obtain ⟨v, h1, h2⟩ := B.val i x e
    exact ⟨v, h1, Rep.mono0 (Ext0.own m h (by simp) (by simp)) _ _ h2⟩
  own := fun i o e => by
    obtain ⟨a, h1, h2, h3, h4, h5⟩ := B.own i o e
    have ne : a ≠ p := fun z => no i o e (z ▸ h1)
    refine ⟨a, h1, ?_, h3, h4, h5⟩
    cases h2 with
    | L h6 h7 => exact .L (by rw [upd_ne ne]; exact h6) (RepL.mono0 (Ext0.own m h (by simp) (by simp)) _ _ h7)
    | O h6 l h7 => exact .O (by rw [upd_ne ne]; exact h6) l (RepL.mono0 (Ext0.own m h (by simp) (by simp)) _ _ h7)
  dis := B.dis
theorem none_back {a : Addr} (e : Ext g g' H H') (h : H' a = none) : H a = none := by
  cases q : H a with
  | none => rfl
  | some o =>
    obtain ⟨o', z⟩ := e.live a o q
    rw [h] at z
    cases z
theorem out_on {a : Addr} {o : HO} (e : Ext g g' H H') (h : H a = some o) (n : a ∉ g.cm) : a ∉ g'.cm := fun z => by
  rcases e.newc a z with z | z
  · exact n z
  · rw [h] at z
    cases z
theorem Res.bind_assoc {α β γ : Type} (r : Res α) (f : α → Wd → Res β) (k : β → Wd → Res γ) : (r.bind f).bind k = r.bind fun a w => (f a w).bind k := by
  cases r <;> rfl
/-- a turn's answer -/
def turnB (rcond : Env → Wd → Res Bool) (relt : Env → Wd → Res D) (env' : Env) (w : Wd) : Res (Option D) :=
  (noExc (rcond env' w)).bind fun b w => if b then (noExc (relt env' w)).bind fun y w => .ok (some y) w else .ok none w
def turnF (rcond : Env → Wd → Res Bool) (relt : Env → Wd → Res D) (t : Tg) (env : Env) : D → Wd → Res (Option D) := fun x w => match bindTg t x env with
  | some env' => turnB rcond relt env' w
  | none => .bad
/-- between two turns -/
def LcW (nm : Nm) (K : PySem.W.Frag) (en : En) (Wx : WX) (σ : L2.St) (env : Env) (f : D → Wd → Res (Option D)) (xs : List D) (g g1 : Gh) (H H1 : Hp) (D : Addr) (Q : VK) (i m : Nat) (H' : Hp) : Prop :=
  m = xs.length - i ∧ i ≤ xs.length ∧ ∃ g2 w2 ys vs, BR nm K en g2 env w2 σ H' ∧ Ext g g2 H H' ∧ Ext0 g1 g2 H1 H' ∧ H' D = some (.lst vs) ∧ RepL nm K g2 H' ys vs ∧ ys.length ≤ i ∧ g2.M D ∧ D ∉ g2.cm ∧
      EG nm K Wx σ (fun g' H' => RP nm K g' H H') g H ((compLoop f (xs.drop i) w2).bind fun zs w => .ok (.fl (.L (ys ++ zs))) w) Q
theorem comp_reads {own : List (Str × Nat)} {t : Tg} {ri : Env → Wd → Res (List D)} {rcond : Env → Wd → Res Bool} {relt : Env → Wd → Res D} (how : own.map (·.2) = tgSlots t) {σ : L2.St} {H : Hp} {Q : VK}
    (h : tR nm K en Wx (fun env w => (ri env w).bind fun xs w => if xs.length ≤ big then (compLoop (turnF rcond relt t env) xs w).bind fun ys w => .ok (.fl (.L ys)) w else .bad) σ H Q) :
    tLc (tI nm K en Wx ri) (gTg nm K en t) (tBl nm K en WF rcond) (tV nm K en WF relt) (own.map (·.2)) σ H Q := by
  obtain ⟨g, env, w, B, q⟩ := h
  rw [how]
  refine ⟨g, env, w, B, EG.bind q fun xs w1 g1 H1 J e1 E1 W1 Y q => ?_⟩
  intro D nD
  by_cases hz : xs.length ≤ big
  · rw [if_pos hz] at q
    have B1 := B.step E1 W1
    have n0 : H D = none := none_back E1 nD
    have nE : en.H0 D = none := none_back B.ext n0
    have no : ∀ (i : Nat) (o : Ow), env[i]? = some (.own o) → σ[i]? ≠ some (some (.ref D)) := fun i o e z => by
      obtain ⟨a, h1, h2, _⟩ := B1.own i o e
      rw [z] at h1
      cases h1
      obtain ⟨u, h3⟩ := h2.there
      rw [nD] at h3
      cases h3
    refine ⟨LcW nm K en Wx σ env (turnF rcond relt t env) xs g g1 H H1 D Q, ⟨xs.length, rfl, Nat.zero_le _, g1.with D, w1, [], [], B1.step (Ext.fl nD) (W1.fl nD), E1.trans (Ext.fl nD), (Ext.fl nD).to0 W1.cmM, upd_same, .nil, Nat.le_refl _, .inr rfl, W1.out nD, q⟩, ?_⟩
    rintro i m H2 ⟨rfl, hi, g2, w2, ys, vs, B2, E2, X2, hD, r2, hy, mD, cD, q⟩
    have W2 := B2.wr
    obtain ⟨yl, ys0⟩ := Y g2 H2 w2 X2 W2
    by_cases hlt : i < xs.length
    · have hx : xs[i]? = some xs[i] := List.getElem?_eq_getElem hlt
      obtain ⟨go, yld⟩ := yl i _ hx
      refine .inr ⟨go, LcW nm K en Wx σ env (turnF rcond relt t env) xs g g1 H H1 D Q (i + 1) (xs.length - (i + 1)), fun H' h' => ⟨_, by omega, h'⟩, fun v H3 hy3 => ?_⟩
      obtain ⟨g3, E3, W3, R3⟩ := yld v H3 hy3
      have ed : xs.drop i = xs[i] :: xs.drop (i + 1) := List.drop_eq_getElem_cons hlt
      rw [ed] at q
      have B3 := B2.step E3 W3
      have q : EG nm K Wx σ (fun g' H' => RP nm K g' H H') g H (((turnF rcond relt t env xs[i] w2).bind fun y w => (compLoop (turnF rcond relt t env) (xs.drop (i + 1)) w).bind fun zs w => .ok (match y with
        | some y => y :: zs
        | none => zs) w).bind fun zs w => .ok (.fl (.L (ys ++ zs))) w) Q := q
      cases eb : bindTg t xs[i] env with
      | none =>
        have et : turnF rcond relt t env xs[i] w2 = .bad := by unfold turnF; rw [eb]
        rw [et] at q
        exact (show False from q).elim
      | some env' =>
        have et : turnF rcond relt t env xs[i] w2 = turnB rcond relt env' w2 := by
          show (match bindTg t xs[i] env with | some env' => turnB rcond relt env' w2 | none => .bad) = _
          rw [eb]
        rw [et] at q
        unfold turnB at q
        rw [Res.bind_assoc, Res.bind_assoc] at q
        refine ⟨g3, wipeE env (tgSlots t), env', w2, xs[i], B3.wipe _, R3, by rw [bind_wipe]; exact eb, fun σ' B4 hout hlen => ⟨?_, ?_⟩⟩
        · exact wipe_eq (by rw [hlen, L2.wipe_length]) fun j hj => by rw [hout j hj, wipe_out σ hj]
        · refine ⟨g3, env', w2, B4, EG.noExc q fun b w4 g4 H4 c er E4 W4 R4 q => ?_⟩
          subst R4
          cases b with
          | true =>
            rw [if_pos rfl, Res.bind_assoc] at q
            refine ⟨g4, env', w4, B4.step E4 W4, EG.noExc q fun y w5 g5 H5 v5 er2 E5 W5 R5 q => ?_⟩
            have q : EG nm K Wx σ (fun g' H' => RP nm K g' H H') g H (((compLoop (turnF rcond relt t env) (xs.drop (i + 1)) w5).bind fun zs w => .ok (y :: zs) w).bind fun zs w => .ok (.fl (.L (ys ++ zs))) w) Q := q
            rw [Res.bind_assoc] at q
            have E := (E3.trans E4).trans E5
            have h5 : H5 D = some (.lst vs) := E.keep D _ hD cD
            have c5 : D ∉ g5.cm := out_on E hD cD
            have m5 : g5.M D := E.old D mD
            have O := Ext0.own (o := .lst (vs ++ [v5])) m5 h5 (by simp) (by simp)
            refine ⟨vs, h5, ?_, rfl, hlt, g5, w5, ys ++ [y], vs ++ [v5], (B2.step E W5).tmp m5 c5 h5 nE no, (E2.trans E).grow (K := K) (w := w5) n0, (X2.trans (E.to0 W2.cmM)).trans O, upd_same, ?_, ?_, m5, c5, ?_⟩
            · have e1 := r2.length
              have e2 := big_le
              omega
            · exact (RepL.mono0 O _ _ ((RepL.mono E W2.cmM _ _ r2).append (.cons R5 .nil)))
            · simp; omega
            · have e : (fun (zs : List MP.D) (w : Wd) => (Res.ok (RV.fl (Ow.L ((ys ++ [y]) ++ zs))) w : Res RV)) = fun zs w => (Res.ok (y :: zs) w).bind fun zs w => .ok (.fl (.L (ys ++ zs))) w := by
                funext zs w
                show Res.ok (RV.fl (Ow.L ((ys ++ [y]) ++ zs))) w = Res.ok (RV.fl (Ow.L (ys ++ (y :: zs)))) w
                rw [List.append_assoc]
                rfl
              rw [e]
              exact q
          | false =>
            have q : EG nm K Wx σ (fun g' H' => RP nm K g' H H') g H (((compLoop (turnF rcond relt t env) (xs.drop (i + 1)) w4).bind fun zs w => .ok zs w).bind fun zs w => .ok (.fl (.L (ys ++ zs))) w) Q := q
            rw [Res.bind_assoc] at q
            have E := E3.trans E4
            exact ⟨rfl, hlt, g4, w4, ys, vs, B2.step E W4, E2.trans E, X2.trans (E.to0 W2.cmM), E.keep D _ hD cD, RepL.mono E W2.cmM _ _ r2, by omega, E.old D mD, out_on E hD cD, q⟩
    · have e : i = xs.length := by omega
      subst e
      rw [List.drop_length] at q
      have q : EG nm K Wx σ (fun g' H' => RP nm K g' H H') g H (.ok (.fl (.L (ys ++ []))) w2) Q := q
      rw [List.append_nil] at q
      exact .inl ⟨ys0, q g2 H2 (.ref D) E2 W2 ⟨⟨D, rfl, .L hD r2, cD⟩, fun o e a ea => by
        cases ea
        exact ⟨n0, mD⟩⟩⟩
  · rw [if_neg hz] at q
    exact (show False from q).elim
theorem v_comp {elt tg iter : Expr} {ifs : List Expr} {scope : Scope} {own : List (Str × Nat)} {pos : Pos} {t : Tg} {ri : Env → Wd → Res (List D)} {rcond : Env → Wd → Res Bool} {relt : Env → Wd → Res D}
    (hc : X.calm = true) (hN : X.N.Nodup) (hi : PI X tg iter (tI nm X.K en Wx ri)) (ok : BlkOk X.N X.env.scope scope own) (how : own.map (·.2) = tgSlots t)
    (hg : ∀ (s : Shared) (H : Hp) (C : Addr) (cl : List (Str × Addr)) (fp : List Addr), PG (X.blk s H scope (compEnvC scope cl C X.env) fp) tg (gTg nm X.K en t))
    (ht : ∀ (s : Shared) (H : Hp) (C : Addr) (cl : List (Str × Addr)) (fp : List Addr), PTs (X.blk s H scope (compEnvC scope cl C X.env) fp) ifs (tBl nm X.K en WF rcond))
    (he : ∀ (s : Shared) (H : Hp) (C : Addr) (cl : List (Str × Addr)) (fp : List Addr), PE (X.blk s H scope (compEnvC scope cl C X.env) fp) elt (tV nm X.K en WF relt))
    (hs : ∀ x, foldedSetIterable iter X.env x = pure x) :
    PE X (.ListComp elt [⟨tg, iter, ifs, 0⟩] scope pos) (tR nm X.K en Wx fun env w => (ri env w).bind fun xs w => if xs.length ≤ big then (compLoop (turnF rcond relt t env) xs w).bind fun ys w => .ok (.fl (.L ys)) w else .bad) :=
  (pe_lc hc hN hi ok hg ht he hs).imp fun σ H Q h => comp_reads how h
end
end MP

set_option maxRecDepth 100000
set_option maxHeartbeats 1000000
/-! MPS: statements. -/
namespace MP
open PySem PySem.Spec PyProof.Rows L2
section
variable (nm : Nm) (K : PySem.W.Frag)
def SG (en : En) (Wx : WX) (g : Gh) (H : Hp) (r : SR) (D : Ends) : Prop := match r with
  | .next env' w' => ∀ g' σ' H', BR nm K en g' env' w' σ' H' → Ext0 g g' H H' → D.nx σ' H'
  | .ret rv w' => ∀ g' H' v, Ext en.g0 g' en.H0 H' → WR nm K g' w' H' → RP nm K g' en.H0 H' rv v → D.rt v H'
  | .brk env' w' => ∀ g' σ' H', BR nm K en g' env' w' σ' H' → Ext0 g g' H H' → D.bk σ' H'
  | .cont env' w' => ∀ g' σ' H', BR nm K en g' env' w' σ' H' → Ext0 g g' H H' → D.ct σ' H'
  | .exc c fs env' w' => ∀ g' σ' H' d, BR nm K en g' env' w' σ' H' → ExR nm K g' H' c fs d → Wx (.ref (addr nm K c)) d σ' H'
  | .bad => False
def tS (en : En) (Wx : WX) (r : Env → Wd → SR) : TS := fun D σ H => ∃ g env w, BR nm K en g env w σ H ∧ SG nm K en Wx g H (r env w) D
end
section
variable {X : Cx} {nm : Nm} {en : En} {Wx : WX} {g g' g1 g2 : Gh} {H H' H1 H2 : Hp} {w w' w1 : Wd} {env env' : Env} {σ σ' : L2.St} {K : PySem.W.Frag} {st : Stmt} {sts : List Stmt} {rs rr : Env → Wd → SR} {ra rb : Env → Wd → Res RV} {rA : Env → Wd → Res Bool} {a b e : Expr} {pos : Pos}
theorem _root_.L2.PS.imp {t t' : TS} (h : PS X st t) (k : ∀ D σ H, t' D σ H → t D σ H) : PS X st t' := ⟨fun pins s σ H D I q => h.run pins s σ H D I (k D σ H q)⟩
theorem _root_.L2.PSs.imp {t t' : TS} (h : PSs X sts t) (k : ∀ D σ H, t' D σ H → t D σ H) : PSs X sts t' := ⟨fun pins s σ H D I q => h.run pins s σ H D I (k D σ H q)⟩
theorem SG.start {r : SR} {D : Ends} (e : Ext0 g g1 H H1) (h : SG nm K en Wx g H r D) : SG nm K en Wx g1 H1 r D := by
  cases r with
  | next env' w' => exact fun g' σ' H' B e' => h g' σ' H' B (e.trans e')
  | ret rv w' => exact h
  | brk env' w' => exact fun g' σ' H' B e' => h g' σ' H' B (e.trans e')
  | cont env' w' => exact fun g' σ' H' B e' => h g' σ' H' B (e.trans e')
  | exc c fs env' w' => exact h
  | bad => exact h
/-- an expression, then the rest -/
theorem SG.bind {α β : Type} {rel : Gh → Hp → α → β → Prop} {r : Res α} {k : α → Wd → SR} {D : Ends} {Q1 : β → Hp → Prop} (B : BR nm K en g env w σ H) (h : SG nm K en Wx g H (onOk env r k) D)
    (f : ∀ x w1 g1 H1 v, r = .ok x w1 → Ext g g1 H H1 → WR nm K g1 w1 H1 → rel g1 H1 x v → SG nm K en Wx g H (k x w1) D → Q1 v H1) : EG nm K Wx σ rel g H r Q1 := by
  cases r with
  | ok x w1 => exact fun g1 H1 v e W rr => f x w1 g1 H1 v rfl e W rr h
  | exc c fs w1 => exact fun g' H' d e W x => h g' σ H' d (B.step e W) x
  | bad => exact h
/-- .. where a value is kept as data -/
theorem SG.bindD {r : Res RV} {k : D → Wd → SR} {D : Ends} {Q1 : V → Hp → Prop} (B : BR nm K en g env w σ H) (h : SG nm K en Wx g H (onOk env (asD r) k) D)
    (f : ∀ x w1 g1 H1 v, Ext g g1 H H1 → WR nm K g1 w1 H1 → Rep nm K g1 H1 x v → SG nm K en Wx g H (k x w1) D → Q1 v H1) : EG nm K Wx σ (fun g' H' => RP nm K g' H H') g H r Q1 :=
  EG.asD B.wr (SG.bind B h fun x w1 g1 H1 v _ E W R q => f x w1 g1 H1 v E W R q)
theorem SG.bindI {r : Res RV} {k : Int → Wd → SR} {D : Ends} {Q1 : V → Hp → Prop} (B : BR nm K en g env w σ H) (h : SG nm K en Wx g H (onOk env (asI r) k) D)
    (f : ∀ i w1 g1 H1, Ext g g1 H H1 → WR nm K g1 w1 H1 → SG nm K en Wx g H (k i w1) D → Q1 (.int i) H1) : EG nm K Wx σ (fun g' H' => RP nm K g' H H') g H r Q1 := by
  have q3 := EG.asI (Q := fun i H1 => Q1 (.int i) H1) (r := r) (SG.bind B h fun i w1 g1 H1 v e1 E1 W1 R1 q1 => by
    subst R1
    exact f i w1 g1 H1 E1 W1 q1)
  cases r with
  | ok x w1 =>
    intro g' H' v E W Rr
    obtain ⟨k, rfl, z⟩ := q3 g' H' v E W Rr
    exact z
  | exc c fs w1 => exact q3
  | bad => exact q3

/-! ### small statements -/
theorem s_pass : PS X (.Pass pos) (tS nm X.K en Wx fun env w => .next env w) := ps_pass.imp fun D σ H ⟨g, env, w, B, q⟩ => q g σ H B Ext0.refl
theorem s_break : PS X (.Break pos) (tS nm X.K en Wx fun env w => .brk env w) := ps_break.imp fun D σ H ⟨g, env, w, B, q⟩ => q g σ H B Ext0.refl
theorem s_continue : PS X (.Continue pos) (tS nm X.K en Wx fun env w => .cont env w) := ps_continue.imp fun D σ H ⟨g, env, w, B, q⟩ => q g σ H B Ext0.refl
theorem s_doc {x : Str} {j : Nat} {pos' : Pos} : PS X (.Expr (.Constant (.str x) j pos) pos') (tS nm X.K en Wx fun env w => .next env w) := ps_doc.imp fun D σ H ⟨g, env, w, B, q⟩ => q g σ H B Ext0.refl
theorem s_expr (h : PE X e (tR nm X.K en Wx ra)) (hs : swapsWith e none pos.line X.env = pure false) : PS X (.Expr e pos) (tS nm X.K en Wx fun env w => onOk env (ra env w) fun _ w => .next env w) :=
  (ps_expr h hs).imp fun D σ H ⟨g, env, w, B, q⟩ => ⟨g, env, w, B, SG.bind B q fun x w1 g1 H1 v e1 E1 W1 R1 q => q g1 σ H1 (B.step E1 W1) (E1.to0 B.wr.cmM)⟩
theorem BR.setOwn {i : Nat} {o : Ow} {p : Addr} (B : BR nm K en g env w σ H) (r : OwR nm K g H o p) (m : g.M p) (c : p ∉ g.cm) (n : en.H0 p = none) (no : ∀ (i : Nat) (o : Ow), env[i]? = some (.own o) → σ[i]? ≠ some (some (.ref p))) :
    BR nm K en g (env.set i (.own o)) w (σ.set i (some (.ref p))) H where
  wr := B.wr
  ext := B.ext
  len := by rw [List.length_set, List.length_set]; exact B.len
  val := fun j y h => by
    by_cases hj : i = j
    · subst hj
      by_cases hl : i < env.length
      · rw [List.getElem?_set_self hl] at h
        cases h
      · rw [List.getElem?_eq_none (by rw [List.length_set]; omega)] at h
        cases h
    · rw [List.getElem?_set_ne hj] at h ⊢
      exact B.val j y h
  own := fun j o' h => by
    by_cases hj : i = j
    · subst hj
      by_cases hl : i < env.length
      · rw [List.getElem?_set_self hl] at h
        cases h
        exact ⟨p, List.getElem?_set_self (by rw [← B.len]; exact hl), r, m, c, n⟩
      · rw [List.getElem?_eq_none (by rw [List.length_set]; omega)] at h
        cases h
    · rw [List.getElem?_set_ne hj] at h ⊢
      exact B.own j o' h
  dis := fun j k o1 o2 a h1 h2 h3 h4 => by
    by_cases n1 : i = j
    · by_cases n2 : i = k
      · exact n1.symm.trans n2
      · subst n1
        rw [List.getElem?_set_ne n2] at h2 h4
        by_cases hl : i < σ.length
        · rw [List.getElem?_set_self hl] at h3
          cases h3
          exact absurd h4 (no k o2 h2)
        · rw [List.getElem?_eq_none (by rw [List.length_set]; omega)] at h3
          cases h3
    · rw [List.getElem?_set_ne n1] at h1 h3
      by_cases n2 : i = k
      · subst n2
        by_cases hl : i < σ.length
        · rw [List.getElem?_set_self hl] at h4
          cases h4
          exact absurd h3 (no j o1 h1)
        · rw [List.getElem?_eq_none (by rw [List.length_set]; omega)] at h4
          cases h4
      · rw [List.getElem?_set_ne n2] at h2 h4
        exact B.dis j k o1 o2 a h1 h2 h3 h4
theorem BR.fresh {p : Addr} (B : BR nm K en g env w σ H) (n : H p = none) : ∀ (i : Nat) (o : Ow), env[i]? = some (.own o) → σ[i]? ≠ some (some (.ref p)) := fun i o e z => by
  obtain ⟨a, h1, h2, _⟩ := B.own i o e
  rw [z] at h1
  cases h1
  obtain ⟨u, h3⟩ := h2.there
  rw [n] at h3
  cases h3
/-- name = e, by its plain reading -/
theorem s_set {i : Nat} (h : PS X st (tAsg (tR nm X.K en Wx ra) (gName i))) : PS X st (tS nm X.K en Wx fun env w => onOk env (ra env w) fun r w => match slotOf r with
    | some s => .next (env.set i s) w
    | none => .bad) :=
  h.imp fun D σ H ⟨g, env, w, B, q⟩ => ⟨g, env, w, B, SG.bind B q fun x w1 g1 H1 v e1 E1 W1 R1 q => by
    cases x with
    | d y => exact q g1 _ H1 ((B.step E1 W1).set R1.1) (E1.to0 B.wr.cmM)
    | bor o => exact q.elim
    | fl o =>
      obtain ⟨⟨p, rfl, h1, h2⟩, h3⟩ := R1
      obtain ⟨h4, h5⟩ := h3 o rfl p rfl
      exact q g1 _ H1 ((B.step E1 W1).setOwn h1 h5 h2 (none_back B.ext h4) (B.fresh h4)) (E1.to0 B.wr.cmM)⟩
theorem s_ret (h : PE X e (tR nm X.K en Wx ra)) : PS X (.Return (some e) pos) (tS nm X.K en Wx fun env w => onOk env (ra env w) fun r w => match r with
    | .bor _ => .bad
    | r => .ret r w) :=
  (ps_ret h).imp fun D σ H ⟨g, env, w, B, q⟩ => ⟨g, env, w, B, SG.bind B q fun x w1 g1 H1 v e1 E1 W1 R1 q => by
    cases x with
    | d y => exact q g1 H1 v (B.ext.trans E1) W1 (RP.start B.ext R1)
    | bor o => exact q.elim
    | fl o => exact q g1 H1 v (B.ext.trans E1) W1 (RP.start B.ext R1)⟩
theorem s_retN : PS X (.Return none pos) (tS nm X.K en Wx fun env w => .ret (.d .non) w) := ps_retN.imp fun D σ H ⟨g, env, w, B, q⟩ => q g H _ B.ext B.wr (RP.d .non)
theorem s_retv {i : Nat} (h : PE X e (tVar i)) : PS X (.Return (some e) pos) (tS nm X.K en Wx fun env w => match env[i]? with
    | some (.own o) => .ret (.fl o) w
    | some (.val x) => .ret (.d x) w
    | _ => .bad) :=
  (ps_ret h).imp fun D σ H ⟨g, env, w, B, q⟩ => by
    dsimp only at q
    split at q
    · rename_i o eo
      obtain ⟨a, h1, h2, h3, h4, h5⟩ := B.own i o eo
      refine ⟨_, h1, q g H _ B.ext B.wr ⟨⟨a, rfl, h2, h4⟩, fun o e b eb => ?_⟩⟩
      cases eb
      exact ⟨h5, h3⟩
    · rename_i x ex
      obtain ⟨v, h1, h2⟩ := B.val i x ex
      exact ⟨v, h1, q g H v B.ext B.wr (RP.d h2)⟩
    · exact q.elim
/-! ### blocks -/
theorem ss_nil : PSs X [] (tS nm X.K en Wx fun env w => .next env w) := pss_nil.imp fun D σ H ⟨g, env, w, B, q⟩ => q g σ H B Ext0.refl
theorem ss_cons (h : PS X st (tS nm X.K en Wx rs)) (h2 : PSs X sts (tS nm X.K en Wx rr)) : PSs X (st :: sts) (tS nm X.K en Wx fun env w => match rs env w with
    | .next env w => rr env w
    | x => x) :=
  (pss_cons h h2).imp fun D σ H ⟨g, env, w, B, q⟩ => ⟨g, env, w, B, by
    dsimp only at q
    cases e : rs env w with
    | next env' w' =>
      rw [e] at q
      exact fun g' σ' H' B' E => ⟨g', env', w', B', q.start E⟩
    | ret rv w' => rw [e] at q; exact q
    | brk env' w' => rw [e] at q; exact q
    | cont env' w' => rw [e] at q; exact q
    | exc c fs env' w' => rw [e] at q; exact q
    | bad => rw [e] at q; exact q⟩
/-- a name's list goes out of its hand: nothing happens -/
theorem ss_frz {i : Nat} (h2 : PSs X sts (tS nm X.K en Wx rr)) : PSs X sts (tS nm X.K en Wx fun env w => match (match env[i]? with
      | some (.own (.L xs)) => .next (env.set i (.val (.lst xs))) w
      | some (.own (.O c fs)) => .next (env.set i (.val (.obj c fs))) w
      | _ => .next env w : SR) with
    | .next env w => rr env w
    | x => x) :=
  h2.imp fun D σ H ⟨g, env, w, B, q⟩ => by
    have go : ∀ {o : Ow} {y : MP.D} {p : Addr}, env[i]? = some (.own o) → σ[i]? = some (some (.ref p)) → p ∉ g.cm → Rep nm X.K (g.less p) H y (.ref p) → en.H0 p = none → BR nm X.K en (g.less p) (env.set i (.val y)) w σ H := by
      intro o y p eo ep hc r n
      have keyv : ∀ {j : Nat} {s : Slot}, (env.set i (.val y))[j]? = some s → (i = j ∧ s = .val y) ∨ (i ≠ j ∧ env[j]? = some s) := fun {j s} h => by
        by_cases hj : i = j
        · subst hj
          rw [List.getElem?_set_self (List.getElem?_eq_some_iff.mp eo).1] at h
          cases h
          exact .inl ⟨rfl, rfl⟩
        · rw [List.getElem?_set_ne hj] at h
          exact .inr ⟨hj, h⟩
      refine ⟨B.wr.less hc, ⟨B.ext.keep, B.ext.tup, B.ext.frz, fun a h => ⟨B.ext.old a h, fun z => ?_⟩, fun a h => B.ext.new a h.1, B.ext.pre, B.ext.newc, B.ext.live⟩, by rw [List.length_set]; exact B.len, fun j z h => ?_, fun j o' h => ?_, fun j k o1 o2 a h1 h2 h3 h4 => ?_⟩
      · subst z
        exact en.dom' _ h n
      · rcases keyv h with ⟨ej, h⟩ | ⟨_, h⟩
        · cases h
          subst ej
          exact ⟨_, ep, r⟩
        · obtain ⟨v, h1, h2⟩ := B.val j z h
          exact ⟨v, h1, Rep.mono0 Ext0.less _ _ h2⟩
      · rcases keyv h with ⟨_, h⟩ | ⟨nj, h⟩
        · cases h
        · obtain ⟨a, h1, h2, h3, h4, h5⟩ := B.own j o' h
          refine ⟨a, h1, ?_, ⟨h3, fun z => ?_⟩, h4, h5⟩
          · cases h2 with
            | L h6 h7 => exact .L h6 (RepL.mono0 Ext0.less _ _ h7)
            | O h6 l h7 => exact .O h6 l (RepL.mono0 Ext0.less _ _ h7)
          · subst z
            exact nj (B.dis i j o o' a eo h ep h1)
      · rcases keyv h1 with ⟨_, h1⟩ | ⟨_, h1⟩
        · cases h1
        · rcases keyv h2 with ⟨_, h2⟩ | ⟨_, h2⟩
          · cases h2
          · exact B.dis j k o1 o2 a h1 h2 h3 h4
    dsimp only at q
    cases eo : env[i]? with
    | none => rw [eo] at q; exact ⟨g, env, w, B, q⟩
    | some s =>
      rw [eo] at q
      cases s with
      | none => exact ⟨g, env, w, B, q⟩
      | val x => exact ⟨g, env, w, B, q⟩
      | own o =>
        obtain ⟨a, h1, h2, h3, h4, h5⟩ := B.own i o eo
        cases h2 with
        | L h6 h7 => exact ⟨_, _, w, go eo h1 h4 (.lst (.inl ⟨h6, fun z => z.2 rfl⟩) (RepL.mono0 Ext0.less _ _ h7)) h5, q.start Ext0.less⟩
        | O h6 l h7 => exact ⟨_, _, w, go eo h1 h4 (.obj h6 (fun z => z.2 rfl) l (RepL.mono0 Ext0.less _ _ h7)) h5, q.start Ext0.less⟩

/-! ### if, for -/
theorem s_if {c : Expr} {xs ys : List Stmt} {r1 r2 : Env → Wd → SR} (hc : PT X c (tBl nm X.K en Wx rA)) (ha : PSs X xs (tS nm X.K en Wx r1)) (hb : PSs X ys (tS nm X.K en Wx r2)) :
    PS X (.If c xs ys pos) (tS nm X.K en Wx fun env w => onOk env (rA env w) fun t w => if t then r1 env w else r2 env w) :=
  (ps_if hc ha hb).imp fun D σ H ⟨g, env, w, B, q⟩ => ⟨g, env, w, B, SG.bind B q fun t w1 g1 H1 v e1 E1 W1 R1 q => by
    subst R1
    have q := q.start (E1.to0 B.wr.cmM)
    cases t with
    | true => exact ⟨g1, env, w1, B.step E1 W1, q⟩
    | false => exact ⟨g1, env, w1, B.step E1 W1, q⟩⟩
/-- between two turns of a for -/
def ForW (nm : Nm) (K : PySem.W.Frag) (en : En) (Wx : WX) (f : D → Env → Wd → SR) (xs : List D) (g1 : Gh) (H1 : Hp) (D : Ends) (i m : Nat) (σ : L2.St) (H : Hp) : Prop :=
  m = xs.length - i ∧ i ≤ xs.length ∧ ∃ g env w, BR nm K en g env w σ H ∧ Ext0 g1 g H1 H ∧ SG nm K en Wx g H (forLoop f (xs.drop i) env w) D
theorem s_for {tg iter : Expr} {body : List Stmt} {t : Tg} {ri : Env → Wd → Res (List D)} {rb : Env → Wd → SR} (hp : PassesOwn (model X.prog X.w) X.A X.env X.xe) (hc : X.calm = true) (hi : PI X tg iter (tI nm X.K en Wx ri)) (hg : PG X tg (gTg nm X.K en t)) (hb : PSs X body (tS nm X.K en Wx rb))
    (hs : ∀ x, foldedSetIterable iter X.env x = pure x) : PS X (.For tg iter body [] pos) (tS nm X.K en Wx fun env w => onOk env (ri env w) fun xs w => forLoop (fun x env w => match bindTg t x env with
      | some env => rb env w
      | none => .bad) xs env w) := by
  refine (ps_for hp hc hi hg hb hs).imp fun D σ H ⟨g, env, w, B, q⟩ => ⟨g, env, w, B, SG.bind B q fun xs w1 g1 H1 J e1 E1 W1 Y q => ?_⟩
  generalize hf : (fun x env w => match bindTg t x env with
      | some env => rb env w
      | none => SR.bad) = f at q
  refine ⟨ForW nm X.K en Wx f xs g1 H1 D, ⟨xs.length, rfl, Nat.zero_le _, g1, env, w1, B.step E1 W1, Ext0.refl, q.start (E1.to0 B.wr.cmM)⟩, ?_⟩
  rintro i m σ2 H2 ⟨rfl, hi, g2, env2, w2, B2, X2, q2⟩
  obtain ⟨yl, ys0⟩ := Y g2 H2 w2 X2 B2.wr
  by_cases hlt : i < xs.length
  · obtain ⟨go, yld⟩ := yl i _ (List.getElem?_eq_getElem hlt)
    refine .inr ⟨go, ForW nm X.K en Wx f xs g1 H1 D (i + 1) (xs.length - (i + 1)), fun σ' H' h' => ⟨_, by omega, h'⟩, fun v H3 hy => ?_⟩
    obtain ⟨g3, E3, W3, R3⟩ := yld v H3 hy
    have B3 := B2.step E3 W3
    rw [List.drop_eq_getElem_cons hlt] at q2
    have q2 : SG nm X.K en Wx g2 H2 (match f xs[i] env2 w2 with
      | .next env w => forLoop f (xs.drop (i + 1)) env w
      | .cont env w => forLoop f (xs.drop (i + 1)) env w
      | .brk env w => .next env w
      | r => r) D := q2
    have ef : f xs[i] env2 w2 = match bindTg t xs[i] env2 with
      | some env => rb env w2
      | none => SR.bad := by rw [← hf]
    rw [ef] at q2
    cases eb : bindTg t xs[i] env2 with
    | none =>
      rw [eb] at q2
      exact (show False from q2).elim
    | some env3 =>
      rw [eb] at q2
      dsimp only at q2
      refine ⟨g3, env2, env3, w2, xs[i], B3, R3, eb, fun σ' B4 _ _ => ⟨g3, env3, w2, B4, ?_⟩⟩
      have q2 := q2.start (E3.to0 B2.wr.cmM)
      have X3 := X2.trans (E3.to0 B2.wr.cmM)
      cases er : rb env3 w2 with
      | next env4 w4 => rw [er] at q2; exact fun g' σ' H' B' E' => ⟨rfl, hlt, g', env4, w4, B', X3.trans E', q2.start E'⟩
      | cont env4 w4 => rw [er] at q2; exact fun g' σ' H' B' E' => ⟨rfl, hlt, g', env4, w4, B', X3.trans E', q2.start E'⟩
      | brk env4 w4 => rw [er] at q2; exact q2
      | ret rv w4 => rw [er] at q2; exact q2
      | exc c fs env4 w4 => rw [er] at q2; exact q2
      | bad => rw [er] at q2; exact q2
  · have e : i = xs.length := by omega
    subst e
    rw [List.drop_length] at q2
    exact .inl ⟨ys0, q2 g2 σ2 H2 B2 Ext0.refl⟩

/-! ### name op= e -/
theorem s_aug {i : Nat} {x : Str} {op : Operator} {p : P2} {pos' : Pos} (hN : X.N.Nodup) (hi : X.N[i]? = some x) (hx : Loc X.env.scope x) (he : PE X e (tR nm X.K en Wx ra)) (ho : OpR X (inplaceOp op) (r2 nm X.K p)) (hf : X.fn x = true ∨ X.env.scope.names.lookup x = some .local) :
    PS X (.AugAssign (.Name x pos') op e pos) (tS nm X.K en Wx fun env w => match env[i]? with
      | some (.val x) => onOk env (ra env w) fun y w => match op2 p (.d x) y w with
        | some (.d z) => .next (env.set i (.val z)) w
        | _ => .bad
      | _ => .bad) :=
  (ps_aug (ti := fun x y H Q => r2 nm X.K p x y H Q) hN hi hx he (fun pins s σ H x y v u Q I rx ry h => ho pins s σ H x y v u Q I rx ry h) hf).imp fun D σ H ⟨g, env, w, B, q⟩ => by
    dsimp only at q
    split at q
    · rename_i y ey
      obtain ⟨v, h1, h2⟩ := B.val i y ey
      refine ⟨v, h1, g, env, w, B, SG.bind B q fun x2 w1 g1 H1 u e1 E1 W1 R1 q => ?_⟩
      split at q
      · rename_i z ez
        refine ⟨g1, w1, .d y, x2, .d z, W1, Rep.mono E1 B.wr.cmM _ _ h2, R1.1, ez, fun g' H' v' E W R => ?_⟩
        exact q g' _ H' (((B.step E1 W1).step E W).set R.1) ((E1.trans E).to0 B.wr.cmM)
      · exact q.elim
    · exact q.elim
end
end MP

set_option maxRecDepth 100000
set_option maxHeartbeats 1000000
/-! MPF: calls of the text's own defs; what is stored in lists. -/
namespace MP
open PySem PySem.Spec PyProof.Rows L2
/-- a def's promise: it answers as the evaluator's function r -/
def spF (nm : Nm) (K : PySem.W.Frag) (r : List D → Wd → Res RV) : Sp := fun vs H Q E => ∃ g w ds, WR nm K g w H ∧ RepL nm K g H ds vs ∧ EG nm K (fun c d _ H => E c d H) [] (fun g' H' => RP nm K g' H H') g H (r ds w) Q
section
variable {X : Cx} {nm : Nm} {en : En} {Wx : WX} {g g' g1 g2 : Gh} {H H' H1 H2 : Hp} {w w' w1 : Wd} {env env' : Env} {σ σ' : L2.St} {K : PySem.W.Frag} {rs : Env → Wd → Res (List D)} {ra rb : Env → Wd → Res RV} {a b e : Expr} {es : List Expr} {pos p : Pos} {k : Nat} {f : Addr} {r : List D → Wd → Res RV}
theorem run_fnS {sp : Sp} {pins : List (Addr × Obj)} {s : Shared} {Q : VK} {us : List Value} {vs : List V} (F : FnR X.prog X.w X.K X.mg X.base (L2.CX X.prog X.w) k f sp) (hr : Room k X.A) (tk : Takes X Wx) (I : L2.Inv X pins σ H s) (rv : Vals vs us) (h : sp vs H Q (fun c d H' => Wx c d σ H')) :
    codeAny (model X.prog X.w) X.A (.call (.ref f) ⟨us, []⟩) (fun r s' => match r with | .ok (.ret v) => EP X pins σ Q v s' | .ok _ => False | .error e => X.xe e s') s := by
  refine codeAny_mono (F X.A X.stack s H us vs Q _ hr I.env0 rv h) fun r s' hq => ?_
  cases r with
  | error e => exact tk e s' (XE.of_call I (fun _ _ _ z => z) hq)
  | ok fl =>
    cases fl with
    | ret u => exact I.after hq
    | next => exact False.elim hq
    | brk => exact False.elim hq
    | cont => exact False.elim hq
/-- the values are there: the callee's answer -/
theorem EG.callee {xs : List D} {vs : List V} {Q : VK} (W : WR nm K g w H) (rv : RepL nm K g H xs vs) (q : EG nm K Wx σ (fun g' H' => RP nm K g' H H') g H (r xs w) Q) : spF nm K r vs H Q (fun c d H' => Wx c d σ H') :=
  ⟨g, w, xs, W, rv, by
    cases e : r xs w with
    | ok x w1 => rw [e] at q; exact q
    | exc c fs w1 => rw [e] at q; exact q
    | bad => rw [e] at q; exact q⟩
def tCallS (sp : Sp) (Wx : WX) (t : TA) : TE := fun σ H Q => t σ H fun vs H1 => sp vs H1 Q (fun c d H' => Wx c d σ H')
theorem t_call {σ : L2.St} {H : Hp} {Q : VK} (h : tR nm K en Wx (fun env w => (rs env w).bind fun xs w => r xs w) σ H Q) : tCallS (spF nm K r) Wx (tLs nm K en Wx rs) σ H Q := by
  obtain ⟨g, env, w, B, q⟩ := h
  exact ⟨g, env, w, B, EG.bind q fun xs w1 g1 H1 vs e1 E1 W1 R1 q => EG.callee W1 R1 (q.start E1 fun _ _ _ _ z => RP.start E1 z)⟩
/-- f(e, ..) -/
theorem v_call {x : Str} (F : FnR X.prog X.w X.K X.mg X.base (L2.CX X.prog X.w) k f (spF nm X.K r)) (hr : Room k X.A) (tk : Takes X Wx) (hg : Gl X x) (hm : X.mg x = some (.ref f)) (hk : PySem.W.keepIn X.K (.ref f) = true) (ha : PA X (e :: es) (tLs nm X.K en Wx rs))
    (hdb : (x == ("__debug__" : Str)) = false) (he : starEach (e :: es) X.env = (false, eval e X.env) :: starEach es X.env) (hpl : (backTo pos (starEach es X.env)).any (·.1) = false) :
    PE X (.Call (.Name x p) (e :: es) [] pos) (tR nm X.K en Wx fun env w => (rs env w).bind fun xs w => r xs w) := by
  refine PE.imp (t := tCallS (spF nm X.K r) Wx (tLs nm X.K en Wx rs)) ⟨fun pins s σ H Q I h => ?_⟩ fun σ H Q h => t_call h
  refine wpAny_Call_Name_kw (ld_glob I hg hm ?_ hdb)
  refine PySem.W.callWith_K (h₀ := X.base) I.ok.mod.kin hk (thn (ha.run pos pins s σ H _ I h) fun us s1 ⟨vs, H1, I1, r, q⟩ => ⟨I1.kIn, ?_⟩) he hpl
  exact wpAny_call (run_fnS F hr tk I1 r q)
theorem v_call0 {x : Str} (F : FnR X.prog X.w X.K X.mg X.base (L2.CX X.prog X.w) k f (spF nm X.K r)) (hr : Room k X.A) (tk : Takes X Wx) (hg : Gl X x) (hm : X.mg x = some (.ref f)) (hk : PySem.W.keepIn X.K (.ref f) = true)
    (hdb : (x == ("__debug__" : Str)) = false) : PE X (.Call (.Name x p) [] [] pos) (tR nm X.K en Wx fun env w => r [] w) := by
  refine PE.imp (t := tCallS (spF nm X.K r) Wx (tLs nm X.K en Wx fun _ w => .ok [] w)) ⟨fun pins s σ H Q I h => ?_⟩ fun σ H Q h => t_call (r := r) (rs := fun _ w => .ok [] w) h
  refine wpAny_Call_Name_kw (ld_glob I hg hm ?_ hdb)
  refine PySem.W.callWith_K0 I.kIn hk ?_
  obtain ⟨g, env, w, B, q⟩ := h
  exact wpAny_call (run_fnS F hr tk I .nil (q g H [] Ext.refl B.wr .nil))

/-! ### a static method, called off its class -/
structure SMet (K : PySem.W.Frag) (C : Addr) (m : Str) (p f : Addr) : Prop where
  at_ : PySem.W.findCls K (.ref C) (.type "type") m = some (.get (.builtin "staticmethod.__get__") (.ref p) .none (.ref C))
  rc : ∃ rest, PySem.W.recIn K p "staticmethod" = some (.ref f :: rest)
theorem v_static {o : Expr} {C q : Addr} {m : Str} {apos : Pos} {pl : Sem Bool} (F : FnR X.prog X.w X.K X.mg X.base (L2.CX X.prog X.w) k f (spF nm X.K r)) (hr : Room k X.A) (tk : Takes X Wx) (ho : PE X o (tC (.ref C))) (rd : ClX.CRead X.K C (.type "type")) (sm : SMet X.K C m q f)
    (hk : PySem.W.keepIn X.K (.ref f) = true) (ha : PA X (e :: es) (tLs nm X.K en Wx rs)) (he : starEach (e :: es) X.env = (false, eval e X.env) :: starEach es X.env) (hpl : (backTo pos (starEach es X.env)).any (·.1) = false)
    (ht : eval (.Call (.Attribute o m apos) (e :: es) [] pos) X.env = (do
      let ov ← eval o X.env
      standAt apos.atName
      let (f, first) ← holding [ov] (getMethod ov m pl)
      callWith pos f first (backTo pos (starEach (e :: es) X.env)) (backToKw pos (keywordEach [] X.env)))) :
    PE X (.Call (.Attribute o m apos) (e :: es) [] pos) (tR nm X.K en Wx fun env w => (rs env w).bind fun xs w => r xs w) := by
  refine PE.imp (t := tCallS (spF nm X.K r) Wx (tLs nm X.K en Wx rs)) ⟨fun pins s σ H Q I h => ?_⟩ fun σ H Q h => t_call h
  refine PySem.W.methodCall_KW (pl := pl) (thn (ho.run pins s σ H (fun v H1 => v = .ref C ∧ H1 = H) I ⟨rfl, rfl⟩) fun u s1 ⟨x, H1, I1, rx, ex, eh⟩ => ?_) ht
  subst ex eh
  obtain rfl : u = Value.ref C := rx
  refine PySem.W.method_cls I1.kIn rd.ga ?_
  obtain ⟨rest, hp⟩ := sm.rc
  refine PySem.W.cls_bind I1.kIn rd.rd sm.at_ ?_
  refine wpAny_call (PySem.W.sm_get (s := { s1 with toks := s1.toks + 1 }) I1.kIn hp (PySem.W.handed_on rfl ?_))
  have I2 := I1.tok (s1.toks + 1)
  refine PySem.W.callWith_K (h₀ := X.base) I.ok.mod.kin hk (thn (ha.run pos pins _ σ H1 _ I2 h) fun us s1 ⟨vs, H1, I1, r, q⟩ => ⟨I1.kIn, ?_⟩) he hpl
  exact wpAny_call (run_fnS F hr tk I1 r q)

/-! ### what a name, or a cell, holds is changed -/
theorem BR.wown {i : Nat} {o o' : Ow} {q : Addr} {u u' : HO} (B : BR nm K en g env w σ H) (eo : env[i]? = some (.own o)) (es : σ[i]? = some (some (.ref q))) (hu : H q = some u) (m : g.M q) (hc : q ∉ g.cm) (n : en.H0 q = none) (ht : ∀ xs, u ≠ .tup xs) (hf : ∀ o v, u ≠ .frz o v)
    (r : OwR nm K g (upd H q u') o' q) : BR nm K en g (env.set i (.own o')) w σ (upd H q u') ∧ Ext0 g g H (upd H q u') := by
  have O := Ext0.own (o := u') m hu ht hf
  have W := B.wr.own O hc
  have key : ∀ {j : Nat} {s : Slot}, (env.set i (.own o'))[j]? = some s → (i = j ∧ s = .own o') ∨ (i ≠ j ∧ env[j]? = some s) := fun {j s} h => by
    by_cases hj : i = j
    · subst hj
      rw [List.getElem?_set_self (List.getElem?_eq_some_iff.mp eo).1] at h
      cases h
      exact .inl ⟨rfl, rfl⟩
    · rw [List.getElem?_set_ne hj] at h
      exact .inr ⟨hj, h⟩
  refine ⟨⟨W, B.ext.grow (K := K) (w := w) n, by rw [List.length_set]; exact B.len, fun j x h => ?_, fun j o2 h => ?_, fun j k o1 o2 a h1 h2 h3 h4 => ?_⟩, O⟩
  · rcases key h with ⟨_, h⟩ | ⟨_, h⟩
    · cases h
    · obtain ⟨v, h1, h2⟩ := B.val j x h
      exact ⟨v, h1, Rep.mono0 O _ _ h2⟩
  · rcases key h with ⟨ej, h⟩ | ⟨nj, h⟩
    · cases h
      subst ej
      exact ⟨q, es, r, m, hc, n⟩
    · obtain ⟨a, h1, h2, h3, h4, h5⟩ := B.own j o2 h
      have ne : a ≠ q := fun z => by
        subst z
        exact nj (B.dis i j o o2 a eo h es h1)
      refine ⟨a, h1, ?_, h3, h4, h5⟩
      cases h2 with
      | L h6 h7 => exact .L (by rw [upd_ne ne]; exact h6) (RepL.mono0 O _ _ h7)
      | O h6 l h7 => exact .O (by rw [upd_ne ne]; exact h6) l (RepL.mono0 O _ _ h7)
  · rcases key h1 with ⟨e1, _⟩ | ⟨n1, h1'⟩
    · rcases key h2 with ⟨e2, _⟩ | ⟨n2, h2'⟩
      · exact e1.symm.trans e2
      · subst e1
        exact B.dis i k o o2 a eo h2' h3 h4
    · rcases key h2 with ⟨e2, _⟩ | ⟨n2, h2'⟩
      · subst e2
        exact B.dis j i o1 o a h1' eo h3 h4
      · exact B.dis j k o1 o2 a h1' h2' h3 h4
theorem nodup_at {l : List Addr} (hn : l.Nodup) {i j : Nat} {x : Addr} (a : l[i]? = some x) (b : l[j]? = some x) : i = j := by
  obtain ⟨h1, e1⟩ := List.getElem?_eq_some_iff.mp a
  obtain ⟨h2, e2⟩ := List.getElem?_eq_some_iff.mp b
  exact (List.getElem_inj hn).mp (e1.trans e2.symm)
theorem BR.wcell {i : Nat} {o' : Ow} {q : Addr} {u u' : HO} (B : BR nm K en g env w σ H) (ec : g.cm[i]? = some q) (hu : H q = some u) (ht : ∀ xs, u ≠ .tup xs) (hf : ∀ o v, u ≠ .frz o v)
    (r : OwR nm K g (upd H q u') o' q) : BR nm K en g env (w.set i o') σ (upd H q u') ∧ Ext0 g g H (upd H q u') := by
  have m : g.M q := B.wr.cmM q (List.mem_of_getElem? ec)
  have O := Ext0.own (o := u') m hu ht hf
  refine ⟨⟨⟨fun n ob h => ?_, by rw [List.length_set]; exact B.wr.len, B.wr.cmM, B.wr.nd, fun a h => ?_⟩, ?_, B.len, fun j x h => ?_, fun j o2 h => ?_, B.dis⟩, O⟩
  · by_cases hn : i = n
    · subst hn
      have hl : i < w.length := by rw [← B.wr.len]; exact (List.getElem?_eq_some_iff.mp ec).1
      rw [List.getElem?_set_self hl] at h
      cases h
      exact ⟨q, ec, r⟩
    · rw [List.getElem?_set_ne hn] at h
      obtain ⟨a, h1, h2⟩ := B.wr.cells n ob h
      have ne : a ≠ q := fun z => hn (nodup_at B.wr.nd ec (z ▸ h1))
      refine ⟨a, h1, ?_⟩
      cases h2 with
      | L h6 h7 => exact .L (by rw [upd_ne ne]; exact h6) (RepL.mono0 O _ _ h7)
      | O h6 l h7 => exact .O (by rw [upd_ne ne]; exact h6) l (RepL.mono0 O _ _ h7)
  · by_cases z : a = q
    · exact ⟨u', by rw [z]; exact upd_same⟩
    · obtain ⟨v, e⟩ := B.wr.dom a h
      exact ⟨v, by rw [upd_ne z]; exact e⟩
  · have e := B.ext
    have out : ∀ {a : Addr} {o : HO}, en.H0 a = some o → a ∉ en.g0.cm → a ≠ q := fun {a o} h hc z => by
      subst z
      rcases e.newc a (List.mem_of_getElem? ec) with z | z
      · exact hc z
      · rw [h] at z
        cases z
    refine ⟨fun a o h hc => by rw [upd_ne (out h hc)]; exact e.keep a o h hc, fun a xs h => ?_, fun a ob v h => ?_, e.old, e.new, e.pre, e.newc, fun a o h => ?_⟩
    · have z := e.tup a xs h
      rw [upd_ne (fun y => by rw [y, hu] at z; exact ht xs (Option.some.inj z))]
      exact z
    · have z := e.frz a ob v h
      rw [upd_ne (fun y => by rw [y, hu] at z; exact hf ob v (Option.some.inj z))]
      exact z
    · by_cases y : a = q
      · exact ⟨u', by rw [y]; exact upd_same⟩
      · obtain ⟨o', z⟩ := e.live a o h
        exact ⟨o', by rw [upd_ne y]; exact z⟩
  · obtain ⟨v, h1, h2⟩ := B.val j x h
    exact ⟨v, h1, Rep.mono0 O _ _ h2⟩
  · obtain ⟨a, h1, h2, h3, h4, h5⟩ := B.own j o2 h
    have ne : a ≠ q := fun z => h4 (z ▸ List.mem_of_getElem? ec)
    refine ⟨a, h1, ?_, h3, h4, h5⟩
    cases h2 with
    | L h6 h7 => exact .L (by rw [upd_ne ne]; exact h6) (RepL.mono0 O _ _ h7)
    | O h6 l h7 => exact .O (by rw [upd_ne ne]; exact h6) l (RepL.mono0 O _ _ h7)
end
end MP

set_option maxRecDepth 100000
set_option maxHeartbeats 1000000
/-! MPG: stores. -/
namespace MP
open PySem PySem.Spec PyProof.Rows L2
section
variable {X : Cx} {nm : Nm} {en : En} {Wx : WX} {g g' g1 g2 : Gh} {H H' H1 H2 : Hp} {w w' w1 : Wd} {env env' : Env} {σ σ' : L2.St} {K : PySem.W.Frag} {rs : Env → Wd → Res (List D)} {ra rb : Env → Wd → Res RV} {a b e : Expr} {es : List Expr} {pos p : Pos} {st : Stmt} {i : Nat}
/-- a name that may be changed has a value -/
theorem wr_has (B : BR nm K en g env w σ H) (h : writable env i = true) : ∃ v, σ[i]? = some (some v) := by
  unfold writable at h
  split at h
  · rename_i o eo
    obtain ⟨a, h1, _⟩ := B.own i o eo
    exact ⟨_, h1⟩
  · rename_i n en'
    obtain ⟨v, h1, _⟩ := B.val i _ en'
    exact ⟨_, h1⟩
  · cases h
theorem list_has (B : BR nm K en g env w σ H) (h : listAt env w i = true) : ∃ v, σ[i]? = some (some v) ∧ tyV K "list" v H := by
  unfold listAt at h
  split at h
  · rename_i o eo
    obtain ⟨a, h1, h2, _⟩ := B.own i _ eo
    cases h2 with
    | L h3 h4 => exact ⟨_, h1, .inl ⟨rfl, _, SqL.of h3⟩⟩
  · rename_i n en'
    obtain ⟨v, h1, h2⟩ := B.val i _ en'
    split at h
    · rename_i xs eo
      obtain ⟨a, h3, h4⟩ := B.wr.cells n _ eo
      cases h2 with
      | cell hc =>
        rw [hc] at h3
        cases h3
        cases h4 with
        | L h5 h6 => exact ⟨_, h1, .inl ⟨rfl, _, SqL.of h5⟩⟩
    · cases h
  · cases h
/-- a list that a name holds, or its cell, is changed -/
theorem change_lst {f : Ow → Option Ow} {D : Ends} (B : BR nm K en g env w σ H) (q : SG nm K en Wx g H (changeV i f env w) D) {v : V} (hv : σ[i]? = some (some v)) (hf : ∀ o o', f o = some o' → ∃ xs ys, o = .L xs ∧ o' = .L ys) :
    ∃ a xs ys vs, v = .ref a ∧ f (.L xs) = some (.L ys) ∧ H a = some (.lst vs) ∧ RepL nm K g H xs vs ∧ ∀ us, (∀ H', Ext0 g g H H' → RepL nm K g H' ys us) → D.nx σ (upd H a (.lst us)) := by
  unfold changeV at q
  split at q
  · rename_i o eo
    obtain ⟨a, h1, h2, h3, h4, h5⟩ := B.own i o eo
    rw [hv] at h1
    cases h1
    split at q
    · rename_i o' ef
      obtain ⟨xs, ys, rfl, rfl⟩ := hf _ _ ef
      cases h2 with
      | L h6 h7 =>
        refine ⟨a, xs, ys, _, rfl, ef, h6, h7, fun us hu => ?_⟩
        have O : Ext0 g g H (upd H a (.lst us)) := Ext0.own h3 h6 (by simp) (by simp)
        obtain ⟨B2, _⟩ := B.wown (u' := .lst us) eo hv h6 h3 h4 h5 (by simp) (by simp) (.L upd_same (hu _ O))
        exact q g σ _ B2 O
    · exact q.elim
  · rename_i n ec
    obtain ⟨v', h1, h2⟩ := B.val i _ ec
    rw [hv] at h1
    cases h1
    cases h2 with
    | cell hc =>
      split at q
      · rename_i o' ef
        obtain ⟨o, eo, ef⟩ := Option.bind_eq_some_iff.mp ef
        obtain ⟨xs, ys, rfl, rfl⟩ := hf _ _ ef
        obtain ⟨a2, h3, h4⟩ := B.wr.cells n _ eo
        rw [hc] at h3
        cases h3
        cases h4 with
        | L h6 h7 =>
          refine ⟨_, xs, ys, _, rfl, ef, h6, h7, fun us hu => ?_⟩
          have O : Ext0 g g H (upd H _ (.lst us)) := Ext0.own (B.wr.cmM _ (List.mem_of_getElem? hc)) h6 (by simp) (by simp)
          obtain ⟨B2, _⟩ := B.wcell (u' := .lst us) hc h6 (by simp) (by simp) (.L upd_same (hu _ O))
          exact q g σ _ B2 O
      · exact q.elim
  · exact q.elim
theorem s_setItem (h : PS X st (tAsg (tR nm X.K en Wx ra) (gSub (tVar i) (tR nm X.K en Wx rb) rSetL))) : PS X st (tS nm X.K en Wx fun env w => if writable env i then onOk env (asD (ra env w)) fun x w => onOk env (asI (rb env w)) fun j w => changeV i (fun o => setOw o j x) env w else .bad) :=
  h.imp fun D σ H ⟨g, env, w, B, q⟩ => by
    dsimp only at q
    split at q
    · rename_i hw
      obtain ⟨v, hv⟩ := wr_has B hw
      refine ⟨g, env, w, B, SG.bindD B q fun x w1 g1 H1 u E1 W1 R1 q => ?_⟩
      have q := q.start (E1.to0 B.wr.cmM)
      have B1 := B.step E1 W1
      refine ⟨v, hv, g1, env, w1, B1, SG.bindI B1 q fun j w2 g2 H2 E2 W2 q => ?_⟩
      have q := q.start (E2.to0 W1.cmM)
      obtain ⟨a, xs, ys, vs, rfl, ef, h1, h2, h3⟩ := change_lst (B1.step E2 W2) q hv (fun o o' e => by
        cases o with
        | L xs =>
          obtain ⟨k, h1, h2⟩ := Option.map_eq_some_iff.mp e
          exact ⟨xs, _, rfl, h2.symm⟩
        | O c fs => cases e)
      obtain ⟨k, h4, h5⟩ := Option.map_eq_some_iff.mp ef
      cases h5
      refine ⟨a, vs, j, k, rfl, rfl, h1, ?_, h3 _ fun H' O => ?_⟩
      · rw [← h2.length]
        exact h4
      · exact (RepL.mono0 O _ _ h2).set (Rep.mono0 O _ _ (Rep.mono E2 W1.cmM _ _ R1)) k
    · exact q.elim
theorem s_append (h : PS X st (tDrop (tBM X.K "list" rAppend (tVar i) (tCons (tR nm X.K en Wx ra) tNil)))) : PS X st (tS nm X.K en Wx fun env w => if listAt env w i then onOk env (asD (ra env w)) fun x w => changeV i (fun o => app o x) env w else .bad) :=
  h.imp fun D σ H ⟨g, env, w, B, q⟩ => by
    dsimp only at q
    split at q
    · rename_i hw
      obtain ⟨v, hv, ty⟩ := list_has B hw
      refine ⟨v, hv, ty, g, env, w, B, SG.bindD B q fun x w1 g1 H1 u E1 W1 R1 q => ?_⟩
      have q := q.start (E1.to0 B.wr.cmM)
      have B1 := B.step E1 W1
      obtain ⟨a, xs, ys, vs, rfl, ef, h1, h2, h3⟩ := change_lst B1 q hv (fun o o' e => by
        cases o with
        | L xs =>
          simp only [app] at e
          split at e <;> cases e
          exact ⟨xs, _, rfl, rfl⟩
        | O c fs => cases e)
      simp only [app] at ef
      split at ef <;> cases ef
      rename_i hz
      refine ⟨a, vs, u, rfl, rfl, h1, ?_, h3 _ fun H' O => ?_⟩
      · rw [← h2.length]
        exact Nat.lt_of_lt_of_le hz big_le
      · exact (RepL.mono0 O _ _ h2).append (.cons (Rep.mono0 O _ _ R1) .nil)
    · exact q.elim
end
end MP

set_option maxRecDepth 100000
set_option maxHeartbeats 1000000
/-! MPK: from the text to the code. -/
namespace MP
open PySem PySem.Spec PyProof.Rows L2

/-- what a name of the module stands for -/
inductive GR where
  | fn (f : Nat) | cls (c : Nat) | con (x : D) | free
structure Cc where
  N : List Str
  sc : Scope
  fnc : Str → Bool
  gl : Str → Option GR
  sm : Str → Str → Option Nat

/-! ### the compiler -/
def ix : List Str → Str → Option Nat
  | [], _ => none
  | y :: r, x => if y = x then some 0 else (ix r x).map (· + 1)
def okName (x : Str) : Bool := !(x == ("__debug__" : Str)) && !(x == ("__classdict__" : Str)) && !(x == ("__name__" : Str))
def vis (sc : Scope) (x : Str) : Bool := match sc.names.lookup x with
  | some .local | some .cell | some .free => true
  | _ => false
def glb (sc : Scope) (x : Str) : Bool := match sc.names.lookup x with
  | some .globalImplicit => true
  | _ => false
/-- a name that may be stored -/
def sto (c : Cc) (x : Str) : Bool := match c.sc.names.lookup x with
  | some .local => true
  | some .cell => c.fnc x
  | _ => false
def isStar : Expr → Bool
  | .Starred _ _ => true
  | _ => false
def isSet : Expr → Bool
  | .Set _ _ _ => true
  | _ => false
def isSlice : Expr → Bool
  | .Slice _ _ _ _ => true
  | _ => false
/-- what a test does by its value alone -/
def plainT : Expr → Bool
  | .UnaryOp .Not _ _ => false
  | .BoolOp _ _ _ => false
  | .IfExp _ _ _ _ => false
  | .Compare _ _ _ _ => false
  | _ => true
/-- no super() -/
def plainA : Expr → Bool
  | .Call (.Name _ _) [] [] _ => false
  | _ => true
def isComp : Expr → Bool
  | .ListComp _ _ _ _ | .SetComp _ _ _ _ | .DictComp _ _ _ _ _ => true
  | _ => false
def bop : Operator → Option P2
  | .Add => some .add
  | .Sub => some .sub
  | .Mult => some .mul
  | .FloorDiv => some .fdiv
  | .Mod => some .mod
  | .Pow => some .pow
  | _ => none
def cop : CmpOp → Option P2
  | .Lt => some .lt
  | .LtE => some .le
  | .Gt => some .gt
  | .GtE => some .ge
  | .Eq => some .eq
  | .NotEq => some .ne
  | .In => some .inn
  | .NotIn => some .notIn
  | _ => none
def tyName (x : Str) : Option Ty :=
  if x = "bool" then some .bool else if x = "int" then some .int else if x = "str" then some .str else if x = "tuple" then some .tuple else if x = "list" then some .list else none
def esOf : List E → Es
  | [] => .nil
  | e :: r => .cons e (esOf r)
/-- the place of a name that is stored -/
def nmS (c : Cc) : Expr → Option Nat
  | .Name x _ => if sto c x then ix c.N x else none
  | _ => none
def nmO (N : List Str) : Expr → Option (Str × Nat)
  | .Name x _ => (ix N x).map fun i => (x, i)
  | _ => none
def allO {α β : Type} (f : α → Option β) : List α → Option (List β)
  | [] => some []
  | a :: r => (f a).bind fun b => (allO f r).bind fun bs => some (b :: bs)
/-- a walk's target -/
def cTg (c : Cc) : Expr → Option Tg
  | .Tuple es _ _ => (allO (nmS c) es).map .tup
  | e => (nmS c e).map .var
def ownOf (N : List Str) : Expr → Option (List (Str × Nat))
  | .Tuple es _ _ => allO (nmO N) es
  | e => (nmO N e).map fun p => [p]
def Cc.blk (c : Cc) (scope : Scope) : Cc := { c with sc := relS scope c.sc, fnc := fun x => scope.names.lookup x == some .cell }
def isTup : Expr → Bool
  | .Tuple _ _ _ => true
  | _ => false
mutual
def cE : Nat → Cc → Expr → Option E
  | 0, _, _ => none
  | n + 1, c, e => match e with
    | .Constant (.int i) _ _ => some (.con (.int i))
    | .Constant (.bool b) _ _ => some (.con (.bl b))
    | .Constant .none _ _ => some (.con .non)
    | .Constant (.str x) _ _ => some (.con (.str x.cps.toList))
    | .Name x _ => if okName x then (match ix c.N x with
      | some i => if vis c.sc x then some (.var i) else none
      | none => if glb c.sc x then (match c.gl x with
        | some (.con d) => some (.con d)
        | some (.cls k) => some (.con (.cls k))
        | _ => none) else none) else none
    | .BinOp a op b _ => (bop op).bind fun p => (cE n c a).bind fun x => (cE n c b).bind fun y => some (.p2 p x y)
    | .UnaryOp .Not a _ => (cE n c a).bind fun x => some (.nott x)
    | .UnaryOp .USub a _ => (cE n c a).bind fun x => some (.p1 .neg x)
    | .Compare a [op] [b] _ => if isSet b then none else (cop op).bind fun p => (cE n c a).bind fun x => (cE n c b).bind fun y => some (.p2 p x y)
    | .Compare a [op, op'] [b, b'] _ => if isSet b' then none else (cop op).bind fun p => (cop op').bind fun q => (cE n c a).bind fun x => (cE n c b).bind fun y => (cE n c b').bind fun z => some (.ch2 p q x y z)
    | .BoolOp .And es _ => cB n c .andd es
    | .BoolOp .Or es _ => cB n c .orr es
    | .IfExp t a b _ => (cT n c t).bind fun x => (cE n c a).bind fun y => (cE n c b).bind fun z => some (.ife x y z)
    | .Tuple es _ _ => if es.any isStar then none else (allO (cE n c) es).bind fun xs => some (.tup (esOf xs))
    | .List es _ => if es.any isStar then none else (allO (cE n c) es).bind fun xs => some (.lst (esOf xs))
    | .Subscript a (.Slice lo hi none _) _ => (cE n c a).bind fun x => (cO n c lo).bind fun l => (cO n c hi).bind fun h => some (.slice x l h)
    | .Subscript a b _ => if isSlice b then none else (cE n c a).bind fun x => (cE n c b).bind fun y => some (.p2 .item x y)
    | .Call (.Name f _) (a :: r) [] _ => if okName f && glb c.sc f && !(a :: r).any isStar then (match c.gl f with
        | some (.fn k) => (allO (cE n c) (a :: r)).bind fun xs => some (.call k (esOf xs))
        | some .free => (match r with
          | [] => if f = "len" then (cE n c a).bind fun x => some (.p1 .len x) else if f = "int" then (cE n c a).bind fun x => some (.p1 .toInt x) else none
          | [b] => if f = "max" then (cE n c a).bind fun x => (cE n c b).bind fun y => some (.p2 .max2 x y) else if f = "min" then (cE n c a).bind fun x => (cE n c b).bind fun y => some (.p2 .min2 x y)
            else if f = "isinstance" then (match b with
              | .Name t _ => if okName t && glb c.sc t then (match c.gl t with
                | some .free => (tyName t).bind fun ty => (cE n c a).bind fun x => some (.p1 (.isT ty) x)
                | _ => none) else none
              | _ => none) else none
          | _ => none)
        | _ => none) else none
    | .Call (.Name f _) [] [] _ => if okName f && glb c.sc f then (match c.gl f with
        | some (.fn k) => some (.call k .nil)
        | _ => none) else none
    | .Call (.Attribute (.Constant (.str s) _ _) m apos) [b] [] pos => if m = "join" && apos.endLine == pos.line && !isStar b then (cE n c b).bind fun y => some (.p2 .join (.con (.str s.cps.toList)) y) else none
    | .Call (.Attribute (.Name C _) m apos) (a :: r) [] pos => if okName C && glb c.sc C && !(a :: r).any isStar && (apos.endLine == pos.line) && decide ((a :: r).length < 30) then (match c.gl C with
        | some (.cls _) => (c.sm C m).bind fun k => (allO (cE n c) (a :: r)).bind fun xs => some (.call k (esOf xs))
        | _ => none) else none
    | .ListComp elt [⟨tg, iter, ifs, 0⟩] scope _ => (cI n c (isTup tg) iter).bind fun it => (ownOf c.N tg).bind fun own => if blkC c.N c.sc scope own then
        (cTg (c.blk scope) tg).bind fun t => if own.map (·.2) = tgSlots t then (match ifs with
          | [] => (cE n (c.blk scope) elt).bind fun x => some (.comp x t it (.con (.bl true)))
          | [f] => (cT n (c.blk scope) f).bind fun y => (cE n (c.blk scope) elt).bind fun x => some (.comp x t it y)
          | _ => none) else none else none
    | _ => none
/-- and, or as values -/
def cB : Nat → Cc → (E → E → E) → List Expr → Option E
  | 0, _, _, _ => none
  | n + 1, c, f, es => match es with
    | [] => none
    | [a] => cE n c a
    | a :: b :: r => (cE n c a).bind fun x => (cB n c f (b :: r)).bind fun y => some (f x y)
/-- as a test -/
def cT : Nat → Cc → Expr → Option E
  | 0, _, _ => none
  | n + 1, c, e => match e with
    | .UnaryOp .Not a _ => (cT n c a).bind fun x => some (.nott x)
    | .BoolOp .And es _ => cW n c .andd es
    | .BoolOp .Or es _ => cW n c .orr es
    | .Compare a [op] [b] _ => if isSet b then none else (cop op).bind fun p => (cE n c a).bind fun x => (cE n c b).bind fun y => some (.p2 p x y)
    | .Compare a [op, op'] [b, b'] _ => if isSet b' then none else (cop op).bind fun p => (cop op').bind fun q => (cE n c a).bind fun x => (cE n c b).bind fun y => (cE n c b').bind fun z => some (.ch2 p q x y z)
    | e => if plainT e then cE n c e else none
def cW : Nat → Cc → (E → E → E) → List Expr → Option E
  | 0, _, _, _ => none
  | n + 1, c, f, es => match es with
    | [] => none
    | [a] => cT n c a
    | a :: b :: r => (cT n c a).bind fun x => (cW n c f (b :: r)).bind fun y => some (f x y)
def cO : Nat → Cc → Option Expr → Option O
  | 0, _, _ => none
  | n + 1, c, e => match e with
    | none => some .none
    | some e => (cE n c e).bind fun x => some (.some x)
def cI : Nat → Cc → Bool → Expr → Option MP.It
  | 0, _, _, _ => none
  | n + 1, c, tup, e => match e with
    | .Call (.Name f _) [a] [] _ => if f = "range" && okName f && glb c.sc f && !isStar a then (match c.gl f with
        | some .free => (cE n c a).bind fun x => some (.range1 x)
        | _ => none)
      else if f = "enumerate" && okName f && glb c.sc f && !isStar a && tup then (match c.gl f with
        | some .free => (cE n c a).bind fun x => some (.enum x)
        | _ => none)
      else (cE n c e).bind fun x => some (.of x)
    | .Call (.Name f _) [a, b] [] _ => if f = "range" && okName f && glb c.sc f && !isStar a && !isStar b then (match c.gl f with
        | some .free => (cE n c a).bind fun x => (cE n c b).bind fun y => some (.range2 x y)
        | _ => none)
      else if f = "zip" && okName f && glb c.sc f && !isStar a && !isStar b && tup then (match c.gl f with
        | some .free => (cE n c a).bind fun x => (cE n c b).bind fun y => some (.zip x y)
        | _ => none)
      else (cE n c e).bind fun x => some (.of x)
    | e => if isSet e then none else (cE n c e).bind fun x => some (.of x)
end
end MP

set_option maxRecDepth 100000
set_option maxHeartbeats 1000000
/-! MPT: side conditions. -/
namespace MP
open PySem PySem.Spec PyProof.Rows L2
theorem ix_ok : ∀ {N : List Str} {x : Str} {i : Nat}, ix N x = some i → N[i]? = some x
  | [], _, _, h => by cases h
  | y :: r, x, i, h => by
    unfold ix at h
    split at h
    · rename_i e
      cases h
      rw [e]
      rfl
    · obtain ⟨j, h1, h2⟩ := Option.map_eq_some_iff.mp h
      subst h2
      show r[j]? = some x
      exact ix_ok h1
theorem vis_ok {sc : Scope} {x : Str} (h : vis sc x = true) : Vis sc x := by
  unfold vis at h
  split at h
  · exact .inl (by assumption)
  · exact .inr (.inl (by assumption))
  · exact .inr (.inr (by assumption))
  · cases h
theorem okName_ok {x : Str} (h : okName x = true) : (x == ("__debug__" : Str)) = false ∧ (x == ("__classdict__" : Str)) = false ∧ x ≠ "__name__" := by
  unfold okName at h
  simp only [Bool.and_eq_true, Bool.not_eq_true'] at h
  exact ⟨h.1.1, h.1.2, fun e => by rw [e] at h; exact absurd h.2 (by decide +kernel)⟩
theorem star_ok {e : Expr} {es : List Expr} {env : PySem.Env} (h : isStar e = false) : starEach (e :: es) env = (false, eval e env) :: starEach es env := by
  cases e <;> first | rfl | cases h
theorem star1_ok {e : Expr} {env : PySem.Env} (h : isStar e = false) : starEach [e] env = [(false, eval e env)] := star_ok h
theorem stars_ok : ∀ {es : List Expr} {env : PySem.Env}, es.any isStar = false → (starEach es env).any (·.1) = false
  | [], _, _ => rfl
  | e :: es, env, h => by
    rw [List.any_cons, Bool.or_eq_false_iff] at h
    rw [star_ok h.1, List.any_cons, stars_ok h.2]
    rfl
theorem backTo_any {pos : Pos} : ∀ {l : List (Bool × Sem Value)}, l.any (·.1) = false → (backTo pos l).any (·.1) = false := by
  intro l h
  unfold backTo
  rw [List.any_map]
  exact h
theorem pl_ok {es : List Expr} {env : PySem.Env} {pos : Pos} (h : es.any isStar = false) : (backTo pos (starEach es env)).any (·.1) = false := backTo_any (stars_ok h)
theorem ix_plain {b : Expr} (h : isSlice b = false) : PlainIx b := by
  intro o i
  cases b <;> first | rfl | cases h
theorem set_plain {e : Expr} {env : PySem.Env} (h : isSet e = false) (x : Value) : foldedSetIterable e env x = pure x := by
  cases e <;> first | rfl | cases h
theorem marks_plain {op : CmpOp} {e : Expr} (h : isSet e = false) : behindInMarks op e = false := by
  cases e <;> first | rfl | cases h
theorem last_plain {op op' : CmpOp} {b c : Expr} (h : isSet c = false) : lastMarks [op, op'] [b, c] = false := by
  show behindInMarks op' c = false
  exact marks_plain h
theorem test_plain {e : Expr} {env : PySem.Env} (h : plainT e = true) (whole : Sem Value) : isTrue e env whole = (do let v ← whole; standAt e.pos; holding [v] (truthy v)) := by
  cases e <;> first | rfl | skip
  · cases h
  · rename_i op x p
    cases op <;> first | rfl | cases h
  · cases h
  · cases h
theorem swaps_plain {e : Expr} {t : Option Expr} {l : Nat} {env : PySem.Env} (h : isComp e = false) : swapsWith e t l env = pure false := by
  cases e <;> first | rfl | cases h
theorem base_const {x : Str} {j : Nat} {p : Pos} {m : Str} {env : PySem.Env} : attributeBase (.Constant (.str x) j p) m env (eval (.Constant (.str x) j p) env) = eval (.Constant (.str x) j p) env := rfl
theorem star_all {es : List Expr} {env : PySem.Env} {pos : Pos} (h : es.any isStar = false) : (backTo pos (starEach es env)).all (!·.1) = true := by
  have h1 := pl_ok (env := env) (pos := pos) h
  rw [List.all_eq_true]
  intro x hx
  rw [List.any_eq_false] at h1
  simpa using h1 x hx
/-- o.m(..): the method's way -/
theorem meth_form {o : Expr} {m : Str} {apos pos : Pos} {es : List Expr} {env : PySem.Env} (hb : attributeBase o m env (eval o env) = eval o env) (hs : es.any isStar = false) (hn : es.length < 30) (hl : (apos.endLine == pos.line) = true) :
    eval (.Call (.Attribute o m apos) es [] pos) env = (do
      let ov ← eval o env
      standAt apos.atName
      let (f, first) ← holding [ov] (getMethod ov m (do return (← importBound o env).getD true))
      callWith pos f first (backTo pos (starEach es env)) (backToKw pos (keywordEach [] env))) := by
  have hf : methodCallForm (es.length + ([] : List Keyword).length) (backTo pos (starEach es env)) (backToKw pos (keywordEach [] env)) = true := by
    unfold methodCallForm
    rw [star_all hs]
    show (true && true && decide (es.length + 0 + 0 < 30)) = true
    simpa using hn
  have hp : methodCallPos true o env apos pos = pure pos := by
    unfold methodCallPos
    rw [hl]
    rfl
  rw [arm_eval_Call, hb]
  unfold methodCall calleeOf
  rw [hf]
  simp only [hp, pure_bind, if_true]
theorem sole_plain {e t : Expr} {l : Nat} {env : PySem.Env} (h : isComp e = false) : swapsWithSole [t] e l env = pure false := by
  cases e <;> first | rfl | cases h
theorem swst_plain {e t : Expr} {env : PySem.Env} (h : isTup e = false) : swappedStores [t] e env = pure none := by
  cases e <;> first | rfl | (cases t <;> rfl) | cases h
theorem swst_sub {e o b : Expr} {p : Pos} {env : PySem.Env} : swappedStores [.Subscript o b p] e env = pure none := by
  cases e <;> rfl
theorem sub_plain {o b : Expr} {pos : Pos} {env : PySem.Env} (h : isSlice b = false) (v : Value) : assign (.Subscript o b pos) env v = (do
      let ov ← holding [v] (eval o env)
      let iv ← holding [v, ov] (eval b env)
      standAt pos
      holding [v, ov, iv] (setItem ov iv v)
      release [v, ov, iv] []) := by
  cases b <;> first | rfl | cases h
end MP

set_option maxRecDepth 100000
set_option maxHeartbeats 1000000
/-! MPX: in, not in, minus, operations in place. -/
namespace MP
open PySem PySem.Spec PyProof.Rows L2
section
variable {X : Cx} {nm : Nm} {en : En} {Wx : WX} {a b c e : Expr} {es : List Expr} {pos p : Pos} {ra rb rc rd : Env → Wd → Res RV} {K : PySem.W.Frag} {g : Gh} {H : Hp} {w : Wd}
theorem flat_rep {x : D} {v : V} (h : Rep nm K g H x v) (f : isFlat x = true) : flatV v = true := by
  cases x with
  | non => cases h; rfl
  | bl a => cases h; rfl
  | int a => cases h; rfl
  | str a => cases h; rfl
  | _ => cases f
theorem str_beq (a b : List Nat) : ((⟨a.toArray⟩ : Str) == ⟨b.toArray⟩) = (a == b) := by
  rw [Bool.eq_iff_iff, beq_iff_eq, beq_iff_eq]
  constructor
  · intro h
    have h := congrArg (fun z : Str => z.cps.toList) h
    simpa using h
  · intro h
    rw [h]
theorem eqV_rep {x y : D} {v u : V} (h : Rep nm K g H x v) (h' : Rep nm K g H y u) (f : isFlat x = true) (f' : isFlat y = true) : eqV v u = eqF x y := by
  cases x with
  | non => cases h; cases y with
    | non => cases h'; rfl
    | bl b => cases h'; rfl
    | int b => cases h'; rfl
    | str b => cases h'; rfl
    | _ => cases f'
  | bl a => cases h; cases y with
    | non => cases h'; rfl
    | bl b => cases h'; rfl
    | int b => cases h'; rfl
    | str b => cases h'; rfl
    | _ => cases f'
  | int a => cases h; cases y with
    | non => cases h'; rfl
    | bl b => cases h'; rfl
    | int b => cases h'; rfl
    | str b => cases h'; rfl
    | _ => cases f'
  | str a => cases h; cases y with
    | non => cases h'; rfl
    | bl b => cases h'; rfl
    | int b => cases h'; rfl
    | str b => cases h'; exact str_beq a b
    | _ => cases f'
  | _ => cases f
theorem all_flat : ∀ {xs : List D} {vs : List V}, RepL nm K g H xs vs → xs.all isFlat = true → vs.all flatV = true
  | _, _, .nil, _ => rfl
  | x :: xs, v :: vs, .cons r t, f => by
    rw [List.all_cons, Bool.and_eq_true] at f
    rw [List.all_cons, flat_rep r f.1, all_flat t f.2]
    rfl
theorem inV_rep {x : D} {v : V} (h : Rep nm K g H x v) (f : isFlat x = true) : ∀ {xs : List D} {vs : List V}, RepL nm K g H xs vs → xs.all isFlat = true → inV v vs = xs.any fun y => eqF y x
  | _, _, .nil, _ => rfl
  | y :: xs, u :: vs, .cons r t, fs => by
    rw [List.all_cons, Bool.and_eq_true] at fs
    have ih := inV_rep h f t fs.2
    unfold inV at ih ⊢
    rw [List.any_cons, List.any_cons, eqV_rep r h fs.1 f, ih]
theorem opSeq_in {a b z : RV} (e : opSeq .inn a b w = some z) : ∃ x xs, a = .d x ∧ b.seq? w = some xs ∧ isFlat x = true ∧ xs.all isFlat = true ∧ z = .d (.bl (xs.any fun y => eqF y x)) := by
  unfold opSeq at e
  split at e <;> first | (exfalso; simp_all; done) | skip
  · rename_i x hh
    obtain ⟨xs, h1, h2⟩ := Option.bind_eq_some_iff.mp e
    split at h2
    · rename_i hf
      rw [Bool.and_eq_true] at hf
      cases h2
      exact ⟨_, xs, rfl, h1, hf.1, hf.2, rfl⟩
    · cases h2
  all_goals cases e
theorem opSeq_notIn {a b z : RV} (e : opSeq .notIn a b w = some z) : ∃ x xs, a = .d x ∧ b.seq? w = some xs ∧ isFlat x = true ∧ xs.all isFlat = true ∧ z = .d (.bl (!xs.any fun y => eqF y x)) := by
  unfold opSeq at e
  split at e <;> first | (exfalso; simp_all; done) | skip
  · rename_i x hh
    obtain ⟨xs, h1, h2⟩ := Option.bind_eq_some_iff.mp e
    split at h2
    · rename_i hf
      rw [Bool.and_eq_true] at hf
      cases h2
      exact ⟨_, xs, rfl, h1, hf.1, hf.2, rfl⟩
    · cases h2
  all_goals cases e
theorem opStr_in {s t : List Nat} {d : D} (e : opStr .inn s t = some d) : ∃ k, s = [k] ∧ d = .bl (decide (k ∈ t)) := by
  unfold opStr at e
  split at e <;> first | (exfalso; simp_all; done) | skip
  · cases e
    exact ⟨_, rfl, rfl⟩
theorem opStr_notIn {s t : List Nat} {d : D} (e : opStr .notIn s t = some d) : ∃ k, s = [k] ∧ d = .bl (!decide (k ∈ t)) := by
  unfold opStr at e
  split at e <;> first | (exfalso; simp_all; done) | skip
  · cases e
    exact ⟨_, rfl, rfl⟩
theorem c_in : OpR X (compareOp .In) (r2 nm X.K .inn) := by
  refine op_of op_no (fun H i j d Q e q => by cases e) op_in_sign (fun H s t d Q e q => ?_) op_in_seq (fun g H w a b x y z Q W ha hb e q => ?_)
  · obtain ⟨k, rfl, rfl⟩ := opStr_in e
    exact ⟨k, _, rfl, rfl, q ⟨fun _ => False, []⟩ _ (.bl _)⟩
  · obtain ⟨x1, xs, rfl, hs, f1, f2, rfl⟩ := opSeq_in e
    obtain ⟨p, vs, rfl, h1, h2⟩ := seq_of W hb hs
    have ha : Rep nm X.K g H x1 x := ha
    refine ⟨p, vs, rfl, h1, flat_rep ha f1, all_flat h2 f2, ?_⟩
    show Q (.bl (inV x vs)) H
    rw [inV_rep ha f1 h2 f2]
    exact q g H _ Ext.refl W (RP.d (.bl _))
theorem c_notIn : OpR X (compareOp .NotIn) (r2 nm X.K .notIn) := by
  refine op_of op_no (fun H i j d Q e q => by cases e) op_notIn_sign (fun H s t d Q e q => ?_) op_notIn_seq (fun g H w a b x y z Q W ha hb e q => ?_)
  · obtain ⟨k, rfl, rfl⟩ := opStr_notIn e
    exact ⟨k, _, rfl, rfl, q ⟨fun _ => False, []⟩ _ (.bl _)⟩
  · obtain ⟨x1, xs, rfl, hs, f1, f2, rfl⟩ := opSeq_notIn e
    obtain ⟨p, vs, rfl, h1, h2⟩ := seq_of W hb hs
    have ha : Rep nm X.K g H x1 x := ha
    refine ⟨p, vs, rfl, h1, flat_rep ha f1, all_flat h2 f2, ?_⟩
    show Q (.bl (!inV x vs)) H
    rw [inV_rep ha f1 h2 f2]
    exact q g H _ Ext.refl W (RP.d (.bl _))
theorem op1_neg {x z : RV} (e : op1 .neg x w = some z) : ∃ i, x = .d (.int i) ∧ z = .d (.int (-i)) := by
  unfold op1 at e
  split at e <;> first | (exfalso; simp_all; done) | skip
  all_goals first | (cases e; exact ⟨_, rfl, rfl⟩) | cases e
theorem v_neg (h : PE X e (tR nm X.K en Wx ra)) : PE X (.UnaryOp .USub e pos) (tR nm X.K en Wx fun env w => (ra env w).bind fun x w => w.ok1 (op1 .neg x w)) :=
  (pe_un un_neg h).imp fun σ H Q ⟨g, env, w, B, q⟩ => ⟨g, env, w, B, EG.bind q fun x w1 g1 H1 v e1 E1 W1 R1 q1 => by
    obtain ⟨z, ez, q3⟩ := q1.ok1
    obtain ⟨i, rfl, rfl⟩ := op1_neg ez
    have r1 := R1.1
    cases r1
    exact ⟨i, rfl, q3 g1 H1 _ E1 W1 (RP.d (.int _))⟩⟩
theorem n_add : OpR X (inplaceOp .Add) (r2 nm X.K .add) := by
  refine op_of iop_add (fun H i j d Q e q => ?_) iop_add_str (fun H a b d Q e q => ?_) op_no (fun g H w a b x y z Q W ha hb e q => ?_)
  · cases e
    exact ⟨i, j, rfl, rfl, q ⟨fun _ => False, []⟩ _ (.int _)⟩
  · simp only [opStr] at e
    split at e <;> cases e
    rename_i hz
    refine ⟨_, _, rfl, rfl, ?_, ?_⟩
    · rw [str_len, str_len]
      exact Nat.le_trans hz big_le
    · rw [str_app]
      exact q ⟨fun _ => False, []⟩ _ (.str _)
  · unfold opSeq at e
    split at e <;> simp_all
theorem n_sub : OpR X (inplaceOp .Sub) (r2 nm X.K .sub) :=
  op_ints iop_sub (fun H i j d Q e q => by cases e; exact ⟨i, j, rfl, rfl, q ⟨fun _ => False, []⟩ _ (.int _)⟩) (fun a b => by unfold opStr; split <;> simp_all) fun a b w => by unfold opSeq; split <;> simp_all
theorem n_mul : OpR X (inplaceOp .Mult) (r2 nm X.K .mul) :=
  op_ints iop_mul (fun H i j d Q e q => by
    simp only [opInt] at e
    split at e <;> cases e
    exact ⟨i, j, rfl, rfl, mulOk_ok (by assumption), q ⟨fun _ => False, []⟩ _ (.int _)⟩) (fun a b => by unfold opStr; split <;> simp_all) fun a b w => by unfold opSeq; split <;> simp_all
theorem n_fdiv : OpR X (inplaceOp .FloorDiv) (r2 nm X.K .fdiv) :=
  op_ints iop_fdivW (fun H i j d Q e q => by
    simp only [opInt] at e
    split at e <;> cases e
    rename_i h
    unfold divOk at h
    simp only [Bool.and_eq_true, decide_eq_true_eq] at h
    exact ⟨i, j, rfl, rfl, h, q ⟨fun _ => False, []⟩ _ (.int _)⟩) (fun a b => by unfold opStr; split <;> simp_all) fun a b w => by unfold opSeq; split <;> simp_all
theorem n_mod : OpR X (inplaceOp .Mod) (r2 nm X.K .mod) :=
  op_ints iop_mod (fun H i j d Q e q => by
    simp only [opInt] at e
    split at e <;> cases e
    exact ⟨i, j, rfl, rfl, (by assumption), q ⟨fun _ => False, []⟩ _ (.int _)⟩) (fun a b => by unfold opStr; split <;> simp_all) fun a b w => by unfold opSeq; split <;> simp_all
/-- operators by their code -/
theorem bop_ok {op : Operator} {p : P2} (h : bop op = some p) : OpR X (binaryOp op) (r2 nm X.K p) := by
  cases op <;> simp only [bop] at h <;> cases h
  · exact b_add
  · exact b_sub
  · exact b_mul
  · exact b_mod
  · exact b_pow
  · exact b_fdiv
def nop : Operator → Option P2
  | .Add => some .add
  | .Sub => some .sub
  | .Mult => some .mul
  | .FloorDiv => some .fdiv
  | .Mod => some .mod
  | _ => none
theorem nop_ok {op : Operator} {p : P2} (h : nop op = some p) : OpR X (inplaceOp op) (r2 nm X.K p) := by
  cases op <;> simp only [nop] at h <;> cases h
  · exact n_add
  · exact n_sub
  · exact n_mul
  · exact n_mod
  · exact n_fdiv
theorem cop_ok {op : CmpOp} {p : P2} (h : cop op = some p) : OpR X (compareOp op) (r2 nm X.K p) := by
  cases op <;> simp only [cop] at h <;> cases h
  · exact c_eq
  · exact c_ne
  · exact c_lt
  · exact c_le
  · exact c_gt
  · exact c_ge
  · exact c_in
  · exact c_notIn
/-- no tests; one test -/
theorem ts_nil : PTs X [] (tBl nm X.K en Wx fun _ w => .ok true w) := ⟨fun pins s σ H Q I ⟨g, env, w, B, q⟩ => pts_nil.run pins s σ H Q I (q g H true Ext.refl B.wr rfl)⟩
theorem ts_one {rA : Env → Wd → Res Bool} (h : PT X c (tBl nm X.K en Wx rA)) : PTs X [c] (tBl nm X.K en Wx rA) := pts_one h
end
end MP

set_option maxRecDepth 100000
set_option maxHeartbeats 2000000
/-! MPV: the code says what the text does: expressions. -/
namespace MP
open PySem PySem.Spec PyProof.Rows L2
/-- what stands behind the module's names -/
structure Md (nm : Nm) (K : PySem.W.Frag) (mg : Str → Option Value) (fa : Nat → Addr) (gl : Str → Option GR) (sm : Str → Str → Option Nat) : Prop where
  fn : ∀ x f, gl x = some (.fn f) → mg x = some (.ref (fa f)) ∧ PySem.W.keepIn K (.ref (fa f)) = true
  cls : ∀ x n, gl x = some (.cls n) → mg x = some (.ref (addr nm K n)) ∧ ClX.CRead K (addr nm K n) (.type "type")
  con : ∀ x d, gl x = some (.con d) → ∃ v u, mg x = some u ∧ RelV v u ∧ ∀ g H, Rep nm K g H d v
  free : ∀ x, gl x = some .free → mg x = none
  sm : ∀ C n m k, gl C = some (.cls n) → sm C m = some k → (∃ q, SMet K (addr nm K n) m q (fa k)) ∧ PySem.W.keepIn K (.ref (fa k)) = true
structure GdX (X : Cx) (nm : Nm) (fa : Nat → Addr) (R : Calls) (Wx : WX) (k : Nat) (c : Cc) : Prop where
  nd : X.N.Nodup
  eN : X.N = c.N
  sc : X.env.scope = c.sc
  calm : X.calm = true
  fnc : ∀ x, c.fnc x = true → X.fn x = true
  room : Room k X.A
  tk : Takes X Wx
  md : Md nm X.K X.mg fa c.gl c.sm
  fns : ∀ f, FnR X.prog X.w X.K X.mg X.base (L2.CX X.prog X.w) k (fa f) (spF nm X.K (R.fn f))
theorem tyName_ok {x : Str} {t : Ty} (h : tyName x = some t) : t ≠ .none ∧ bootBuiltins x = some (.type t.name) := by
  unfold tyName at h
  split at h
  · cases h; subst_vars; exact ⟨by decide, rfl⟩
  · split at h
    · cases h; subst_vars; exact ⟨by decide, rfl⟩
    · split at h
      · cases h; subst_vars; exact ⟨by decide, rfl⟩
      · split at h
        · cases h; subst_vars; exact ⟨by decide, rfl⟩
        · split at h
          · cases h; subst_vars; exact ⟨by decide, rfl⟩
          · cases h
section
variable {X : Cx} {nm : Nm} {fa : Nat → Addr} {T : Tab} {R : Calls} {Wx : WX} {k : Nat} {c : Cc} {en : En}
theorem GdX.blk (G : GdX X nm fa R Wx k c) (s : Shared) (H : Hp) (scope : Scope) (C : Addr) (cl : List (Str × Addr)) (fp : List Addr) : GdX (X.blk s H scope (compEnvC scope cl C X.env) fp) nm fa R WF k (c.blk scope) where
  nd := G.nd
  eN := G.eN
  sc := by
    show relS scope X.env.scope = relS scope c.sc
    rw [G.sc]
  calm := G.calm
  fnc := fun x h => h
  room := G.room
  tk := fun u s' ⟨a, B, sI, pins, σ, H, cls, d, _, _, _, _, _, _, _, _, w⟩ => w.elim
  md := G.md
  fns := G.fns
theorem GdX.at_ (G : GdX X nm fa R Wx k c) {x : Str} {i : Nat} (h : ix c.N x = some i) : X.N[i]? = some x := by
  rw [G.eN]
  exact ix_ok h
theorem GdX.gl (G : GdX X nm fa R Wx k c) {x : Str} (h : glb c.sc x = true) : Gl X x := by
  unfold glb at h
  show X.env.scope.names.lookup x = _
  rw [G.sc]
  split at h
  · assumption
  · cases h
theorem GdX.vis (G : GdX X nm fa R Wx k c) {x : Str} (h : MP.vis c.sc x = true) : Vis X.env.scope x := by
  rw [G.sc]
  exact vis_ok h
theorem GdX.sto (G : GdX X nm fa R Wx k c) {x : Str} (h : MP.sto c x = true) : L2.Loc X.env.scope x ∧ (X.fn x = true ∨ X.env.scope.names.lookup x = some .local) := by
  unfold MP.sto at h
  unfold L2.Loc
  rw [G.sc]
  split at h
  · exact ⟨.inl (by assumption), .inr (by assumption)⟩
  · exact ⟨.inr (by assumption), .inl (G.fnc x h)⟩
  · cases h
theorem v_allO {n : Nat} (hE : ∀ (e : Expr) (y : E), cE n c e = some y → PE X e (tR nm X.K en Wx fun env w => ev T R y env w)) : ∀ {es : List Expr} {ys : List E}, es.any isStar = false → allO (cE n c) es = some ys →
    PA X es (tLs nm X.K en Wx fun env w => evDs T R (esOf ys) env w)
  | [], ys, _, h => by
    cases h
    exact a_nil
  | e :: es, ys, hs, h => by
    unfold allO at h
    obtain ⟨y, h1, h⟩ := Option.bind_eq_some_iff.mp h
    obtain ⟨zs, h2, h⟩ := Option.bind_eq_some_iff.mp h
    cases h
    rw [List.any_cons, Bool.or_eq_false_iff] at hs
    exact a_cons (hE e y h1) (v_allO hE hs.2 h2) (star_ok hs.1)
theorem g_each {es : List Expr} {is : List Nat} (G : GdX X nm fa R Wx k c) : allO (nmS c) es = some is → PGs X es (gIs is) ∧ (assignEach es X.env).length = is.length ∧ (assignEach es X.env).findIdx? (·.1) = none := by
  induction es generalizing is with
  | nil => intro h; cases h; exact ⟨pgs_nil, rfl, rfl⟩
  | cons e es ih =>
    intro h
    unfold allO at h
    obtain ⟨i, h1, h⟩ := Option.bind_eq_some_iff.mp h
    obtain ⟨js, h2, h⟩ := Option.bind_eq_some_iff.mp h
    cases h
    obtain ⟨a1, a2, a3⟩ := ih h2
    unfold nmS at h1
    split at h1
    · rename_i x pos
      split at h1
      · rename_i hs
        obtain ⟨b1, b2⟩ := G.sto hs
        have e1 : assignEach (.Name x pos :: es) X.env = (false, assign (.Name x pos) X.env) :: assignEach es X.env := rfl
        refine ⟨pgs_cons (pg_name G.nd (G.at_ h1) b1 b2) a1 (by rw [e1]; rfl), ?_, ?_⟩
        · rw [e1, List.length_cons, List.length_cons, a2]
        · rw [e1, List.findIdx?_cons, a3]
          rfl
      · cases h1
    · cases h1
theorem g_ok {e : Expr} {t : Tg} (G : GdX X nm fa R Wx k c) (h : cTg c e = some t) : PG X e (gTg nm X.K en t) := by
  unfold cTg at h
  split at h
  · obtain ⟨is, h1, h⟩ := Option.map_eq_some_iff.mp h
    subst h
    obtain ⟨a1, a2, a3⟩ := g_each G h1
    exact g_tup G.calm a1 a2 a3
  · obtain ⟨i, h1, h⟩ := Option.map_eq_some_iff.mp h
    subst h
    unfold nmS at h1
    split at h1
    · split at h1
      · rename_i hs
        obtain ⟨b1, b2⟩ := G.sto hs
        exact g_var (pg_name G.nd (G.at_ h1) b1 b2)
      · cases h1
    · cases h1
/-! ### the compiler's claims, by the fuel -/
structure Snd (nm : Nm) (en : En) (T : Tab) (R : Calls) (fa : Nat → Addr) (k n : Nat) : Prop where
  e : ∀ {X : Cx} {Wx : WX} {c : Cc}, GdX X nm fa R Wx k c → ∀ {e : Expr} {y : E}, cE n c e = some y → PE X e (tR nm X.K en Wx fun env w => ev T R y env w)
  ba : ∀ {X : Cx} {Wx : WX} {c : Cc}, GdX X nm fa R Wx k c → ∀ {es : List Expr} {y : E} {pos : Pos}, cB n c .andd es = some y → PE X (.BoolOp .And es pos) (tR nm X.K en Wx fun env w => ev T R y env w)
  bo : ∀ {X : Cx} {Wx : WX} {c : Cc}, GdX X nm fa R Wx k c → ∀ {es : List Expr} {y : E} {pos : Pos}, cB n c .orr es = some y → PE X (.BoolOp .Or es pos) (tR nm X.K en Wx fun env w => ev T R y env w)
  t : ∀ {X : Cx} {Wx : WX} {c : Cc}, GdX X nm fa R Wx k c → ∀ {e : Expr} {y : E}, cT n c e = some y → PT X e (tBl nm X.K en Wx fun env w => asB (ev T R y env w))
  wa : ∀ {X : Cx} {Wx : WX} {c : Cc}, GdX X nm fa R Wx k c → ∀ {es : List Expr} {y : E} {pos : Pos}, cW n c .andd es = some y → PW X (.BoolOp .And es pos) (tBl nm X.K en Wx fun env w => asB (ev T R y env w))
  wo : ∀ {X : Cx} {Wx : WX} {c : Cc}, GdX X nm fa R Wx k c → ∀ {es : List Expr} {y : E} {pos : Pos}, cW n c .orr es = some y → PW X (.BoolOp .Or es pos) (tBl nm X.K en Wx fun env w => asB (ev T R y env w))
  o : ∀ {X : Cx} {Wx : WX} {c : Cc}, GdX X nm fa R Wx k c → ∀ {e : Option Expr} {y : O}, cO n c e = some y → PO X e (tOpt nm X.K en Wx fun env w => evO T R y env w)
  i : ∀ {X : Cx} {Wx : WX} {c : Cc}, GdX X nm fa R Wx k c → ∀ {tg e : Expr} {y : MP.It}, cI n c (isTup tg) e = some y → PI X tg e (tI nm X.K en Wx fun env w => evI T R y env w) ∧ ∀ x, foldedSetIterable e X.env x = pure x
variable {n : Nat} {S : Snd nm en T R fa k n}
theorem snd_o (S : Snd nm en T R fa k n) (G : GdX X nm fa R Wx k c) {e : Option Expr} {y : O} (h : cO (n + 1) c e = some y) : PO X e (tOpt nm X.K en Wx fun env w => evO T R y env w) := by
  unfold cO at h
  split at h
  · cases h
    exact o_none
  · obtain ⟨x, h1, h⟩ := Option.bind_eq_some_iff.mp h
    cases h
    exact o_some (S.e G h1)
theorem snd_ba (S : Snd nm en T R fa k n) (G : GdX X nm fa R Wx k c) {es : List Expr} {y : E} {pos : Pos} (h : cB (n + 1) c .andd es = some y) : PE X (.BoolOp .And es pos) (tR nm X.K en Wx fun env w => ev T R y env w) := by
  unfold cB at h
  split at h
  · cases h
  · exact pe_one (S.e G h)
  · obtain ⟨x, h1, h⟩ := Option.bind_eq_some_iff.mp h
    obtain ⟨z, h2, h⟩ := Option.bind_eq_some_iff.mp h
    cases h
    exact v_and (S.e G h1) (S.ba G h2)
theorem snd_bo (S : Snd nm en T R fa k n) (G : GdX X nm fa R Wx k c) {es : List Expr} {y : E} {pos : Pos} (h : cB (n + 1) c .orr es = some y) : PE X (.BoolOp .Or es pos) (tR nm X.K en Wx fun env w => ev T R y env w) := by
  unfold cB at h
  split at h
  · cases h
  · exact pe_one (S.e G h)
  · obtain ⟨x, h1, h⟩ := Option.bind_eq_some_iff.mp h
    obtain ⟨z, h2, h⟩ := Option.bind_eq_some_iff.mp h
    cases h
    exact v_or (S.e G h1) (S.bo G h2)
theorem snd_wa (S : Snd nm en T R fa k n) (G : GdX X nm fa R Wx k c) {es : List Expr} {y : E} {pos : Pos} (h : cW (n + 1) c .andd es = some y) : PW X (.BoolOp .And es pos) (tBl nm X.K en Wx fun env w => asB (ev T R y env w)) := by
  unfold cW at h
  split at h
  · cases h
  · exact c_and1 (S.t G h)
  · obtain ⟨x, h1, h⟩ := Option.bind_eq_some_iff.mp h
    obtain ⟨z, h2, h⟩ := Option.bind_eq_some_iff.mp h
    cases h
    have e : (fun env w => asB (ev T R (.andd x z) env w)) = andB (fun env w => asB (ev T R x env w)) (fun env w => asB (ev T R z env w)) := by
      funext env w
      exact asB_blR _
    rw [e]
    exact c_and (S.t G h1) (S.wa G h2)
theorem snd_wo (S : Snd nm en T R fa k n) (G : GdX X nm fa R Wx k c) {es : List Expr} {y : E} {pos : Pos} (h : cW (n + 1) c .orr es = some y) : PW X (.BoolOp .Or es pos) (tBl nm X.K en Wx fun env w => asB (ev T R y env w)) := by
  unfold cW at h
  split at h
  · cases h
  · exact c_or1 (S.t G h)
  · obtain ⟨x, h1, h⟩ := Option.bind_eq_some_iff.mp h
    obtain ⟨z, h2, h⟩ := Option.bind_eq_some_iff.mp h
    cases h
    have e : (fun env w => asB (ev T R (.orr x z) env w)) = orB (fun env w => asB (ev T R x env w)) (fun env w => asB (ev T R z env w)) := by
      funext env w
      exact asB_blR _
    rw [e]
    exact c_or (S.t G h1) (S.wo G h2)
theorem snd_cmp2 (S : Snd nm en T R fa k n) (G : GdX X nm fa R Wx k c) {a b b' : Expr} {op op' : CmpOp} {pos : Pos} {y : E} (h : (if isSet b' then none else (cop op).bind fun p => (cop op').bind fun q => (cE n c a).bind fun x => (cE n c b).bind fun y => (cE n c b').bind fun z => some (E.ch2 p q x y z)) = some y) :
    PE X (.Compare a [op, op'] [b, b'] pos) (tR nm X.K en Wx fun env w => ev T R y env w) ∧ PT X (.Compare a [op, op'] [b, b'] pos) (tBl nm X.K en Wx fun env w => asB (ev T R y env w)) := by
  split at h
  · cases h
  · rename_i hs
    obtain ⟨p, h0, h⟩ := Option.bind_eq_some_iff.mp h
    obtain ⟨q, h00, h⟩ := Option.bind_eq_some_iff.mp h
    obtain ⟨x, h1, h⟩ := Option.bind_eq_some_iff.mp h
    obtain ⟨z, h2, h⟩ := Option.bind_eq_some_iff.mp h
    obtain ⟨u, h3, h⟩ := Option.bind_eq_some_iff.mp h
    cases h
    exact ⟨v_ch2 (cop_ok h0) (cop_ok h00) (S.e G h1) (S.e G h2) (S.e G h3) (last_plain (by simpa using hs)), c_ch2 (cop_ok h0) (cop_ok h00) (S.e G h1) (S.e G h2) (S.e G h3) (last_plain (by simpa using hs))⟩
theorem snd_t (S : Snd nm en T R fa k n) (G : GdX X nm fa R Wx k c) {e : Expr} {y : E} (h : cT (n + 1) c e = some y) : PT X e (tBl nm X.K en Wx fun env w => asB (ev T R y env w)) := by
  unfold cT at h
  split at h
  · obtain ⟨x, h1, h⟩ := Option.bind_eq_some_iff.mp h
    cases h
    have e : (fun env w => asB (ev T R (.nott x) env w)) = notB (fun env w => asB (ev T R x env w)) := by
      funext env w
      exact asB_blR _
    rw [e]
    exact c_not (S.t G h1)
  · exact (S.wa G h).pt
  · exact (S.wo G h).pt
  · split at h
    · cases h
    · rename_i hs
      obtain ⟨p, h0, h⟩ := Option.bind_eq_some_iff.mp h
      obtain ⟨x, h1, h⟩ := Option.bind_eq_some_iff.mp h
      obtain ⟨z, h2, h⟩ := Option.bind_eq_some_iff.mp h
      cases h
      exact c_cmp (cop_ok h0) (S.e G h1) (S.e G h2) (marks_plain (by simpa using hs))
  · exact (snd_cmp2 S G h).2
  · split at h
    · rename_i hp
      exact c_val (S.e G h) fun whole => test_plain hp whole
    · cases h
theorem snd_of (S : Snd nm en T R fa k n) (G : GdX X nm fa R Wx k c) {tg e : Expr} {x : E} (h : cE n c e = some x) : PI X tg e (tI nm X.K en Wx fun env w => evI T R (.of x) env w) := i_of (S.e G h)
theorem snd_i (S : Snd nm en T R fa k n) (G : GdX X nm fa R Wx k c) {tg e : Expr} {y : MP.It} (h : cI (n + 1) c (isTup tg) e = some y) : PI X tg e (tI nm X.K en Wx fun env w => evI T R y env w) ∧ ∀ x, foldedSetIterable e X.env x = pure x := by
  unfold cI at h
  split at h
  · refine ⟨?_, fun _ => rfl⟩
    split at h
    · rename_i hc
      simp only [Bool.and_eq_true, decide_eq_true_eq, Bool.not_eq_true', beq_iff_eq] at hc
      obtain ⟨⟨⟨rfl, h0⟩, h1⟩, h2⟩ := hc
      split at h
      · rename_i hg
        obtain ⟨x, h3, h⟩ := Option.bind_eq_some_iff.mp h
        cases h
        exact i_rng1 (G.gl h1) (G.md.free _ hg) (S.e G h3) (star1_ok h2)
      · cases h
    · split at h
      · rename_i hc
        simp only [Bool.and_eq_true, decide_eq_true_eq, Bool.not_eq_true', beq_iff_eq] at hc
        obtain ⟨⟨⟨⟨rfl, h0⟩, h1⟩, h2⟩, h4⟩ := hc
        split at h
        · rename_i hg
          obtain ⟨x, h3, h⟩ := Option.bind_eq_some_iff.mp h
          cases h
          cases tg <;> first | (cases h4; done) | skip
          exact i_enum (G.gl h1) (G.md.free _ hg) (S.e G h3) (star1_ok h2)
        · cases h
      · obtain ⟨x, h3, h⟩ := Option.bind_eq_some_iff.mp h
        cases h
        exact snd_of S G h3
  · refine ⟨?_, fun _ => rfl⟩
    split at h
    · rename_i hc
      simp only [Bool.and_eq_true, decide_eq_true_eq, Bool.not_eq_true', beq_iff_eq] at hc
      obtain ⟨⟨⟨⟨rfl, h0⟩, h1⟩, h2⟩, h2'⟩ := hc
      split at h
      · rename_i hg
        obtain ⟨x, h3, h⟩ := Option.bind_eq_some_iff.mp h
        obtain ⟨z, h4, h⟩ := Option.bind_eq_some_iff.mp h
        cases h
        exact i_rng2 (G.gl h1) (G.md.free _ hg) (S.e G h3) (S.e G h4) (by rw [star_ok h2, star_ok h2']; rfl) (star1_ok h2')
      · cases h
    · split at h
      · rename_i hc
        simp only [Bool.and_eq_true, decide_eq_true_eq, Bool.not_eq_true', beq_iff_eq] at hc
        obtain ⟨⟨⟨⟨⟨rfl, h0⟩, h1⟩, h2⟩, h2'⟩, h5⟩ := hc
        split at h
        · rename_i hg
          obtain ⟨x, h3, h⟩ := Option.bind_eq_some_iff.mp h
          obtain ⟨z, h4, h⟩ := Option.bind_eq_some_iff.mp h
          cases h
          cases tg <;> first | (cases h5; done) | skip
          exact i_zip (G.gl h1) (G.md.free _ hg) (S.e G h3) (S.e G h4) (star_ok h2) (star1_ok h2')
        · cases h
      · obtain ⟨x, h3, h⟩ := Option.bind_eq_some_iff.mp h
        cases h
        exact snd_of S G h3
  · split at h
    · cases h
    · rename_i hs
      obtain ⟨x, h3, h⟩ := Option.bind_eq_some_iff.mp h
      cases h
      exact ⟨snd_of S G h3, fun x => set_plain (by simpa using hs) x⟩
theorem str_of (x : Str) : (⟨x.cps.toList.toArray⟩ : Str) = x := by
  cases x
  simp
theorem rep_str {g : Gh} {K : PySem.W.Frag} {H : Hp} {x : Str} : Rep nm K g H (.str x.cps.toList) (.str x) := by
  have z := Rep.str (nm := nm) (K := K) (g := g) (H := H) x.cps.toList
  rw [str_of] at z
  exact z
theorem snd_e (S : Snd nm en T R fa k n) (G : GdX X nm fa R Wx k c) {e : Expr} {y : E} (h : cE (n + 1) c e = some y) : PE X e (tR nm X.K en Wx fun env w => ev T R y env w) := by
  unfold cE at h
  split at h
  · cases h
    exact v_con pe_int fun _ _ => .int _
  · cases h
    exact v_con pe_bl fun _ _ => .bl _
  · cases h
    exact v_con pe_non fun _ _ => .non
  · cases h
    exact v_con pe_str fun _ _ => rep_str
  · split at h
    · rename_i hn
      obtain ⟨d1, d2, d3⟩ := okName_ok hn
      split at h
      · rename_i hi
        split at h
        · rename_i hv
          cases h
          exact v_var (pe_var (G.at_ hi) (G.vis hv) d1 d2)
        · cases h
      · split at h
        · rename_i hg
          split at h
          · rename_i hc
            cases h
            obtain ⟨v, u, m1, m2, m3⟩ := G.md.con _ _ hc
            exact v_con (pe_glob (G.gl hg) m1 m2 d1) m3
          · rename_i hc
            cases h
            obtain ⟨m1, m2⟩ := G.md.cls _ _ hc
            exact v_con (pe_glob (v := .ref _) (G.gl hg) m1 rfl d1) fun g H => .cls _
          · cases h
        · cases h
    · cases h
  · obtain ⟨p, h0, h⟩ := Option.bind_eq_some_iff.mp h
    obtain ⟨x, h1, h⟩ := Option.bind_eq_some_iff.mp h
    obtain ⟨z, h2, h⟩ := Option.bind_eq_some_iff.mp h
    cases h
    exact v_bin (bop_ok h0) (S.e G h1) (S.e G h2)
  · obtain ⟨x, h1, h⟩ := Option.bind_eq_some_iff.mp h
    cases h
    exact v_not (S.e G h1)
  · obtain ⟨x, h1, h⟩ := Option.bind_eq_some_iff.mp h
    cases h
    exact v_neg (S.e G h1)
  · split at h
    · cases h
    · rename_i hs
      obtain ⟨p, h0, h⟩ := Option.bind_eq_some_iff.mp h
      obtain ⟨x, h1, h⟩ := Option.bind_eq_some_iff.mp h
      obtain ⟨z, h2, h⟩ := Option.bind_eq_some_iff.mp h
      cases h
      exact v_cmp (cop_ok h0) (S.e G h1) (S.e G h2) (marks_plain (by simpa using hs))
  · exact (snd_cmp2 S G h).1
  · exact S.ba G h
  · exact S.bo G h
  · obtain ⟨x, h1, h⟩ := Option.bind_eq_some_iff.mp h
    obtain ⟨z, h2, h⟩ := Option.bind_eq_some_iff.mp h
    obtain ⟨u, h3, h⟩ := Option.bind_eq_some_iff.mp h
    cases h
    exact v_ife (S.t G h1) (S.e G h2) (S.e G h3)
  · split at h
    · cases h
    · rename_i hs
      obtain ⟨x, h1, h⟩ := Option.bind_eq_some_iff.mp h
      cases h
      exact v_tup (v_allO (fun e y q => S.e G q) (by simpa using hs) h1)
  · split at h
    · cases h
    · rename_i hs
      obtain ⟨x, h1, h⟩ := Option.bind_eq_some_iff.mp h
      cases h
      exact v_lst (v_allO (fun e y q => S.e G q) (by simpa using hs) h1)
  · obtain ⟨x, h1, h⟩ := Option.bind_eq_some_iff.mp h
    obtain ⟨z, h2, h⟩ := Option.bind_eq_some_iff.mp h
    obtain ⟨u, h3, h⟩ := Option.bind_eq_some_iff.mp h
    cases h
    exact v_slice (S.e G h1) (S.o G h2) (S.o G h3)
  · split at h
    · cases h
    · rename_i hs
      obtain ⟨x, h1, h⟩ := Option.bind_eq_some_iff.mp h
      obtain ⟨z, h2, h⟩ := Option.bind_eq_some_iff.mp h
      cases h
      exact v_item (S.e G h1) (S.e G h2) (ix_plain (by simpa using hs))
  · split at h
    · rename_i hc
      simp only [Bool.and_eq_true, Bool.not_eq_true'] at hc
      obtain ⟨⟨h0, h1⟩, h2⟩ := hc
      obtain ⟨d1, d2, d3⟩ := okName_ok h0
      have h2' := h2
      rw [List.any_cons, Bool.or_eq_false_iff] at h2'
      split at h
      · rename_i hg
        obtain ⟨m1, m2⟩ := G.md.fn _ _ hg
        obtain ⟨xs, h3, h⟩ := Option.bind_eq_some_iff.mp h
        cases h
        exact v_call (G.fns _) G.room G.tk (G.gl h1) m1 m2 (v_allO (fun e y q => S.e G q) h2 h3) d1 (star_ok h2'.1) (pl_ok h2'.2)
      · rename_i hg
        have m1 := G.md.free _ hg
        split at h
        · split at h
          · subst_vars
            obtain ⟨x, h3, h⟩ := Option.bind_eq_some_iff.mp h
            cases h
            exact v_blt1 k_len (G.gl h1) m1 rfl (S.e G h3) d3 d1 (star1_ok h2'.1)
          · split at h
            · subst_vars
              obtain ⟨x, h3, h⟩ := Option.bind_eq_some_iff.mp h
              cases h
              exact v_typ1 k_int (G.gl h1) m1 rfl (S.e G h3) d3 d1 (star1_ok h2'.1)
            · cases h
        · rw [List.any_cons, Bool.or_eq_false_iff] at h2'
          obtain ⟨s1, s2, s3⟩ := h2'
          split at h
          · subst_vars
            obtain ⟨x, h3, h⟩ := Option.bind_eq_some_iff.mp h
            obtain ⟨z, h4, h⟩ := Option.bind_eq_some_iff.mp h
            cases h
            exact v_blt2 (k_max2 G.calm) (G.gl h1) m1 rfl (S.e G h3) (S.e G h4) d3 d1 (star_ok s1) (star1_ok s2)
          · split at h
            · subst_vars
              obtain ⟨x, h3, h⟩ := Option.bind_eq_some_iff.mp h
              obtain ⟨z, h4, h⟩ := Option.bind_eq_some_iff.mp h
              cases h
              exact v_blt2 (k_min2 G.calm) (G.gl h1) m1 rfl (S.e G h3) (S.e G h4) d3 d1 (star_ok s1) (star1_ok s2)
            · split at h
              · subst_vars
                split at h
                · split at h
                  · rename_i hc2
                    rw [Bool.and_eq_true] at hc2
                    obtain ⟨q1, q2, q3⟩ := okName_ok hc2.1
                    split at h
                    · rename_i hg2
                      obtain ⟨ty, h3, h⟩ := Option.bind_eq_some_iff.mp h
                      obtain ⟨x, h4, h⟩ := Option.bind_eq_some_iff.mp h
                      cases h
                      obtain ⟨t1, t2⟩ := tyName_ok h3
                      exact v_isT t1 (G.gl h1) m1 (G.gl hc2.2) (G.md.free _ hg2) t2 q3 q1 (S.e G h4) (star_ok s1)
                    · cases h
                  · cases h
                · cases h
              · cases h
        · cases h
      · cases h
    · cases h
  · split at h
    · rename_i hc
      simp only [Bool.and_eq_true] at hc
      obtain ⟨h0, h1⟩ := hc
      obtain ⟨d1, d2, d3⟩ := okName_ok h0
      split at h
      · rename_i hg
        obtain ⟨m1, m2⟩ := G.md.fn _ _ hg
        cases h
        exact v_call0 (G.fns _) G.room G.tk (G.gl h1) m1 m2 d1
      · cases h
    · cases h
  · split at h
    · rename_i hc
      simp only [Bool.and_eq_true, Bool.not_eq_true', decide_eq_true_eq] at hc
      obtain ⟨⟨rfl, h1⟩, h2⟩ := hc
      obtain ⟨x, h3, h⟩ := Option.bind_eq_some_iff.mp h
      cases h
      refine v_join (v_con pe_str fun _ _ => rep_str) (S.e G h3) (fun env w x w' q => ⟨_, by cases q; rfl⟩) (star1_ok h2) base_const h1
    · cases h
  · split at h
    · rename_i hc
      simp only [Bool.and_eq_true, Bool.not_eq_true', decide_eq_true_eq] at hc
      obtain ⟨⟨⟨⟨h0, h1⟩, h2⟩, h5⟩, h6⟩ := hc
      obtain ⟨d1, d2, d3⟩ := okName_ok h0
      have h2' := h2
      rw [List.any_cons, Bool.or_eq_false_iff] at h2'
      split at h
      · rename_i hg
        obtain ⟨m1, m2⟩ := G.md.cls _ _ hg
        obtain ⟨f, h3, h⟩ := Option.bind_eq_some_iff.mp h
        obtain ⟨xs, h4, h⟩ := Option.bind_eq_some_iff.mp h
        cases h
        obtain ⟨⟨q, m3⟩, m4⟩ := G.md.sm _ _ _ _ hg h3
        exact v_static (G.fns _) G.room G.tk (pe_glob (v := .ref _) (G.gl h1) m1 rfl d1) m2 m3 m4 (v_allO (fun e y q => S.e G q) h2 h4) (star_ok h2'.1) (pl_ok h2'.2) (meth_form rfl h2 h6 h5)
      · cases h
    · cases h
  · obtain ⟨it, h1, h⟩ := Option.bind_eq_some_iff.mp h
    obtain ⟨own, h2, h⟩ := Option.bind_eq_some_iff.mp h
    split at h
    · rename_i hb
      obtain ⟨t, h3, h⟩ := Option.bind_eq_some_iff.mp h
      split at h
      · rename_i hw
        obtain ⟨i1, i2⟩ := S.i G h1
        have ok := blkOk_by hb
        rw [← G.eN, ← G.sc] at ok
        split at h
        · obtain ⟨x, h4, h⟩ := Option.bind_eq_some_iff.mp h
          cases h
          exact v_comp G.calm G.nd i1 ok hw (fun s H C cl fp => g_ok (G.blk s H _ C cl fp) h3) (fun s H C cl fp => ts_nil) (fun s H C cl fp => v_D (S.e (G.blk s H _ C cl fp) h4)) i2
        · obtain ⟨z, h5, h⟩ := Option.bind_eq_some_iff.mp h
          obtain ⟨x, h4, h⟩ := Option.bind_eq_some_iff.mp h
          cases h
          exact v_comp G.calm G.nd i1 ok hw (fun s H C cl fp => g_ok (G.blk s H _ C cl fp) h3) (fun s H C cl fp => ts_one (S.t (G.blk s H _ C cl fp) h5)) (fun s H C cl fp => v_D (S.e (G.blk s H _ C cl fp) h4)) i2
        · cases h
      · cases h
    · cases h
  · cases h
theorem snd : ∀ n : Nat, Snd nm en T R fa k n
  | 0 => by constructor <;> (intros; rename_i h; cases h)
  | n + 1 => by
    have S := snd n
    exact { e := fun G _ _ h => snd_e S G h, ba := fun G _ _ _ h => snd_ba S G h, bo := fun G _ _ _ h => snd_bo S G h, t := fun G _ _ h => snd_t S G h, wa := fun G _ _ _ h => snd_wa S G h, wo := fun G _ _ _ h => snd_wo S G h, o := fun G _ _ h => snd_o S G h, i := fun G _ _ _ h => snd_i S G h }
end
end MP

set_option maxRecDepth 100000
set_option maxHeartbeats 2000000
/-! MPW: cells, while, unpacking; the compiler of statements. -/
namespace MP
open PySem PySem.Spec PyProof.Rows L2
section
variable {X : Cx} {nm : Nm} {en : En} {Wx : WX} {g g' g1 g2 : Gh} {H H' H1 H2 : Hp} {w w' w1 : Wd} {env env' : Env} {σ σ' : L2.St} {K : PySem.W.Frag} {st : Stmt} {sts : List Stmt} {rs rr : Env → Wd → SR} {ra rb : Env → Wd → Res RV} {rA : Env → Wd → Res Bool} {a b e : Expr} {pos : Pos}
def Gh.cell (g : Gh) (p : Addr) : Gh := ⟨g.M, g.cm ++ [p]⟩
/-- a new thing becomes a cell -/
def mkR (r : Res RV) : Res RV := r.bind fun x w => match x with
    | .fl o => .ok (.d (.cell w.length)) (w ++ [o])
    | _ => .bad
theorem t_mkcell {Q : VK} (h : tR nm K en Wx (fun env w => mkR (ra env w)) σ H Q) : tR nm K en Wx ra σ H Q := by
  obtain ⟨g, env, w, B, q⟩ := h
  exact ⟨g, env, w, B, EG.bind q fun x w1 g1 H1 v e1 E1 W1 R1 q => by
    cases x with
    | d y => exact q.elim
    | bor o => exact q.elim
    | fl o =>
      obtain ⟨⟨p, rfl, h1, h2⟩, h3⟩ := R1
      obtain ⟨h4, h5⟩ := h3 o rfl p rfl
      have X0 : Ext0 g1 (g1.cell p) H1 H1 := ⟨fun _ _ h _ => h, fun _ _ h => h, fun _ _ _ h => h, fun _ h => .inl h, List.prefix_append _ _⟩
      have E : Ext g (g1.cell p) H H1 := ⟨E1.keep, E1.tup, E1.frz, E1.old, E1.new, E1.pre.trans (List.prefix_append _ _), fun b hb => by
        rcases List.mem_append.mp hb with z | z
        · exact E1.newc b z
        · rw [List.mem_singleton.mp z]
          exact .inr h4, E1.live⟩
      have ow : ∀ {o : Ow} {b : Addr}, OwR nm K g1 H1 o b → OwR nm K (g1.cell p) H1 o b := fun {o b} r => by
        cases r with
        | L h6 h7 => exact .L h6 (RepL.mono0 X0 _ _ h7)
        | O h6 l h7 => exact .O h6 l (RepL.mono0 X0 _ _ h7)
      have q : ∀ g' H' v, Ext g g' H H' → WR nm K g' (w1 ++ [o]) H' → RP nm K g' H H' (.d (.cell w1.length)) v → Q v H' := q
      refine q _ H1 _ E ⟨fun n o' hn => ?_, ?_, fun b hb => ?_, ?_, W1.dom⟩ (RP.d (.cell ?_))
      · show ∃ a, (g1.cm ++ [p])[n]? = some a ∧ _
        by_cases hlt : n < w1.length
        · rw [List.getElem?_append_left hlt] at hn
          obtain ⟨b, h6, h7⟩ := W1.cells n o' hn
          exact ⟨b, by rw [List.getElem?_append_left (by rw [W1.len]; exact hlt)]; exact h6, ow h7⟩
        · rw [List.getElem?_append_right (by omega)] at hn
          have hz : n - w1.length = 0 := by
            cases hk : n - w1.length with
            | zero => rfl
            | succ k => rw [hk] at hn; cases hn
          rw [hz] at hn
          cases hn
          exact ⟨p, by rw [List.getElem?_append_right (by rw [W1.len]; omega), W1.len, hz]; rfl, ow h1⟩
      · show (g1.cm ++ [p]).length = (w1 ++ [o]).length
        rw [List.length_append, List.length_append, W1.len]
        rfl
      · rcases List.mem_append.mp hb with z | z
        · exact W1.cmM b z
        · rw [List.mem_singleton.mp z]
          exact h5
      · show (g1.cm ++ [p]).Nodup
        rw [List.nodup_append]
        refine ⟨W1.nd, by simp, fun b hb c hc => ?_⟩
        rw [List.mem_singleton.mp hc]
        exact fun z => h2 (z ▸ hb)
      · show (g1.cm ++ [p])[w1.length]? = some p
        rw [List.getElem?_append_right (by rw [W1.len]; omega), W1.len]
        simp⟩
theorem v_mkcell (h : PE X e (tR nm X.K en Wx ra)) : PE X e (tR nm X.K en Wx fun env w => mkR (ra env w)) := h.imp fun σ H Q q => t_mkcell q
def WhlW (nm : Nm) (K : PySem.W.Frag) (en : En) (Wx : WX) (c : Env → Wd → Res Bool) (f : Env → Wd → SR) (g1 : Gh) (H1 : Hp) (D : Ends) (m : Nat) (σ : L2.St) (H : Hp) : Prop :=
  ∃ g env w, BR nm K en g env w σ H ∧ Ext0 g1 g H1 H ∧ SG nm K en Wx g H (whlLoop c f m env w) D
theorem s_whl {c : Expr} {body : List Stmt} {rb : Env → Wd → SR} {fuel : Nat} (hp : PassesOwn (model X.prog X.w) X.A X.env X.xe) (hc : PT X c (tBl nm X.K en Wx rA)) (hb : PSs X body (tS nm X.K en Wx rb)) :
    PS X (.While c body [] pos) (tS nm X.K en Wx fun env w => whlLoop rA rb fuel env w) :=
  (ps_while hp hc hb).imp fun D σ H ⟨g, env, w, B, q⟩ => by
    refine ⟨WhlW nm X.K en Wx rA rb g H D, ⟨fuel, g, env, w, B, Ext0.refl, q⟩, ?_⟩
    rintro m σ2 H2 ⟨g2, env2, w2, B2, X2, q2⟩
    cases m with
    | zero => exact q2.elim
    | succ m =>
      unfold whlLoop at q2
      refine ⟨g2, env2, w2, B2, SG.bind B2 q2 fun t w1 g1 H1 v e1 E1 W1 R1 q => ?_⟩
      subst R1
      have q := q.start (E1.to0 B2.wr.cmM)
      have B1 := B2.step E1 W1
      have X1 := X2.trans (E1.to0 B2.wr.cmM)
      cases t with
      | true =>
        rw [if_pos rfl]
        rw [if_pos rfl] at q
        refine ⟨WhlW nm X.K en Wx rA rb g H D m, fun σ' H' h' => ⟨m, Nat.lt_succ_self m, h'⟩, g1, env2, w1, B1, ?_⟩
        cases er : rb env2 w1 with
        | next env4 w4 => rw [er] at q; exact fun g' σ' H' B' E' => ⟨g', env4, w4, B', X1.trans E', q.start E'⟩
        | cont env4 w4 => rw [er] at q; exact fun g' σ' H' B' E' => ⟨g', env4, w4, B', X1.trans E', q.start E'⟩
        | brk env4 w4 => rw [er] at q; exact q
        | ret rv w4 => rw [er] at q; exact q
        | exc c fs env4 w4 => rw [er] at q; exact q
        | bad => rw [er] at q; exact q.elim
      | false =>
        rw [if_neg (by decide)] at q ⊢
        exact q g1 σ2 H1 B1 Ext0.refl
theorem s_unp {is : List Nat} (h : PS X st (tAsg (tR nm X.K en Wx ra) (gTg nm X.K en (.tup is)))) : PS X st (tS nm X.K en Wx fun env w => onOk env (asD (ra env w)) fun x w => match x with
    | .tup xs => match bindTg (.tup is) (.tup xs) env with
      | some env => .next env w
      | none => .bad
    | _ => .bad) :=
  h.imp fun D σ H ⟨g, env, w, B, q⟩ => ⟨g, env, w, B, SG.bindD B q fun x w1 g1 H1 v E1 W1 R1 q => by
    have q := q.start (E1.to0 B.wr.cmM)
    have B1 := B.step E1 W1
    cases x with
    | tup xs =>
      dsimp only at q
      cases eb : bindTg (.tup is) (.tup xs) env with
      | none => rw [eb] at q; exact (show False from q).elim
      | some env' =>
        rw [eb] at q
        exact ⟨g1, env, env', w1, .tup xs, B1, R1, eb, fun σ' B' _ _ => q g1 σ' H1 B' Ext0.refl⟩
    | _ => exact (show False from q).elim⟩
end

/-! ### the compiler of statements -/
structure Hi where
  cel : List Nat
  cret : Bool
mutual
/-- the names whose own lists become values -/
def esD : E → List Nat
  | .var i => [i]
  | .ife c a b => esV c ++ (esD a ++ esD b)
  | .con _ => []
  | .tup es => esDs es
  | .lst es => esDs es
  | .p1 _ a => esV a
  | .p2 _ a b => esV a ++ esV b
  | .ch2 _ _ a b c => esV a ++ (esV b ++ esV c)
  | .ch3 _ _ _ a b c d => esV a ++ (esV b ++ (esV c ++ esV d))
  | .andd a b => esV a ++ esV b
  | .orr a b => esV a ++ esV b
  | .nott a => esV a
  | .slice a _ _ => esV a
  | .attr a _ => esV a
  | .call _ es => esDs es
  | .make _ es => esDs es
  | .meth a _ es => esD a ++ esDs es
  | .comp x _ it c => esD x ++ (esI it ++ esV c)
  | .mkcell a => esV a
def esV : E → List Nat
  | .var _ => []
  | .ife c a b => esV c ++ (esV a ++ esV b)
  | .con _ => []
  | .tup es => esDs es
  | .lst es => esDs es
  | .p1 _ a => esV a
  | .p2 _ a b => esV a ++ esV b
  | .ch2 _ _ a b c => esV a ++ (esV b ++ esV c)
  | .ch3 _ _ _ a b c d => esV a ++ (esV b ++ (esV c ++ esV d))
  | .andd a b => esV a ++ esV b
  | .orr a b => esV a ++ esV b
  | .nott a => esV a
  | .slice a _ _ => esV a
  | .attr a _ => esV a
  | .call _ es => esDs es
  | .make _ es => esDs es
  | .meth a _ es => esD a ++ esDs es
  | .comp x _ it c => esD x ++ (esI it ++ esV c)
  | .mkcell a => esV a
def esDs : Es → List Nat
  | .nil => []
  | .cons e r => esD e ++ esDs r
def esI : It → List Nat
  | .of e => esD e
  | .range1 a => esV a
  | .range2 a b => esV a ++ esV b
  | .enum a => esD a
  | .zip a b => esD a ++ esD b
end
def fz : S → List Nat
  | .expr e => esV e
  | .set _ e => esD e
  | .unp _ e => esD e
  | .aug _ _ e => esV e
  | .setItem _ b e => esV b ++ esD e
  | .setAttr _ _ e => esD e
  | .append _ e => esD e
  | .ret e => esD e
  | .ite c _ _ => esV c
  | .for_ _ it _ => esI it
  | .whl c _ => esV c
  | .raise _ es => esDs es
  | _ => []
def fzS : List Nat → S → Ss → Ss
  | [], s, r => .cons s r
  | i :: is, s, r => .cons (.frz i) (fzS is s r)
def mkC (h : Hi) (i : Nat) (e : E) : E := if h.cel.contains i then .mkcell e else e
def isDoc : Expr → Bool
  | .Constant (.str _) _ _ => true
  | _ => false
/-- where the new list of a comprehension goes into the name itself -/
def lcName (c : Cc) (y : Str) (py : Pos) (scope : Scope) (pos : Pos) : Bool :=
  (c.sc.kind == .function) && (c.sc.names.lookup y == some .local) && (py.line == pos.line) && !(scope.names.any fun (n, k) => n == y && (k == .local || k == .cell))
def nmV (c : Cc) (x : Str) : Option Nat := if okName x && vis c.sc x then ix c.N x else none
mutual
def cS : Nat → Cc → Hi → Stmt → Option S
  | 0, _, _, _ => none
  | n + 1, c, h, s => match s with
    | .Pass _ => some .pass
    | .Break _ => some .brk
    | .Continue _ => some .cont
    | .Expr (.Constant (.str _) _ _) _ => some .pass
    | .Expr (.Call (.Attribute (.Name x _) m apos) [b] [] pos) _ => if m = "append" && (apos.endLine == pos.line) && !isStar b then (nmV c x).bind fun i => (cE n c b).bind fun y => some (.append i y) else none
    | .Expr e _ => if isComp e then none else (cE n c e).bind fun y => some (.expr y)
    | .Assign [.Name x py] (.ListComp elt gs scope pos) _ => if lcName c x py scope pos then (nmS c (.Name x py)).bind fun i => (cE n c (.ListComp elt gs scope pos)).bind fun y => some (.set i (mkC h i y)) else none
    | .Assign [.Name x p] e _ => if isComp e then none else (nmS c (.Name x p)).bind fun i => (cE n c e).bind fun y => some (.set i (mkC h i y))
    | .Assign [.Subscript (.Name x _) b _] e _ => if isComp e || isSlice b then none else (nmV c x).bind fun i => (cE n c b).bind fun z => (cE n c e).bind fun y => some (.setItem i z y)
    | .Assign [.Tuple ts _ _] e _ => if isComp e || isTup e then none else (allO (nmS c) ts).bind fun is => (cE n c e).bind fun y => some (.unp is y)
    | .AugAssign (.Name x p) op e _ => (nop op).bind fun q => (nmS c (.Name x p)).bind fun i => (cE n c e).bind fun y => some (.aug i q y)
    | .Return none _ => some (.ret (.con .non))
    | .Return (some (.Name x p)) _ => match nmV c x with
      | some i => some (.retv i)
      | none => (cE n c (.Name x p)).bind fun y => some (.ret y)
    | .Return (some e) _ => (cE n c e).bind fun y => some (.ret (if h.cret then .mkcell y else y))
    | .If t a b _ => (cT n c t).bind fun x => (cSs n c h a).bind fun y => (cSs n c h b).bind fun z => some (.ite x y z)
    | .For tg it b [] _ => (cI n c (isTup tg) it).bind fun x => (cTg c tg).bind fun t => (cSs n c h b).bind fun y => some (.for_ t x y)
    | .While t b [] _ => (cT n c t).bind fun x => (cSs n c h b).bind fun y => some (.whl x y)
    | _ => none
def cSs : Nat → Cc → Hi → List Stmt → Option Ss
  | 0, _, _, _ => none
  | n + 1, c, h, ss => match ss with
    | [] => some .nil
    | s :: r => (cS n c h s).bind fun x => (cSs n c h r).bind fun y => some (fzS (fz x) x y)
end
end MP

set_option maxRecDepth 100000
set_option maxHeartbeats 2000000
/-! MPY: the code says what the text does: statements. -/
namespace MP
open PySem PySem.Spec PyProof.Rows L2
structure GdS (X : Cx) (nm : Nm) (fa : Nat → Addr) (R : Calls) (Wx : WX) (k : Nat) (c : Cc) : Prop extends GdX X nm fa R Wx k c where
  hp : PassesOwn (model X.prog X.w) X.A X.env X.xe
section
variable {X : Cx} {nm : Nm} {fa : Nat → Addr} {T : Tab} {R : Calls} {Wx : WX} {k : Nat} {c : Cc} {en : En} {n : Nat}
theorem lc_parts (G : GdX X nm fa R Wx k c) {elt : Expr} {gs : List Comprehension} {scope : Scope} {pos : Pos} {y : E} (h : cE n c (.ListComp elt gs scope pos) = some y) :
    ∃ tg iter ifs own t ri rcond relt, gs = [⟨tg, iter, ifs, 0⟩] ∧ PI X tg iter (tI nm X.K en Wx ri) ∧ BlkOk X.N X.env.scope scope own ∧ own.map (·.2) = tgSlots t ∧
      (∀ (s : Shared) (H : Hp) (C : Addr) (cl : List (Str × Addr)) (fp : List Addr), PG (X.blk s H scope (compEnvC scope cl C X.env) fp) tg (gTg nm X.K en t)) ∧
      (∀ (s : Shared) (H : Hp) (C : Addr) (cl : List (Str × Addr)) (fp : List Addr), PTs (X.blk s H scope (compEnvC scope cl C X.env) fp) ifs (tBl nm X.K en WF rcond)) ∧
      (∀ (s : Shared) (H : Hp) (C : Addr) (cl : List (Str × Addr)) (fp : List Addr), PE (X.blk s H scope (compEnvC scope cl C X.env) fp) elt (tV nm X.K en WF relt)) ∧
      (∀ x, foldedSetIterable iter X.env x = pure x) ∧
      (fun env w => ev T R y env w) = fun env w => (ri env w).bind fun xs w => if xs.length ≤ big then (compLoop (turnF rcond relt t env) xs w).bind fun ys w => .ok (.fl (.L ys)) w else .bad := by
  cases n with
  | zero => cases h
  | succ n =>
    have S : Snd nm en T R fa k n := snd n
    unfold cE at h
    split at h <;> first | (rename_i e; exact Expr.noConfusion e) | skip
    · rename_i e
      injection e with e1 e2 e3 e4
      subst e1 e2 e3 e4
      obtain ⟨it, h1, h⟩ := Option.bind_eq_some_iff.mp h
      obtain ⟨own, h2, h⟩ := Option.bind_eq_some_iff.mp h
      split at h
      · rename_i hb
        obtain ⟨t, h3, h⟩ := Option.bind_eq_some_iff.mp h
        split at h
        · rename_i hw
          obtain ⟨i1, i2⟩ := S.i G h1
          have ok := blkOk_by hb
          rw [← G.eN, ← G.sc] at ok
          split at h
          · obtain ⟨x, h4, h⟩ := Option.bind_eq_some_iff.mp h
            cases h
            exact ⟨_, _, _, own, t, _, _, _, rfl, i1, ok, hw, (fun s H C cl fp => g_ok (G.blk s H _ C cl fp) h3), (fun s H C cl fp => ts_nil), (fun s H C cl fp => v_D (S.e (G.blk s H _ C cl fp) h4)), i2, rfl⟩
          · obtain ⟨z, h5, h⟩ := Option.bind_eq_some_iff.mp h
            obtain ⟨x, h4, h⟩ := Option.bind_eq_some_iff.mp h
            cases h
            exact ⟨_, _, _, own, t, _, _, _, rfl, i1, ok, hw, (fun s H C cl fp => g_ok (G.blk s H _ C cl fp) h3), (fun s H C cl fp => ts_one (S.t (G.blk s H _ C cl fp) h5)), (fun s H C cl fp => v_D (S.e (G.blk s H _ C cl fp) h4)), i2, rfl⟩
          · cases h
        · cases h
      · cases h
    · cases h
theorem nmV_ok (G : GdX X nm fa R Wx k c) {x : Str} {i : Nat} {p : Pos} (h : nmV c x = some i) : PE X (.Name x p) (tVar i) := by
  unfold nmV at h
  split at h
  · rename_i hc
    rw [Bool.and_eq_true] at hc
    obtain ⟨d1, d2, d3⟩ := okName_ok hc.1
    exact pe_var (G.at_ h) (G.vis hc.2) d1 d2
  · cases h
theorem nmS_ok (G : GdX X nm fa R Wx k c) {x : Str} {i : Nat} {p : Pos} (h : nmS c (.Name x p) = some i) : X.N[i]? = some x ∧ L2.Loc X.env.scope x ∧ (X.fn x = true ∨ X.env.scope.names.lookup x = some .local) := by
  unfold nmS at h
  dsimp only at h
  split at h
  · rename_i hs
    exact ⟨G.at_ h, G.sto hs⟩
  · cases h
theorem mkC_asg {st : Stmt} {i j : Nat} {y : E} {h : Hi} (p : PS X st (tAsg (tR nm X.K en Wx fun env w => ev T R y env w) (gName i))) : PS X st (tAsg (tR nm X.K en Wx fun env w => ev T R (mkC h j y) env w) (gName i)) := by
  unfold mkC
  split
  · exact p.imp fun D σ H q => t_mkcell q
  · exact p
theorem fzS_ok {s : Stmt} {sts : List Stmt} {x : S} {y : Ss} (h1 : PS X s (tS nm X.K en Wx fun env w => exS T R x env w)) (h2 : PSs X sts (tS nm X.K en Wx fun env w => exSs T R y env w)) :
    ∀ is : List Nat, PSs X (s :: sts) (tS nm X.K en Wx fun env w => exSs T R (fzS is x y) env w)
  | [] => ss_cons h1 h2
  | i :: is => ss_frz (fzS_ok h1 h2 is)
structure SndS (nm : Nm) (en : En) (T : Tab) (R : Calls) (fa : Nat → Addr) (k n : Nat) : Prop where
  s : ∀ {X : Cx} {Wx : WX} {c : Cc} {h : Hi}, GdS X nm fa R Wx k c → ∀ {st : Stmt} {y : S}, cS n c h st = some y → PS X st (tS nm X.K en Wx fun env w => exS T R y env w)
  ss : ∀ {X : Cx} {Wx : WX} {c : Cc} {h : Hi}, GdS X nm fa R Wx k c → ∀ {sts : List Stmt} {y : Ss}, cSs n c h sts = some y → PSs X sts (tS nm X.K en Wx fun env w => exSs T R y env w)
theorem snd_ss (S : SndS nm en T R fa k n) {h : Hi} (G : GdS X nm fa R Wx k c) {sts : List Stmt} {y : Ss} (q : cSs (n + 1) c h sts = some y) : PSs X sts (tS nm X.K en Wx fun env w => exSs T R y env w) := by
  unfold cSs at q
  split at q
  · cases q
    exact ss_nil
  · obtain ⟨x, h1, q⟩ := Option.bind_eq_some_iff.mp q
    obtain ⟨z, h2, q⟩ := Option.bind_eq_some_iff.mp q
    cases q
    exact fzS_ok (S.s G h1) (S.ss G h2) _
theorem snd_s (Z : SndS nm en T R fa k n) {h : Hi} (G : GdS X nm fa R Wx k c) {st : Stmt} {y : S} (q : cS (n + 1) c h st = some y) : PS X st (tS nm X.K en Wx fun env w => exS T R y env w) := by
  have E : Snd nm en T R fa k n := snd n
  unfold cS at q
  split at q
  · cases q
    exact s_pass
  · cases q
    exact s_break
  · cases q
    exact s_continue
  · cases q
    exact s_doc
  · split at q
    · rename_i hc
      simp only [Bool.and_eq_true, Bool.not_eq_true', decide_eq_true_eq] at hc
      obtain ⟨⟨rfl, h1⟩, h2⟩ := hc
      obtain ⟨i, h3, q⟩ := Option.bind_eq_some_iff.mp q
      obtain ⟨z, h4, q⟩ := Option.bind_eq_some_iff.mp q
      cases q
      refine s_append (ps_expr (pe_bm PySem.F.plainAttrs_list PySem.F.slot_list_append PySem.F.type_list_append mt_append (nmV_ok G.toGdX h3) (pa_cons (E.e G.toGdX h4) pa_nil (star1_ok h2)) rfl ?_ h1 (star1_ok h2) rfl) rfl)
      rw [star1_ok h2]
      rfl
    · cases q
  · split at q
    · cases q
    · rename_i hc
      obtain ⟨z, h4, q⟩ := Option.bind_eq_some_iff.mp q
      cases q
      exact s_expr (E.e G.toGdX h4) (swaps_plain (by simpa using hc))
  · split at q
    · rename_i hc
      obtain ⟨i, h3, q⟩ := Option.bind_eq_some_iff.mp q
      obtain ⟨z, h4, q⟩ := Option.bind_eq_some_iff.mp q
      cases q
      unfold lcName at hc
      simp only [Bool.and_eq_true, beq_iff_eq, Bool.not_eq_true'] at hc
      obtain ⟨⟨⟨c1, c2⟩, c3⟩, c4⟩ := hc
      obtain ⟨b1, b2, b3⟩ := nmS_ok (p := ‹_›) G.toGdX h3
      obtain ⟨tg, iter, ifs, own, t, ri, rcond, relt, rfl, p1, p2, p3, p4, p5, p6, p7, p8⟩ := lc_parts (T := T) (en := en) G.toGdX h4
      refine s_set (mkC_asg ?_)
      rw [p8]
      exact (ps_setLc G.calm G.nd b1 (by rw [G.sc]; exact c2) (sw_true (by rw [G.sc]; exact c1) (by rw [G.sc]; exact c2) (by simpa using c3) c4) p1 p2 p4 p5 p6 p7).imp fun D σ H q => comp_reads p3 q
    · cases q
  · split at q
    · cases q
    · rename_i hc
      obtain ⟨i, h3, q⟩ := Option.bind_eq_some_iff.mp q
      obtain ⟨z, h4, q⟩ := Option.bind_eq_some_iff.mp q
      cases q
      obtain ⟨b1, b2, b3⟩ := nmS_ok G.toGdX h3
      exact s_set (mkC_asg (ps_set G.nd b1 b2 (E.e G.toGdX h4) (swaps_plain (by simpa using hc)) b3))
  · split at q
    · cases q
    · rename_i hc
      simp only [Bool.or_eq_true, not_or, Bool.not_eq_true] at hc
      obtain ⟨i, h3, q⟩ := Option.bind_eq_some_iff.mp q
      obtain ⟨z, h4, q⟩ := Option.bind_eq_some_iff.mp q
      obtain ⟨u, h5, q⟩ := Option.bind_eq_some_iff.mp q
      cases q
      refine s_setItem (ps_asg (E.e G.toGdX h5) (pg_sub (nmV_ok G.toGdX h3) (E.e G.toGdX h4) set_list fun v => sub_plain hc.2 v) (sole_plain hc.1) (swst_sub) rfl)
  · split at q
    · cases q
    · rename_i hc
      simp only [Bool.or_eq_true, not_or, Bool.not_eq_true] at hc
      obtain ⟨is, h3, q⟩ := Option.bind_eq_some_iff.mp q
      obtain ⟨z, h4, q⟩ := Option.bind_eq_some_iff.mp q
      cases q
      obtain ⟨a1, a2, a3⟩ := g_each G.toGdX h3
      exact s_unp (ps_asg (E.e G.toGdX h4) (g_tup G.calm a1 a2 a3) (sole_plain hc.1) (swst_plain hc.2) rfl)
  · obtain ⟨p, h3, q⟩ := Option.bind_eq_some_iff.mp q
    obtain ⟨i, h4, q⟩ := Option.bind_eq_some_iff.mp q
    obtain ⟨z, h5, q⟩ := Option.bind_eq_some_iff.mp q
    cases q
    obtain ⟨b1, b2, b3⟩ := nmS_ok G.toGdX h4
    exact s_aug G.nd b1 b2 (E.e G.toGdX h5) (nop_ok h3) b3
  · cases q
    exact s_retN
  · split at q
    · rename_i hv
      cases q
      exact s_retv (nmV_ok G.toGdX hv)
    · obtain ⟨z, h4, q⟩ := Option.bind_eq_some_iff.mp q
      cases q
      exact s_ret (E.e G.toGdX h4)
  · obtain ⟨z, h4, q⟩ := Option.bind_eq_some_iff.mp q
    split at q
    · cases q
      exact s_ret (v_mkcell (E.e G.toGdX h4))
    · cases q
      exact s_ret (E.e G.toGdX h4)
  · obtain ⟨x, h3, q⟩ := Option.bind_eq_some_iff.mp q
    obtain ⟨z, h4, q⟩ := Option.bind_eq_some_iff.mp q
    obtain ⟨u, h5, q⟩ := Option.bind_eq_some_iff.mp q
    cases q
    exact s_if (E.t G.toGdX h3) (Z.ss G h4) (Z.ss G h5)
  · obtain ⟨x, h3, q⟩ := Option.bind_eq_some_iff.mp q
    obtain ⟨t, h4, q⟩ := Option.bind_eq_some_iff.mp q
    obtain ⟨u, h5, q⟩ := Option.bind_eq_some_iff.mp q
    cases q
    obtain ⟨i1, i2⟩ := E.i G.toGdX h3
    exact s_for G.hp G.calm i1 (g_ok G.toGdX h4) (Z.ss G h5) i2
  · obtain ⟨x, h3, q⟩ := Option.bind_eq_some_iff.mp q
    obtain ⟨u, h5, q⟩ := Option.bind_eq_some_iff.mp q
    cases q
    exact s_whl G.hp (E.t G.toGdX h3) (Z.ss G h5)
  · cases q
theorem sndS : ∀ n : Nat, SndS nm en T R fa k n
  | 0 => by constructor <;> (intros; rename_i h; cases h)
  | n + 1 => by
    have S := sndS n
    exact { s := fun G _ _ h => snd_s S G h, ss := fun G _ _ h => snd_ss S G h }
end
end MP

set_option maxRecDepth 100000
set_option maxHeartbeats 2000000
/-! MPD: defs, programs, the head's facts, the law. -/
namespace MP
open PySem PySem.Spec PyProof.Rows L2
/-! ### one def -/
def fnR (T : Tab) (R : Calls) (np ns : Nat) (y : Ss) : List D → Wd → Res RV := fun xs w => if xs.length = np then endFn (exSs T R y (startE ⟨np, ns, y⟩ xs) w) else .bad
section
variable {P : Program} {W : World} {K : PySem.W.Frag} {mg : Str → Option Value} {base : Heap} {nm : Nm} {fa : Nat → Addr} {T : Tab} {R : Calls} {k n : Nat}
theorem EG.lenR {np ns : Nat} {y : Ss} {xs : List D} {w : Wd} {Wx : WX} {σ : L2.St} {rel : Gh → Hp → RV → V → Prop} {g : Gh} {H : Hp} {Q : VK} (h : EG nm K Wx σ rel g H (fnR T R np ns y xs w) Q) : xs.length = np ∧ EG nm K Wx σ rel g H (endFn (exSs T R y (startE ⟨np, ns, y⟩ xs) w)) Q := by
  unfold fnR at h
  split at h
  · exact ⟨by assumption, h⟩
  · exact h.elim
theorem start_env {ns np : Nat} {y : Ss} : ∀ {xs : List D} {i : Nat} {s : Slot}, (startE ⟨np, ns, y⟩ xs)[i]? = some s → (∃ x, s = .val x ∧ xs[i]? = some x) ∨ s = .none := by
  intro xs i s h
  unfold startE at h
  by_cases hi : i < xs.length
  · rw [List.getElem?_append_left (by simpa using hi), List.getElem?_map] at h
    obtain ⟨x, h1, h2⟩ := Option.map_eq_some_iff.mp h
    exact .inl ⟨x, h2.symm, h1⟩
  · rw [List.getElem?_append_right (by simpa using hi)] at h
    have h := List.mem_of_getElem? h
    exact .inr (List.eq_of_mem_replicate h)
theorem start_val {N : List Str} {vs : List V} {i : Nat} {v : V} (h : vs[i]? = some v) : (L2.start N vs)[i]? = some (some v) := by
  have hi := (List.getElem?_eq_some_iff.mp h).1
  unfold L2.start
  rw [List.getElem?_append_left (by simpa using hi), List.getElem?_map, h]
  rfl
theorem start_BR {g : Gh} {H : Hp} {w : Wd} {xs : List D} {vs : List V} {N : List Str} {np : Nat} {y : Ss} (B : WR nm K g w H) (r : RepL nm K g H xs vs) (hl : xs.length ≤ N.length) (dm : ∀ a, g.M a → H a ≠ none) : BR nm K ⟨H, g, dm⟩ g (startE ⟨np, N.length, y⟩ xs) w (L2.start N vs) H where
  wr := B
  ext := Ext.refl
  len := by
    have e := r.length
    unfold startE L2.start
    simp
    omega
  val := fun i x h => by
    rcases start_env h with ⟨z, e, h1⟩ | e
    · cases e
      obtain ⟨v, h2, h3⟩ := r.get h1
      exact ⟨v, start_val h2, h3⟩
    · cases e
  own := fun i o h => by
    rcases start_env h with ⟨z, e, h1⟩ | e <;> cases e
  dis := fun i j o p a h => by
    rcases start_env h with ⟨z, e, h1⟩ | e <;> cases e
theorem def_ok {x qual : Str} {params : Arguments} {body : List Stmt} {scope : Scope} {N ps : List Str} {f : Addr} {fd : FuncData} {gl : Str → Option GR} {sm : Str → Str → Option Nat} {h : Hi} {y : Ss} (F : FunD K x qual params body scope [] [] f fd) (FS : FnScope N ps scope)
    (md : Md nm K mg fa gl sm) (hc : cSs n ⟨N, scope, fun _ => true, gl, sm⟩ h body = some y) (fns : ∀ f, FnR P W K mg base (L2.CX P W) k (fa f) (spF nm K (R.fn f))) :
    FnOk P W K mg base (L2.CX P W) (k + 1) f fd ps (spF nm K (fnR T R ps.length N.length y)) := by
  have hpl : ps.length ≤ N.length := by
    have e := congrArg List.length FS.pre
    rw [List.length_take] at e
    omega
  refine F.ok FS (fun vs H Q E ⟨g, w, ds, W1, r, q⟩ => ?_) fun cdv A outer s H vs Q E hr ⟨g, w, ds, W1, r, q⟩ => ?_
  · rw [← r.length]
    exact q.lenR.1
  · obtain ⟨hl, q⟩ := q.lenR
    have dm : ∀ a, g.M a → H a ≠ none := fun a ha e => by
      obtain ⟨o, eo⟩ := W1.dom a ha
      rw [e] at eo
      cases eo
    have G : GdS (cxOf (L2.CX P W) P W K mg base N qual scope f cdv A outer s H E) nm fa R (fun cls d _ H => E cls d H) k ⟨N, scope, fun _ => true, gl, sm⟩ :=
      { nd := FS.nd, eN := rfl, sc := rfl, calm := rfl, fnc := fun _ _ => rfl, room := hr, tk := L2.takes_of rfl rfl rfl rfl, md := md, fns := fns, hp := L2.passes_of rfl }
    refine ⟨_, (sndS (en := ⟨H, g, dm⟩) (T := T) n).ss G hc, g, _, w, start_BR (np := ps.length) (y := y) W1 r (by omega) dm, ?_⟩
    show SG nm K ⟨H, g, dm⟩ (fun cls d _ H => E cls d H) g H (exSs T R y (startE ⟨ps.length, N.length, y⟩ ds) w) { nx := fun _ H' => Q .non H', rt := Q }
    revert q
    generalize exSs T R y (startE ⟨ps.length, N.length, y⟩ ds) w = r
    intro q
    cases r with
    | next env' w' => exact fun g' σ' H' B' _ => q g' H' .non B'.ext B'.wr (RP.d .non)
    | ret rv w' =>
      cases rv with
      | bor o => exact q.elim
      | d z => exact fun g' H' v e1 w1 r1 => q g' H' v e1 w1 r1
      | fl z => exact fun g' H' v e1 w1 r1 => q g' H' v e1 w1 r1
    | exc c fs env' w' => exact fun g' σ' H' d B' X' => q g' H' d B'.ext B'.wr X'
    | brk env' w' => exact q.elim
    | cont env' w' => exact q.elim
    | bad => exact q.elim
end

/-! ### the program's tables -/
inductive At where
  | glo (x : Str) | meth (C m : Str) | stat (C m : Str) | clsm (C m : Str)
def At.ad (K : PySem.W.Frag) : At → Addr
  | .glo x => He.ga K x
  | .meth C m => He.ma K (He.ga K C) m
  | .stat C m => He5.wf K (He.ga K C) "staticmethod" m
  | .clsm C m => He5.wf K (He.ga K C) "classmethod" m
structure DefE where
  at_ : At
  name : Str
  qual : Str
  params : Arguments
  body : List Stmt
  scope : Scope
  N : List Str
  np : Nat
  hi : Hi
def DefE.da (d : DefE) : He5.DefA := ⟨fun K => d.at_.ad K, d.name, d.qual, d.params, d.body, d.scope, [], []⟩
structure PD where
  cls : List Str
  flds : List (List Str)
  gls : List (Str × GR)
  sms : List ((Str × Str) × Nat)
  defs : List DefE
def PD.nm (p : PD) : Nm := ⟨fun i => p.cls.getD i Str.empty, fun i => p.flds.getD i []⟩
def PD.gl (p : PD) (x : Str) : Option GR := p.gls.lookup x
def PD.sm (p : PD) (C m : Str) : Option Nat := p.sms.lookup (C, m)
def PD.fa (p : PD) (K : PySem.W.Frag) (f : Nat) : Addr := match p.defs[f]? with
  | some d => d.at_.ad K
  | none => 0
def DefE.cc (p : PD) (d : DefE) : Cc := ⟨d.N, d.scope, fun _ => true, p.gl, p.sm⟩
def GR.ok (p : PD) (K : PySem.W.Frag) (x : Str) : GR → Bool
  | .fn f => He.eqO (PySem.W.nsIn K mainGlobals x) (some (some (.ref (p.fa K f)))) && PySem.W.keepIn K (.ref (p.fa K f))
  | .cls n => He.eqO (PySem.W.nsIn K mainGlobals x) (some (some (.ref (addr p.nm K n)))) && PySem.W.readsIn K (addr p.nm K n) (.type "type")
  | .con (.int i) => (He.Fa.int x i).ok K
  | .con (.str s) => (He.Fa.str x ⟨s.toArray⟩).ok K
  | .con _ => false
  | .free => (He.Fa.free x).ok K
def smOk (p : PD) (K : PySem.W.Frag) (q : (Str × Str) × Nat) : Bool := match p.gl q.1.1 with
  | some (.cls n) => He5.wrapB K (addr p.nm K n) "staticmethod" "staticmethod.__get__" q.1.2 && (decide (p.fa K q.2 = He5.wf K (addr p.nm K n) "staticmethod" q.1.2) && PySem.W.keepIn K (.ref (p.fa K q.2)))
  | _ => true
def PD.chk (p : PD) (K : PySem.W.Frag) : Bool := (p.gls.all fun q => q.2.ok p K q.1) && (p.sms.all fun q => smOk p K q)
def PD.obs (p : PD) (K : PySem.W.Frag) : He.AlD := (p.chk K && p.defs.all fun d => d.da.ok K, p.defs.map fun d => He5.fnA K (d.at_.ad K))
def PD.val (p : PD) : He.AlD := (true, p.defs.map fun d => d.da.val)
def PD.see (n : Nat) (p : PD) (g : Addr → Option Obj) : He.AlD := p.obs (He.frG g (He5.asA g n))
def PD.hook (n : Nat) (p : PD) : PySem.W.Hook where
  α := He.AlD
  obs := fun s => p.see n s.heap.get?
  val := fun _ => p.val
  says := fun _ h => ∃ K : PySem.W.Frag, K.In h ∧ p.obs K = p.val
  of := fun _ _ e => ⟨_, He.frG_in, e⟩
  keeps := fun _ _ _ ⟨K, hK, c⟩ k => ⟨K, hK.keeps k, c⟩
theorem PD.see_eq {n : Nat} {p : PD} {g : Addr → Option Obj} {s : Shared} (h : ∀ a, g a = s.heap.get? a) : p.see n g = (p.hook n).obs s := by
  rw [show g = s.heap.get? from funext h]
  rfl
theorem mem_look {α β : Type} [BEq α] [LawfulBEq α] {a : α} {b : β} : ∀ {l : List (α × β)}, l.lookup a = some b → (a, b) ∈ l
  | [], h => by cases h
  | (c, d) :: l, h => by
    rw [List.lookup_cons] at h
    split at h
    · rename_i e
      cases h
      rw [eq_of_beq e]
      exact List.mem_cons_self
    · exact List.mem_cons_of_mem _ (mem_look h)
theorem read_by {K : PySem.W.Frag} {C : Addr} (h : PySem.W.readsIn K C (.type "type") = true) : ClX.CRead K C (.type "type") := by
  refine ⟨h, ?_⟩
  unfold PySem.W.readsIn at h
  simp only [Bool.and_eq_true, beq_iff_eq] at h
  unfold PySem.W.specialIn
  rw [h.1.1.1.2, Option.bind_some]
  exact h.1.1.2
theorem PD.md {p : PD} {K : PySem.W.Frag} {h : Heap} {mg : Str → Option Value} (X : K.In h) (G : h.Ns mainGlobals mg) (c : p.chk K = true) : Md p.nm K mg (p.fa K) p.gl p.sm := by
  unfold PD.chk at c
  rw [Bool.and_eq_true, List.all_eq_true, List.all_eq_true] at c
  obtain ⟨c1, c2⟩ := c
  refine ⟨fun x f e => ?_, fun x n e => ?_, fun x d e => ?_, fun x e => ?_, fun C n m k e e2 => ?_⟩
  · have z := c1 _ (mem_look e)
    obtain ⟨z1, z2⟩ := He.ba z
    exact ⟨PySem.W.mg_of X G (He.eqO_ok z1), z2⟩
  · have z := c1 _ (mem_look e)
    obtain ⟨z1, z2⟩ := He.ba z
    exact ⟨PySem.W.mg_of X G (He.eqO_ok z1), read_by z2⟩
  · have z := c1 _ (mem_look e)
    cases d with
    | int i =>
      obtain ⟨t, z1⟩ := He.int_ok X G z
      exact ⟨.int i, _, z1, ⟨t, rfl⟩, fun _ _ => .int i⟩
    | str s =>
      obtain ⟨t, z1⟩ := He.str_ok X G z
      exact ⟨.str ⟨s.toArray⟩, _, z1, ⟨t, rfl⟩, fun _ _ => .str s⟩
    | _ => cases z
  · have z := c1 _ (mem_look e)
    exact He.free_ok X G z
  · have z := c2 _ (mem_look e2)
    unfold smOk at z
    dsimp only at z
    rw [e] at z
    obtain ⟨z1, z2⟩ := He.ba z
    obtain ⟨z2, z3⟩ := He.ba z2
    have z2 := of_decide_eq_true z2
    obtain ⟨w1, w2⟩ := He5.wrapB_ok z1
    rw [← z2] at w2
    exact ⟨⟨_, w1, w2⟩, z3⟩
/-! ### the program, by the depth of calls -/
/-- what is looked up at each def's text alone -/
structure DefE.Ok (d : DefE) : Prop where
  sc : C8.scC d.N (d.N.take d.np) d.scope = true
  len : d.np ≤ d.N.length
  bd : ∀ (kV doc pm : Value) (an : Option Addr) (cdv ct : Value) (us : List Value), us.length = (d.N.take d.np).length → bindArgs (PySem.W.fnOf d.name d.qual d.params d.body d.scope .none kV doc pm an cdv ct) ⟨us, []⟩ = pure ((d.N.take d.np).zip us)
section
variable {P : Program} {W : World} {p : PD} {K : PySem.W.Frag} {mg : Str → Option Value} {base : Heap}
theorem PD.funD (c : p.obs K = p.val) {f : Nat} {d : DefE} (e : p.defs[f]? = some d) : ∃ fd, FunD K d.name d.qual d.params d.body d.scope [] [] (p.fa K f) fd := by
  have c2 : (p.chk K && p.defs.all fun d => d.da.ok K) = true := congrArg (fun z : He.AlD => z.1) c
  obtain ⟨_, c2⟩ := He.ba c2
  have e1 : (p.defs.map fun d => He5.fnA K (d.at_.ad K)) = p.defs.map fun d => d.da.val := congrArg (fun z : He.AlD => z.2) c
  have e2 : (p.defs.map fun d => He5.fnA K (d.at_.ad K))[f]? = (p.defs.map fun d => d.da.val)[f]? := by rw [e1]
  rw [List.getElem?_map, List.getElem?_map, e] at e2
  have e3 : p.fa K f = d.at_.ad K := by
    unfold PD.fa
    rw [e]
  rw [e3]
  exact He5.DefA.funD (d := d.da) (Option.some.inj e2) (List.all_eq_true.mp c2 d (List.mem_of_getElem? e))
theorem PD.chk_of (c : p.obs K = p.val) : p.chk K = true := by
  have c2 : (p.chk K && p.defs.all fun d => d.da.ok K) = true := congrArg (fun z : He.AlD => z.1) c
  exact (He.ba c2).1
/-- the literal code is the compiled text -/
def PD.code (p : PD) : List (Option Fn) := p.defs.map fun d => (cSs 400 (d.cc p) d.hi d.body).map fun b => ⟨d.np, d.N.length, b⟩
theorem bad_fn {f : Addr} {k : Nat} : FnR P W K mg base (L2.CX P W) k f (spF p.nm K fun _ _ => .bad) := fun A outer s H us vs Q E _ _ _ ⟨g, w, ds, _, _, q⟩ => q.elim
theorem PD.fn_ok (q : Pgm) {lit : List Fn} (hl : p.code = lit.map some) (hq : ∀ f, q.fns f = lit[f]?) (ok : ∀ (f : Nat) (d : DefE), p.defs[f]? = some d → d.Ok) (md : Md p.nm K mg (p.fa K) p.gl p.sm) (c : p.obs K = p.val) {k f : Nat} {d : DefE} {fd : FuncData} (e : p.defs[f]? = some d)
    (F : FunD K d.name d.qual d.params d.body d.scope [] [] (p.fa K f) fd) (fns : ∀ f, FnR P W K mg base (L2.CX P W) k (p.fa K f) (spF p.nm K (q.run k f))) :
    FnOk P W K mg base (L2.CX P W) (k + 1) (p.fa K f) fd (d.N.take d.np) (spF p.nm K (q.run (k + 1) f)) := by
  have e1 : p.code[f]? = (lit.map some)[f]? := by rw [hl]
  unfold PD.code at e1
  rw [List.getElem?_map, List.getElem?_map, e] at e1
  cases el : lit[f]? with
  | none => rw [el] at e1; cases e1
  | some fn =>
    rw [el] at e1
    obtain ⟨y, hy, hf⟩ := Option.map_eq_some_iff.mp (Option.some.inj e1)
    have O := ok f d e
    have lt : (d.N.take d.np).length = d.np := by
      rw [List.length_take]
      have := O.len
      omega
    refine (def_ok (T := q.tab) (R := ⟨q.run k, q.make k, q.fuel⟩) F (C8.fnScope_by O.sc) md hy fns).imp fun vs H Q E ⟨g, w, ds, W1, r, z⟩ => ⟨g, w, ds, W1, r, ?_⟩
    have er : q.run (k + 1) f ds w = fnR q.tab ⟨q.run k, q.make k, q.fuel⟩ d.np d.N.length y ds w := by
      show (match q.fns f with
        | some fn => if ds.length = fn.np then endFn (exSs q.tab ⟨q.run k, q.make k, q.fuel⟩ fn.body (startE fn ds) w) else .bad
        | none => .bad) = _
      rw [hq, el, ← hf]
      rfl
    rw [er] at z
    rw [lt]
    exact z
theorem PD.fns_ok (q : Pgm) {lit : List Fn} (hl : p.code = lit.map some) (hq : ∀ f, q.fns f = lit[f]?) (ok : ∀ (f : Nat) (d : DefE), p.defs[f]? = some d → d.Ok) (md : Md p.nm K mg (p.fa K) p.gl p.sm) (c : p.obs K = p.val) :
    ∀ k f, FnR P W K mg base (L2.CX P W) k (p.fa K f) (spF p.nm K (q.run k f))
  | 0, f => bad_fn
  | k + 1, f => by
    cases e : p.defs[f]? with
    | none =>
      have e1 : p.code[f]? = (lit.map some)[f]? := by rw [hl]
      unfold PD.code at e1
      rw [List.getElem?_map, List.getElem?_map, e] at e1
      have el : lit[f]? = none := by
        cases z : lit[f]? with
        | none => rfl
        | some _ => rw [z] at e1; cases e1
      have er : q.run (k + 1) f = fun _ _ => .bad := by
        funext ds w
        show (match q.fns f with
          | some fn => if ds.length = fn.np then endFn (exSs q.tab ⟨q.run k, q.make k, q.fuel⟩ fn.body (startE fn ds) w) else .bad
          | none => .bad) = _
        rw [hq, el]
      rw [er]
      exact bad_fn
    | some d =>
      obtain ⟨fd, F⟩ := PD.funD c e
      have z := (PD.fn_ok q hl hq ok md c e F (PD.fns_ok q hl hq ok md c k)).raw (F.bindsN (ok f d e).bd) .nil
      exact z.imp fun vs H Q E y => by rw [List.append_nil]; exact y
end
/-! ### the law -/
theorem run_rep {nm : Nm} {K : PySem.W.Frag} {H : Hp} {a : Addr} {vs : List V} {xs : List D} {g : Gh} (h : SqL K H a vs) (r : RepL nm K g H xs vs) (hg : ∀ a, ¬ g.M a) : Rep nm K g H (.lst xs) (.ref a) := by
  refine .lst ?_ r
  rcases h with (h | ⟨o, h⟩) | h
  · exact .inl ⟨h, hg a⟩
  · exact .inr (.inl ⟨o, h⟩)
  · exact .inr (.inr h)
theorem ints_rep {nm : Nm} {K : PySem.W.Frag} {H : Hp} {g : Gh} : ∀ ns : List Int, RepL nm K g H (ns.map .int) (ns.map V.int)
  | [] => .nil
  | n :: ns => .cons (.int n) (ints_rep ns)
/-- the law by its code -/
theorem walk_mp {l : PySem.W.OpenLaw} {n k : Nat} {q : Program} {loose : List Str} {XP : (Str → Option Value) → Heap → Prop} {d : DefRec} {p : PD} {dep : Nat} (hn : l.most = some n) (hn2 : n ≤ sizeLine) (hdf : d.params.defaults = []) (hr : Room (k + 1) callerA)
    (z : Pgm) {lit : List Fn} (hl : p.code = lit.map some) (hq : ∀ f, z.fns f = lit[f]?) (ok : ∀ (f : Nat) (d : DefE), p.defs[f]? = some d → d.Ok) {f : Nat} {e : DefE} {x : Str} (he : p.defs[f]? = some e) (ha : p.gl d.name = some (.fn f)) (hx : e.N.take e.np = [x])
    (law : ∀ ns : List Int, ns.length ≤ n → ∃ w, z.run (k + 1) f [.lst (ns.map .int)] [] = .ok (.d (.bl true)) w) :
    PySem.W.WalkO q loose XP (p.hook dep).says l.row.toRowW d [] (fun f vs => PySem.call f vs) := by
  refine Att.attach_call hn hdf fun w s₀ s₁ mg mb fa o pm cd doc a vs ns G Y ho hd hcd hmg hobj hints hlen hg => ?_
  obtain ⟨K, KX, c⟩ := Y
  obtain ⟨fd, F⟩ := PD.funD c he
  have md := PD.md KX G.T.g (PD.chk_of c)
  have hfa := (md.fn _ _ ha).1
  rw [hmg] at hfa
  cases hfa
  have hF : ∀ base : Heap, K.In base → base.Ns mainGlobals mg → FnOk l.prog w K mg base (L2.CX l.prog w) (k + 1) (p.fa K f) fd [x] (spF p.nm K (z.run (k + 1) f)) := fun base _ _ => by
    have y := PD.fn_ok (P := l.prog) (W := w) (base := base) z hl hq ok md c he F (PD.fns_ok z hl hq ok md c k)
    rw [hx] at y
    exact y
  refine law_call KX G.T.g G.T.b G.T.builtins G.T.nolimit hg hobj hints (Nat.le_trans hlen hn2) hr hF (fun s u => ?_) (fun H hO hS => ?_) fun H e' s' ⟨_, _, _, _, _, _, _, _, _, _, _, _, no⟩ => no
  · have y := F.bindsA (ok f e he).bd s [u] (by rw [hx]; rfl)
    rw [hx] at y
    exact y
  · obtain ⟨w', e1⟩ := law ns hlen
    refine ⟨⟨fun _ => False, []⟩, [], [.lst (ns.map .int)], ⟨fun n o h => by simp at h, rfl, fun a h => by simp at h, List.nodup_nil, fun a h => h.elim⟩, .cons (run_rep hS (ints_rep ns) fun _ h => h) .nil, ?_⟩
    rw [e1]
    intro g' H' v _ _ r
    have r := r.1
    cases r
    rfl
end MP

set_option maxRecDepth 100000
set_option maxHeartbeats 2000000
/-! MPR: rules by which the evaluator is reckoned. -/
namespace MP
section
variable {α β : Type} {a : α} {w : Wd} {c : Nat} {fs : List D}
@[simp] theorem r_bind {k : α → Wd → Res β} : (Res.ok a w).bind k = k a w := rfl
@[simp] theorem r_bindx {k : α → Wd → Res β} : (Res.exc c fs w : Res α).bind k = .exc c fs w := rfl
@[simp] theorem r_bindb {k : α → Wd → Res β} : (Res.bad : Res α).bind k = .bad := rfl
@[simp] theorem r_ok1 : w.ok1 (some a) = .ok a w := rfl
@[simp] theorem r_onOk {env : Env} {k : α → Wd → SR} : onOk env (.ok a w) k = k a w := rfl
@[simp] theorem r_onx {env : Env} {k : α → Wd → SR} : onOk env (.exc c fs w : Res α) k = .exc c fs env w := rfl
@[simp] theorem r_noExc : noExc (.ok a w) = .ok a w := rfl
@[simp] theorem r_asD {x : D} : asD (.ok (.d x) w) = .ok x w := rfl
@[simp] theorem r_asDl {x : List D} : asD (.ok (.fl (.L x)) w) = .ok (.lst x) w := rfl
@[simp] theorem r_asDo {x : List D} : asD (.ok (.fl (.O c x)) w) = .ok (.obj c x) w := rfl
@[simp] theorem r_asI {i : Int} : asI (.ok (.d (.int i)) w) = .ok i w := rfl
@[simp] theorem r_asB {b : Bool} : asB (.ok (.d (.bl b)) w) = .ok b w := rfl
@[simp] theorem r_blR {b : Bool} : blR (.ok b w) = .ok (.d (.bl b)) w := rfl
@[simp] theorem r_and {b : Bool} {k : Wd → Res Bool} : andR (.ok b w) k = if b then k w else .ok false w := rfl
@[simp] theorem r_or {b : Bool} {k : Wd → Res Bool} : orR (.ok b w) k = if b then .ok true w else k w := rfl
@[simp] theorem r_not {b : Bool} : notR (.ok b w) = .ok (!b) w := rfl
@[simp] theorem r_slot {x : D} : slotOf (.d x) = some (.val x) := rfl
@[simp] theorem r_slotf {o : Ow} : slotOf (.fl o) = some (.own o) := rfl
@[simp] theorem r_endN {env : Env} : endFn (.next env w) = .ok (.d .non) w := rfl
@[simp] theorem r_endR {x : D} : endFn (.ret (.d x) w) = .ok (.d x) w := rfl
@[simp] theorem r_endF {o : Ow} : endFn (.ret (.fl o) w) = .ok (.fl o) w := rfl
@[simp] theorem r_endX {env : Env} : endFn (.exc c fs env w) = .exc c fs w := rfl
end
section
variable {w : Wd} {p : P2} {q : P1} {i j : Int} {s t : List Nat} {b c : Bool} {xs ys : List D} {x y : D} {n : Nat} {o : Ow}
@[simp] theorem r_ints : op2 p (.d (.int i)) (.d (.int j)) w = (opInt p i j).map .d := rfl
@[simp] theorem r_strs : op2 p (.d (.str s)) (.d (.str t)) w = (opStr p s t).map .d := rfl
@[simp] theorem i_add : opInt .add i j = some (.int (i + j)) := rfl
@[simp] theorem i_sub : opInt .sub i j = some (.int (i - j)) := rfl
@[simp] theorem i_mul : opInt .mul i j = if mulOk i j then some (.int (i * j)) else none := rfl
@[simp] theorem i_fdiv : opInt .fdiv i j = if divOk j then some (.int (i / j)) else none := rfl
@[simp] theorem i_mod : opInt .mod i j = if 0 < j then some (.int (i % j)) else none := rfl
@[simp] theorem i_pow : opInt .pow i j = if powOk i j then some (.int (i ^ j.toNat)) else none := rfl
@[simp] theorem i_lt : opInt .lt i j = some (.bl (decide (i < j))) := rfl
@[simp] theorem i_le : opInt .le i j = some (.bl (decide (i ≤ j))) := rfl
@[simp] theorem i_gt : opInt .gt i j = some (.bl (decide (j < i))) := rfl
@[simp] theorem i_ge : opInt .ge i j = some (.bl (decide (j ≤ i))) := rfl
@[simp] theorem i_eq : opInt .eq i j = some (.bl (decide (i = j))) := rfl
@[simp] theorem i_ne : opInt .ne i j = some (.bl (!decide (i = j))) := rfl
@[simp] theorem i_max : opInt .max2 i j = some (.int (if j > i then j else i)) := rfl
@[simp] theorem i_min : opInt .min2 i j = some (.int (if j < i then j else i)) := rfl
@[simp] theorem s_add : opStr .add s t = if s.length + t.length ≤ big then some (.str (s ++ t)) else none := rfl
@[simp] theorem s_eq : opStr .eq s t = some (.bl (decide (s = t))) := rfl
@[simp] theorem s_ne : opStr .ne s t = some (.bl (!decide (s = t))) := rfl
@[simp] theorem s_in {k : Nat} : opStr .inn [k] t = some (.bl (decide (k ∈ t))) := rfl
@[simp] theorem s_notIn {k : Nat} : opStr .notIn [k] t = some (.bl (!decide (k ∈ t))) := rfl
@[simp] theorem r_itS : op2 .item (.d (.str s)) (.d (.int i)) w = if s.length ≤ big then (at_ s i).map fun c => .d (.str [c]) else none := rfl
@[simp] theorem r_itT : op2 .item (.d (.tup xs)) (.d (.int i)) w = (at_ xs i).map .d := rfl
@[simp] theorem r_itL : op2 .item (.d (.lst xs)) (.d (.int i)) w = (at_ xs i).map .d := rfl
@[simp] theorem r_itB : op2 .item (.bor (.L xs)) (.d (.int i)) w = (at_ xs i).map .d := rfl
@[simp] theorem r_itF : op2 .item (.fl (.L xs)) (.d (.int i)) w = (at_ xs i).map .d := rfl
def itemO : Option Ow → Int → Option RV
  | some (.L xs), i => (at_ xs i).map .d
  | _, _ => none
@[simp] theorem itemO_L : itemO (some (.L xs)) i = (at_ xs i).map .d := rfl
@[simp] theorem r_itC : op2 .item (.d (.cell n)) (.d (.int i)) w = itemO w[n]? i := by
  show ((match RV.ow? (.d (.cell n)) w with
    | some (.L xs) => some xs
    | _ => none).bind fun xs => (at_ xs i).map RV.d) = _
  rw [show RV.ow? (.d (.cell n)) w = w[n]? from rfl]
  cases w[n]? with
  | none => rfl
  | some o => cases o <;> rfl
@[simp] theorem r_bls : op2 .eq (.d (.bl b)) (.d (.bl c)) w = some (.d (.bl (b == c))) := rfl
@[simp] theorem r_blsn : op2 .ne (.d (.bl b)) (.d (.bl c)) w = some (.d (.bl (!(b == c)))) := rfl
@[simp] theorem r_lenS : op1 .len (.d (.str s)) w = if s.length ≤ big then some (.d (.int s.length)) else none := rfl
@[simp] theorem r_lenT : op1 .len (.d (.tup xs)) w = some (.d (.int xs.length)) := rfl
@[simp] theorem r_lenL : op1 .len (.d (.lst xs)) w = some (.d (.int xs.length)) := rfl
@[simp] theorem r_lenB : op1 .len (.bor (.L xs)) w = some (.d (.int xs.length)) := rfl
@[simp] theorem r_lenF : op1 .len (.fl (.L xs)) w = some (.d (.int xs.length)) := rfl
@[simp] theorem r_int : op1 .toInt (.d (.int i)) w = some (.d (.int i)) := rfl
@[simp] theorem r_intB : op1 .toInt (.d (.bl b)) w = some (.d (.int (if b then 1 else 0))) := rfl
@[simp] theorem r_neg : op1 .neg (.d (.int i)) w = some (.d (.int (-i))) := rfl
@[simp] theorem r_isB {ty : Ty} : op1 (.isT ty) (.d (.bl b)) w = some (.d (.bl (isTy .bool ty))) := rfl
@[simp] theorem r_isI {ty : Ty} : op1 (.isT ty) (.d (.int i)) w = some (.d (.bl (isTy .int ty))) := rfl
@[simp] theorem r_isS {ty : Ty} : op1 (.isT ty) (.d (.str s)) w = some (.d (.bl (isTy .str ty))) := rfl
@[simp] theorem r_isT {ty : Ty} : op1 (.isT ty) (.d (.tup xs)) w = some (.d (.bl (isTy .tuple ty))) := rfl
@[simp] theorem r_isL {ty : Ty} : op1 (.isT ty) (.d (.lst xs)) w = some (.d (.bl (isTy .list ty))) := rfl
theorem at_nat {α : Type} {l : List α} {k : Nat} : at_ l (k : Int) = l[k]? := by
  unfold at_ ixAt
  rw [if_pos (Int.natCast_nonneg k)]
  by_cases h : k < l.length
  · rw [if_pos (by omega)]
    rfl
  · rw [if_neg (by omega)]
    simp at h
    simp [h]
theorem at_int {α : Type} {l : List α} {i : Int} (h : 0 ≤ i) : at_ l i = l[i.toNat]? := by
  have e : i = (i.toNat : Int) := by omega
  have z := at_nat (l := l) (k := i.toNat)
  rw [← e] at z
  exact z
theorem divOk_le (h : 0 < j) (h2 : j < 2 ^ 64) : divOk j = true := by
  unfold divOk
  have e : j.natAbs < 2 ^ 64 := by omega
  have e2 : j.natAbs.log2 < 64 := by
    by_cases z : j.natAbs = 0
    · rw [z]; decide
    · exact (Nat.log2_lt z).mpr e
  simp [h]
  omega
end
section
variable {T : Tab} {R : Calls} {env : Env} {w : Wd}
def stepF (T : Tab) (R : Calls) (t : Tg) (b : Ss) (x : D) (env : Env) (w : Wd) : SR := match bindTg t x env with
  | some env => exSs T R b env w
  | none => .bad
def compF (T : Tab) (R : Calls) (e : E) (t : Tg) (c : E) (env : Env) (x : D) (w : Wd) : Res (Option D) := match bindTg t x env with
  | some env' => (noExc (asB (ev T R c env' w))).bind fun t w => if t then (noExc (asD (ev T R e env' w))).bind fun y w => .ok (some y) w else .ok none w
  | none => .bad
def seqS (r : SR) (k : Env → Wd → SR) : SR := match r with
  | .next env w => k env w
  | x => x
def getV : Option Slot → Wd → Res RV
  | some (.val x), w => .ok (.d x) w
  | some (.own o), w => .ok (.bor o) w
  | _, _ => .bad
def retS : Option Slot → Wd → SR
  | some (.own o), w => .ret (.fl o) w
  | some (.val x), w => .ret (.d x) w
  | _, _ => .bad
def frzS (i : Nat) (env : Env) (w : Wd) : Option Slot → SR
  | some (.own (.L xs)) => .next (env.set i (.val (.lst xs))) w
  | some (.own (.O c fs)) => .next (env.set i (.val (.obj c fs))) w
  | _ => .next env w
def retR : RV → Wd → SR
  | .bor _, _ => .bad
  | r, w => .ret r w
def putS (i : Nat) (env : Env) (w : Wd) : Option Slot → SR
  | some s => .next (env.set i s) w
  | none => .bad
def mkCe (x : RV) (w : Wd) : Res RV := match x with
  | .fl o => .ok (.d (.cell w.length)) (w ++ [o])
  | _ => .bad
@[simp] theorem seq_n {k : Env → Wd → SR} : seqS (.next env w) k = k env w := rfl
@[simp] theorem seq_r {k : Env → Wd → SR} {r : RV} : seqS (.ret r w) k = .ret r w := rfl
@[simp] theorem seq_b {k : Env → Wd → SR} : seqS (.brk env w) k = .brk env w := rfl
@[simp] theorem seq_c {k : Env → Wd → SR} : seqS (.cont env w) k = .cont env w := rfl
@[simp] theorem seq_x {k : Env → Wd → SR} {c : Nat} {fs : List D} : seqS (.exc c fs env w) k = .exc c fs env w := rfl
@[simp] theorem get_v {x : D} : getV (some (.val x)) w = .ok (.d x) w := rfl
@[simp] theorem get_o {o : Ow} : getV (some (.own o)) w = .ok (.bor o) w := rfl
@[simp] theorem ret_v {x : D} : retS (some (.val x)) w = .ret (.d x) w := rfl
@[simp] theorem ret_o {o : Ow} : retS (some (.own o)) w = .ret (.fl o) w := rfl
@[simp] theorem frz_v {i : Nat} {x : D} : frzS i env w (some (.val x)) = .next env w := rfl
@[simp] theorem frz_n {i : Nat} : frzS i env w (some .none) = .next env w := rfl
@[simp] theorem frz_o {i : Nat} {xs : List D} : frzS i env w (some (.own (.L xs))) = .next (env.set i (.val (.lst xs))) w := rfl
@[simp] theorem frz_O {i c : Nat} {xs : List D} : frzS i env w (some (.own (.O c xs))) = .next (env.set i (.val (.obj c xs))) w := rfl
@[simp] theorem retR_d {x : D} : retR (.d x) w = .ret (.d x) w := rfl
@[simp] theorem retR_f {o : Ow} : retR (.fl o) w = .ret (.fl o) w := rfl
@[simp] theorem put_s {i : Nat} {s : Slot} : putS i env w (some s) = .next (env.set i s) w := rfl
@[simp] theorem mkCe_f {o : Ow} : mkCe (.fl o) w = .ok (.d (.cell w.length)) (w ++ [o]) := rfl
@[simp] theorem x_nil : exSs T R .nil env w = .next env w := rfl
@[simp] theorem x_cons {s : S} {r : Ss} : exSs T R (.cons s r) env w = seqS (exS T R s env w) fun env w => exSs T R r env w := rfl
@[simp] theorem x_pass : exS T R .pass env w = .next env w := rfl
@[simp] theorem x_brk : exS T R .brk env w = .brk env w := rfl
@[simp] theorem x_cont : exS T R .cont env w = .cont env w := rfl
@[simp] theorem x_expr {e : E} : exS T R (.expr e) env w = onOk env (ev T R e env w) fun _ w => .next env w := rfl
@[simp] theorem x_set {i : Nat} {e : E} : exS T R (.set i e) env w = onOk env (ev T R e env w) fun r w => putS i env w (slotOf r) := rfl
@[simp] theorem x_append {i : Nat} {e : E} : exS T R (.append i e) env w = if listAt env w i then onOk env (asD (ev T R e env w)) fun x w => changeV i (fun o => app o x) env w else .bad := rfl
@[simp] theorem x_setItem {i : Nat} {b e : E} : exS T R (.setItem i b e) env w = if writable env i then onOk env (asD (ev T R e env w)) fun x w => onOk env (asI (ev T R b env w)) fun j w => changeV i (fun o => setOw o j x) env w else .bad := rfl
@[simp] theorem x_ret {e : E} : exS T R (.ret e) env w = onOk env (ev T R e env w) retR := by
  show onOk env (ev T R e env w) (fun r w => _) = _
  congr 1
  funext r w
  cases r <;> rfl
@[simp] theorem x_retv {i : Nat} : exS T R (.retv i) env w = retS env[i]? w := by
  show (match env[i]? with
    | some (.own o) => SR.ret (.fl o) w
    | some (.val x) => .ret (.d x) w
    | _ => .bad) = _
  cases env[i]? with
  | none => rfl
  | some s => cases s <;> rfl
@[simp] theorem x_ite {c : E} {a b : Ss} : exS T R (.ite c a b) env w = onOk env (asB (ev T R c env w)) fun t w => if t then exSs T R a env w else exSs T R b env w := rfl
@[simp] theorem x_for {t : Tg} {it : It} {b : Ss} : exS T R (.for_ t it b) env w = onOk env (evI T R it env w) fun xs w => forLoop (stepF T R t b) xs env w := rfl
@[simp] theorem x_whl {c : E} {b : Ss} : exS T R (.whl c b) env w = whlLoop (fun env w => asB (ev T R c env w)) (fun env w => exSs T R b env w) R.fuel env w := rfl
@[simp] theorem x_raise {c : Nat} {es : Es} : exS T R (.raise c es) env w = onOk env (evDs T R es env w) fun xs w => .exc c xs env w := rfl
@[simp] theorem x_frz {i : Nat} : exS T R (.frz i) env w = frzS i env w env[i]? := by
  show (match env[i]? with
    | some (.own (.L xs)) => SR.next (env.set i (.val (.lst xs))) w
    | some (.own (.O c fs)) => .next (env.set i (.val (.obj c fs))) w
    | _ => .next env w) = _
  cases env[i]? with
  | none => rfl
  | some s => cases s with
    | own o => cases o <;> rfl
    | _ => rfl
def augS (p : P2) (i : Nat) (env : Env) (r : Env → Wd → Res RV) (w : Wd) : Option Slot → SR
  | some (.val x) => onOk env (r env w) fun y w => match op2 p (.d x) y w with
    | some (.d z) => .next (env.set i (.val z)) w
    | _ => .bad
  | _ => .bad
@[simp] theorem x_aug {i : Nat} {p : P2} {e : E} : exS T R (.aug i p e) env w = augS p i env (fun env w => ev T R e env w) w env[i]? := by
  show (match env[i]? with
    | some (.val x) => onOk env (ev T R e env w) fun y w => match op2 p (.d x) y w with
      | some (.d z) => .next (env.set i (.val z)) w
      | _ => .bad
    | _ => .bad) = _
  cases env[i]? with
  | none => rfl
  | some s => cases s <;> rfl
@[simp] theorem e_con {x : D} : ev T R (.con x) env w = .ok (.d x) w := rfl
@[simp] theorem e_var {i : Nat} : ev T R (.var i) env w = getV env[i]? w := by
  show (match env[i]? with
    | some (.val x) => Res.ok (RV.d x) w
    | some (.own o) => .ok (.bor o) w
    | _ => .bad) = _
  cases env[i]? with
  | none => rfl
  | some s => cases s <;> rfl
@[simp] theorem e_tup {es : Es} : ev T R (.tup es) env w = (evDs T R es env w).bind fun xs w => if xs.length ≤ big then .ok (.d (.tup xs)) w else .bad := rfl
@[simp] theorem e_lst {es : Es} : ev T R (.lst es) env w = (evDs T R es env w).bind fun xs w => if xs.length ≤ big then .ok (.fl (.L xs)) w else .bad := rfl
@[simp] theorem e_p1 {p : P1} {a : E} : ev T R (.p1 p a) env w = (ev T R a env w).bind fun x w => w.ok1 (op1 p x w) := rfl
@[simp] theorem e_p2 {p : P2} {a b : E} : ev T R (.p2 p a b) env w = (ev T R a env w).bind fun x w => (ev T R b env w).bind fun y w => w.ok1 (op2 p x y w) := rfl
@[simp] theorem e_ch2 {p q : P2} {a b c : E} : ev T R (.ch2 p q a b c) env w = (ev T R a env w).bind fun x w => (ev T R b env w).bind fun y w => (asB (w.ok1 (op2 p x y w))).bind fun t w =>
  if t then (ev T R c env w).bind fun z w => w.ok1 (op2 q y z w) else .ok (.d (.bl false)) w := rfl
@[simp] theorem e_and {a b : E} : ev T R (.andd a b) env w = blR (andR (asB (ev T R a env w)) fun w => asB (ev T R b env w)) := rfl
@[simp] theorem e_or {a b : E} : ev T R (.orr a b) env w = blR (orR (asB (ev T R a env w)) fun w => asB (ev T R b env w)) := rfl
@[simp] theorem e_not {a : E} : ev T R (.nott a) env w = blR (notR (asB (ev T R a env w))) := rfl
@[simp] theorem e_ife {a b c : E} : ev T R (.ife c a b) env w = (asB (ev T R c env w)).bind fun t w => if t then ev T R a env w else ev T R b env w := rfl
@[simp] theorem e_slice {a : E} {lo hi : O} : ev T R (.slice a lo hi) env w = (ev T R a env w).bind fun x w => (evO T R lo env w).bind fun l w => (evO T R hi env w).bind fun h w => w.ok1 (sliceR x l h w) := rfl
@[simp] theorem e_call {f : Nat} {es : Es} : ev T R (.call f es) env w = (evDs T R es env w).bind fun xs w => R.fn f xs w := rfl
@[simp] theorem e_make {f : Nat} {es : Es} : ev T R (.make f es) env w = (evDs T R es env w).bind fun xs w => R.new f xs w := rfl
@[simp] theorem e_comp {e : E} {t : Tg} {it : It} {c : E} : ev T R (.comp e t it c) env w = (evI T R it env w).bind fun xs w => if xs.length ≤ big then (compLoop (compF T R e t c env) xs w).bind fun ys w => .ok (.fl (.L ys)) w else .bad := rfl
@[simp] theorem e_mkcell {a : E} : ev T R (.mkcell a) env w = (ev T R a env w).bind mkCe := by
  show (ev T R a env w).bind (fun x w => _) = _
  congr 1
@[simp] theorem eo_none : evO T R .none env w = .ok none w := rfl
@[simp] theorem eo_some {e : E} : evO T R (.some e) env w = (asI (ev T R e env w)).bind fun i w => .ok (some i) w := rfl
@[simp] theorem ed_nil : evDs T R .nil env w = .ok [] w := rfl
@[simp] theorem ed_cons {e : E} {es : Es} : evDs T R (.cons e es) env w = (asD (ev T R e env w)).bind fun x w => (evDs T R es env w).bind fun xs w => .ok (x :: xs) w := rfl
def itemsR : D → Wd → Res (List D)
  | .tup xs, w => .ok xs w
  | .lst xs, w => .ok xs w
  | .str s, w => .ok (s.map fun c => .str [c]) w
  | _, _ => .bad
def enumR : D → Wd → Res (List D)
  | .lst xs, w => .ok ((xs.zipIdx).map fun p => .tup [.int p.2, p.1]) w
  | _, _ => .bad
def zipR : D → D → Wd → Res (List D)
  | .lst xs, .lst ys, w => .ok ((xs.zip ys).map fun p => .tup [p.1, p.2]) w
  | _, _, _ => .bad
@[simp] theorem items_t {xs : List D} : itemsR (.tup xs) w = .ok xs w := rfl
@[simp] theorem items_l {xs : List D} : itemsR (.lst xs) w = .ok xs w := rfl
@[simp] theorem items_s {s : List Nat} : itemsR (.str s) w = .ok (s.map fun c => .str [c]) w := rfl
@[simp] theorem enum_l {xs : List D} : enumR (.lst xs) w = .ok ((xs.zipIdx).map fun p => .tup [.int p.2, p.1]) w := rfl
@[simp] theorem zip_l {xs ys : List D} : zipR (.lst xs) (.lst ys) w = .ok ((xs.zip ys).map fun p => .tup [p.1, p.2]) w := rfl
@[simp] theorem ei_of {e : E} : evI T R (.of e) env w = (asD (ev T R e env w)).bind itemsR := by
  show (asD (ev T R e env w)).bind (fun r w => _) = _
  congr 1
  funext x w
  cases x <;> rfl
@[simp] theorem ei_enum {e : E} : evI T R (.enum e) env w = (asD (ev T R e env w)).bind enumR := by
  show (asD (ev T R e env w)).bind (fun r w => _) = _
  congr 1
  funext x w
  cases x <;> rfl
@[simp] theorem ei_zip {a b : E} : evI T R (.zip a b) env w = (asD (ev T R a env w)).bind fun r w => (asD (ev T R b env w)).bind fun s w => zipR r s w := by
  simp only [evI]
  congr 1
  funext r w
  congr 1
  funext s w
  cases r <;> first | rfl | (cases s <;> rfl)
@[simp] theorem ei_r1 {n : E} : evI T R (.range1 n) env w = (asI (ev T R n env w)).bind fun n w => if rngOk n then .ok (rangeD 0 n.toNat) w else .bad := rfl
@[simp] theorem ei_r2 {lo hi : E} : evI T R (.range2 lo hi) env w = (asI (ev T R lo env w)).bind fun a w => (asI (ev T R hi env w)).bind fun b w => if rngOk a && rngOk b then .ok (rangeD a (b - a).toNat) w else .bad := rfl
@[simp] theorem step_v {i : Nat} {b : Ss} {x : D} : stepF T R (.var i) b x env w = exSs T R b (env.set i (.val x)) w := rfl
@[simp] theorem step_t2 {i j : Nat} {b : Ss} {x y : D} : stepF T R (.tup [i, j]) b (.tup [x, y]) env w = exSs T R b ((env.set i (.val x)).set j (.val y)) w := rfl
@[simp] theorem step_t3 {i j k : Nat} {b : Ss} {x y z : D} : stepF T R (.tup [i, j, k]) b (.tup [x, y, z]) env w = exSs T R b (((env.set i (.val x)).set j (.val y)).set k (.val z)) w := rfl
@[simp] theorem compF_v {e c : E} {i : Nat} {x : D} : compF T R e (.var i) c env x w = (noExc (asB (ev T R c (env.set i (.val x)) w))).bind fun t w => if t then (noExc (asD (ev T R e (env.set i (.val x)) w))).bind fun y w => .ok (some y) w else .ok none w := rfl
@[simp] theorem compF_t2 {e c : E} {i j : Nat} {x y : D} : compF T R e (.tup [i, j]) c env (.tup [x, y]) w = (noExc (asB (ev T R c ((env.set i (.val x)).set j (.val y)) w))).bind fun t w => if t then (noExc (asD (ev T R e ((env.set i (.val x)).set j (.val y)) w))).bind fun y w => .ok (some y) w else .ok none w := rfl
@[simp] theorem sl_l {xs : List D} {lo hi : Option Int} : sliceR (.d (.lst xs)) lo hi w = some (.fl (.L (cut xs lo hi))) := rfl
@[simp] theorem sl_s {s : List Nat} {lo hi : Option Int} : sliceR (.d (.str s)) lo hi w = if s.length ≤ big then some (.d (.str (cut s lo hi))) else none := rfl
@[simp] theorem sl_b {xs : List D} {lo hi : Option Int} : sliceR (.bor (.L xs)) lo hi w = some (.fl (.L (cut xs lo hi))) := rfl
/-! ### loops -/
theorem for_inv {f : D → Env → Wd → SR} {xs : List D} {I : Env → Wd → Prop} (h : ∀ x ∈ xs, ∀ env w, I env w → ∃ env' w', f x env w = .next env' w' ∧ I env' w') : I env w → ∃ env' w', forLoop f xs env w = .next env' w' ∧ I env' w' := by
  induction xs generalizing env w with
  | nil => exact fun i => ⟨env, w, rfl, i⟩
  | cons x xs ih =>
    intro i
    obtain ⟨env1, w1, e, i1⟩ := h x List.mem_cons_self env w i
    obtain ⟨env2, w2, e2, i2⟩ := ih (fun y hy => h y (List.mem_cons_of_mem _ hy)) i1
    refine ⟨env2, w2, ?_, i2⟩
    unfold forLoop
    rw [e]
    exact e2
theorem comp_map {f : D → Wd → Res (Option D)} {xs : List D} {g : D → D} (h : ∀ x ∈ xs, f x w = .ok (some (g x)) w) : compLoop f xs w = .ok (xs.map g) w := by
  induction xs with
  | nil => rfl
  | cons x xs ih =>
    unfold compLoop
    rw [h x List.mem_cons_self]
    show (compLoop f xs w).bind _ = _
    rw [ih fun y hy => h y (List.mem_cons_of_mem _ hy)]
    rfl
theorem comp_inv {f : D → Wd → Res (Option D)} {xs : List D} {I : Wd → Prop} {Q : D → Prop} (h : ∀ x ∈ xs, ∀ w, I w → ∃ y w', f x w = .ok (some y) w' ∧ Q y ∧ I w') : I w → ∃ ys w', compLoop f xs w = .ok ys w' ∧ ys.length = xs.length ∧ (∀ y ∈ ys, Q y) ∧ I w' := by
  induction xs generalizing w with
  | nil => exact fun i => ⟨[], w, rfl, rfl, by simp, i⟩
  | cons x xs ih =>
    intro i
    obtain ⟨y, w1, e, q, i1⟩ := h x List.mem_cons_self w i
    obtain ⟨ys, w2, e2, l2, q2, i2⟩ := ih (fun y hy => h y (List.mem_cons_of_mem _ hy)) i1
    refine ⟨y :: ys, w2, ?_, by simp [l2], by simpa using ⟨q, q2⟩, i2⟩
    unfold compLoop
    rw [e]
    show (compLoop f xs w1).bind _ = _
    rw [e2]
    rfl
theorem cut_map {α β : Type} {g : α → β} {xs : List α} {lo hi : Option Int} : cut (xs.map g) lo hi = (cut xs lo hi).map g := by
  unfold cut
  rw [List.length_map, List.map_take, List.map_drop]
theorem cut_le {α : Type} {xs : List α} {lo hi : Option Int} : (cut xs lo hi).length ≤ xs.length := by
  unfold cut
  rw [List.length_take, List.length_drop]
  omega
theorem run_s {p : Pgm} {k f : Nat} {xs : List D} {fn : Fn} (h : p.fns f = some fn) (hl : xs.length = fn.np) : p.run (k + 1) f xs w = endFn (exSs p.tab ⟨p.run k, p.make k, p.fuel⟩ fn.body (startE fn xs) w) := by
  show (match p.fns f with
    | some fn => if xs.length = fn.np then endFn (exSs p.tab ⟨p.run k, p.make k, p.fuel⟩ fn.body (startE fn xs) w) else .bad
    | none => .bad) = _
  rw [h]
  exact if_pos hl
end
end MP

set_option maxRecDepth 100000
set_option maxHeartbeats 2000000
/-! MPB: the law's bag of numbers. -/
namespace MP
def bdBag : Ss := (.cons (.set 1 (.comp (.p1 .toInt (.var 3)) (.var 3) (.of (.slice (.var 0) .none (.some (.con (.int 63))))) (.con (.bl true)))) (.cons (.set 2 (.con (.int 0))) (.cons (.frz 1) (.cons (.for_ (.var 3) (.of (.var 1)) (.cons (.set 2 (.p2 .mod (.p2 .add (.p2 .mul (.var 2) (.con (.int 69621))) (.p2 .mod (.p1 .toInt (.var 3)) (.con (.int 2147483647)))) (.con (.int 2147483647)))) .nil)) (.cons (.frz 1) (.cons (.frz 2) (.cons (.ret (.mkcell (.lst (.cons (.var 1) (.cons (.con (.int 0)) (.cons (.con (.int 0)) (.cons (.var 2) .nil))))))) .nil)))))))
def bdTake : Ss := (.cons (.ite (.andd (.p2 .eq (.p2 .item (.var 0) (.con (.int 2))) (.con (.int 0))) (.p2 .lt (.p2 .item (.var 0) (.con (.int 1))) (.p1 .len (.p2 .item (.var 0) (.con (.int 0)))))) (.cons (.set 2 (.p1 .toInt (.p2 .item (.p2 .item (.var 0) (.con (.int 0))) (.p2 .item (.var 0) (.con (.int 1)))))) (.cons (.setItem 0 (.con (.int 1)) (.p2 .add (.p2 .item (.var 0) (.con (.int 1))) (.con (.int 1)))) (.cons (.ite (.p2 .lt (.var 2) (.p2 .pow (.con (.int 10)) (.con (.int 18)))) (.cons (.set 3 (.p2 .mod (.p2 .mul (.p2 .mod (.p2 .mul (.p2 .mod (.p1 .toInt (.var 2)) (.con (.int 2147483647))) (.con (.int 48271))) (.con (.int 2147483399))) (.con (.int 40692))) (.con (.int 2147483647)))) (.cons (.ret (.p2 .mod (.p1 .toInt (.p2 .fdiv (.var 3) (.con (.int 31)))) (.var 1))) .nil)) .nil) (.cons (.frz 2) (.cons (.setItem 0 (.con (.int 2)) (.var 2)) .nil))))) .nil) (.cons (.ite (.p2 .gt (.p2 .item (.var 0) (.con (.int 2))) (.con (.int 0))) (.cons (.set 4 (.p2 .mod (.p1 .toInt (.p2 .item (.var 0) (.con (.int 2)))) (.var 1))) (.cons (.setItem 0 (.con (.int 2)) (.p2 .fdiv (.p1 .toInt (.p2 .item (.var 0) (.con (.int 2)))) (.var 1))) (.cons (.retv 4) .nil))) .nil) (.cons (.setItem 0 (.con (.int 3)) (.p2 .mod (.p2 .mul (.p1 .toInt (.p2 .item (.var 0) (.con (.int 3)))) (.con (.int 48271))) (.con (.int 2147483647)))) (.cons (.ret (.p2 .mod (.p1 .toInt (.p2 .fdiv (.p2 .item (.var 0) (.con (.int 3))) (.con (.int 31)))) (.var 1))) .nil))))
def bagO (cs : List Int) (i : Nat) (r s : Int) : Ow := .L [.lst (cs.map .int), .int i, .int r, .int s]
/-- a number below n, and the bag behind it -/
def Took (w : Wd) (c : Nat) (cs : List Int) (n : Int) (r : Res RV) : Prop := ∃ v i r' s, 0 ≤ v ∧ v < n ∧ r = .ok (.d (.int v)) (w.set c (bagO cs i r' s))
section
variable (T : Tab) (R : Calls)
theorem took_ok {w : Wd} {c : Nat} {cs : List Int} {i : Nat} {r s n : Int} (hb : w[c]? = some (bagO cs i r s)) (hn : 0 < n) (hd : n < 2 ^ 64) :
    Took w c cs n (endFn (exSs T R bdTake (startE ⟨2, 5, bdTake⟩ [.cell c, .int n]) w)) := by
  unfold bdTake startE
  have hb' : w[c]? = some (.L [.lst (cs.map .int), .int i, .int r, .int s]) := hb
  have hs : ∀ X : Ow, (w.set c X)[c]? = some X := fun X => by rw [List.getElem?_set_self (List.getElem?_eq_some_iff.mp hb).1]
  clear hb
  have hn0 : n ≠ 0 := by omega
  have hd := divOk_le hn hd
  have hq : ∀ i : Int, 0 ≤ i % n ∧ i % n < n := fun i => ⟨Int.emod_nonneg i hn0, Int.emod_lt_of_pos i hn⟩
  by_cases h1 : r = 0
  · by_cases h2 : i < cs.length
    · by_cases h3 : cs[i] < 1000000000000000000
      · simp [hb', hs, at_int, h1, h2, h3, powOk, mulOk, divOk_le, hn, hd, writable, changeV, setOw, ixAt]
        exact ⟨_, i + 1, 0, s, (hq _).1, (hq _).2, rfl⟩
      · have h4 : 0 < cs[i] := by omega
        simp [hb', hs, at_int, h1, h2, h3, h4, powOk, mulOk, divOk_le, hn, hd, writable, changeV, setOw, ixAt]
        exact ⟨_, i + 1, _, s, (hq _).1, (hq _).2, rfl⟩
    · simp [hb', hs, at_int, h1, h2, powOk, mulOk, divOk_le, hn, hd, writable, changeV, setOw, ixAt]
      exact ⟨_, i, 0, _, (hq _).1, (hq _).2, rfl⟩
  · by_cases h2 : 0 < r
    · simp [hb', hs, at_int, h1, h2, powOk, mulOk, divOk_le, hn, hd, writable, changeV, setOw, ixAt]
      exact ⟨_, i, _, s, (hq _).1, (hq _).2, rfl⟩
    · simp [hb', hs, at_int, h1, h2, powOk, mulOk, divOk_le, hn, hd, writable, changeV, setOw, ixAt]
      exact ⟨_, i, r, _, (hq _).1, (hq _).2, rfl⟩
/-- the bag, made -/
theorem bag_ok {w : Wd} {ns : List Int} (hl : ns.length ≤ 63) : ∃ cs s, cs.length ≤ 63 ∧ endFn (exSs T R bdBag (startE ⟨1, 4, bdBag⟩ [.lst (ns.map .int)]) w) = .ok (.d (.cell w.length)) (w ++ [bagO cs 0 0 s]) := by
  unfold bdBag startE
  have l1 : (cut ns none (some 63)).length ≤ 63 := Nat.le_trans cut_le hl
  generalize hcs : cut ns none (some 63) = cs at l1
  have hb : cs.length ≤ big := Nat.le_trans l1 (by decide)
  have c1 : ∀ env : Env, env.length = 4 → compLoop (compF T R (.p1 .toInt (.var 3)) (.var 3) (.con (.bl true)) env) (cs.map .int) w = .ok (cs.map .int) w := fun env he => by
    have z := comp_map (f := compF T R (.p1 .toInt (.var 3)) (.var 3) (.con (.bl true)) env) (xs := cs.map .int) (w := w) (g := id) fun x hx => by
      obtain ⟨i, _, rfl⟩ := List.mem_map.mp hx
      simp [he]
    simpa using z
  have l2 := for_inv (f := stepF T R (.var 3) (.cons (.set 2 (.p2 .mod (.p2 .add (.p2 .mul (.var 2) (.con (.int 69621))) (.p2 .mod (.p1 .toInt (.var 3)) (.con (.int 2147483647)))) (.con (.int 2147483647)))) .nil)) (xs := cs.map .int)
    (env := [.val (.lst (ns.map .int)), .val (.lst (cs.map .int)), .val (.int 0), .none]) (w := w)
    (I := fun env w' => w' = w ∧ ∃ s t, env = [.val (.lst (ns.map .int)), .val (.lst (cs.map .int)), .val (.int s), t]) (fun x hx env w' ⟨hw, s, t, he⟩ => by
      obtain ⟨i, _, rfl⟩ := List.mem_map.mp hx
      subst hw he
      simp [mulOk]
      exact ⟨_, _, ⟨rfl, rfl⟩, rfl, _, _, rfl⟩) ⟨rfl, 0, .none, rfl⟩
  obtain ⟨env', w', e2, hw, s, t, he⟩ := l2
  subst hw he
  refine ⟨cs, s, l1, ?_⟩
  simp [cut_map, hcs, hb, c1, e2, bagO, (by decide : 4 ≤ big)]
end
end MP

set_option maxRecDepth 100000
set_option maxHeartbeats 2000000
/-! MPH: more for reckoning. -/
namespace MP
section
variable {T : Tab} {R : Calls} {env : Env} {w : Wd}
/-- a walk that ends early at an item that is not as wished -/
theorem for_all {f : D → Env → Wd → SR} {I : Env → Wd → Prop} {J : RV → Wd → Prop} {P : D → Prop} : ∀ {xs : List D} {env : Env} {w : Wd}, (∀ x ∈ xs, ∀ env w, I env w → (P x ∧ ∃ env' w', f x env w = .next env' w' ∧ I env' w') ∨ (¬ P x ∧ ∃ r w', f x env w = .ret r w' ∧ J r w')) → I env w →
    ((∀ x ∈ xs, P x) ∧ ∃ env' w', forLoop f xs env w = .next env' w' ∧ I env' w') ∨ ((∃ x ∈ xs, ¬ P x) ∧ ∃ r w', forLoop f xs env w = .ret r w' ∧ J r w')
  | [], env, w, _, i => .inl ⟨by simp, env, w, rfl, i⟩
  | x :: xs, env, w, h, i => by
    rcases h x List.mem_cons_self env w i with ⟨p, env1, w1, e, i1⟩ | ⟨p, r, w1, e, j⟩
    · rcases for_all (fun y hy => h y (List.mem_cons_of_mem _ hy)) i1 with ⟨p2, env2, w2, e2, i2⟩ | ⟨⟨y, hy, p2⟩, r, w2, e2, j⟩
      · refine .inl ⟨by simpa using ⟨p, p2⟩, env2, w2, ?_, i2⟩
        unfold forLoop
        rw [e]
        exact e2
      · refine .inr ⟨⟨y, List.mem_cons_of_mem _ hy, p2⟩, r, w2, ?_, j⟩
        unfold forLoop
        rw [e]
        exact e2
    · refine .inr ⟨⟨x, List.mem_cons_self, p⟩, r, w1, ?_, j⟩
      unfold forLoop
      rw [e]
theorem rangeD_len {lo : Int} {n : Nat} : (rangeD lo n).length = n := by
  unfold rangeD
  simp
theorem rangeD_mem {lo : Int} {n : Nat} {x : D} (h : x ∈ rangeD lo n) : ∃ i : Int, x = .int i ∧ lo ≤ i ∧ i < lo + n := by
  unfold rangeD at h
  obtain ⟨i, hi, rfl⟩ := List.mem_map.mp h
  rw [List.mem_range] at hi
  exact ⟨_, rfl, by omega, by omega⟩
def signs (cs : List Nat) : List D := cs.map fun c => .str [c]
theorem signs_of {P : Nat → Prop} : ∀ {ys : List D}, (∀ y ∈ ys, ∃ c, y = .str [c] ∧ P c) → ∃ cs : List Nat, ys = signs cs ∧ ∀ c ∈ cs, P c
  | [], _ => ⟨[], rfl, by simp⟩
  | y :: ys, h => by
    obtain ⟨c, e, p⟩ := h y List.mem_cons_self
    obtain ⟨cs, e2, p2⟩ := signs_of fun z hz => h z (List.mem_cons_of_mem _ hz)
    exact ⟨c :: cs, by rw [e, e2]; rfl, by simpa using ⟨p, p2⟩⟩
theorem signs_len {cs : List Nat} : (signs cs).length = cs.length := by
  unfold signs
  simp
theorem strs_signs : ∀ cs : List Nat, strs? (signs cs) = some (cs.map fun c => [c])
  | [] => rfl
  | c :: cs => by
    show (strs? (signs cs)).map _ = _
    rw [strs_signs cs]
    rfl
theorem joinL_signs : ∀ cs : List Nat, joinL [] (cs.map fun c => [c]) = cs
  | [] => rfl
  | [c] => rfl
  | c :: d :: cs => by
    have ih := joinL_signs (d :: cs)
    show [c] ++ ([] ++ joinL [] ((d :: cs).map fun c => [c])) = _
    rw [ih]
    rfl
theorem lens_signs : ∀ cs : List Nat, lens (cs.map fun c => [c]) = cs.length
  | [] => rfl
  | c :: cs => by
    have ih := lens_signs cs
    unfold lens at ih ⊢
    rw [List.map_cons, List.map_cons, List.sum_cons, ih, List.length_cons]
    simp
    omega
theorem op_join {cs : List Nat} (h : cs.length ≤ big) : op2 .join (.d (.str [])) (.fl (.L (signs cs))) w = some (.d (.str cs)) := by
  show ((RV.lst? (.fl (.L (signs cs))) w).bind fun xs => (strs? xs).bind fun ss => if lens ss + ([] : List Nat).length * ss.length ≤ big then some (RV.d (.str (joinL [] ss))) else none) = _
  rw [show RV.lst? (.fl (.L (signs cs))) w = some (signs cs) from rfl, Option.bind_some, strs_signs, Option.bind_some, lens_signs, joinL_signs]
  rw [if_pos (by simpa using h)]
@[simp] theorem if_bl {c : Prop} [Decidable c] {b : Bool} : (if c then Res.ok (RV.d (.bl b)) w else .ok (.d (.bl false)) w) = .ok (.d (.bl (decide c && b))) w := by
  by_cases h : c <;> simp [h]
theorem cut_to {α : Type} {s : List α} {p : Int} (h : 0 ≤ p) : cut s none (some p) = s.take p.toNat := by
  show (s.drop 0).take ((if p < 0 then _ else _) - 0) = _
  rw [if_neg (by omega), List.drop_zero, Nat.sub_zero]
  by_cases z : p.toNat ≤ s.length
  · rw [Nat.min_eq_left z]
  · rw [Nat.min_eq_right (by omega), List.take_of_length_le (by omega), List.take_of_length_le (by omega)]
theorem cut_from {α : Type} {s : List α} {p : Int} (h : 0 ≤ p) : cut s (some p) none = s.drop p.toNat := by
  show (s.drop (if p < 0 then _ else _)).take (s.length - (if p < 0 then _ else _)) = _
  rw [if_neg (by omega)]
  by_cases z : p.toNat ≤ s.length
  · rw [Nat.min_eq_left z, List.take_of_length_le (by rw [List.length_drop]; omega)]
  · rw [Nat.min_eq_right (by omega), Nat.sub_self, List.take_zero, List.drop_eq_nil_of_le (by omega)]
/-- the bag -/
def isBag (o : Ow) : Prop := ∃ cs i r s, o = bagO cs i r s
/-- a number is taken from a world of the bag alone -/
theorem take_one {p : Pgm} {k f : Nat} {fn : Fn} (hf : p.fns f = some fn) (h2 : fn = ⟨2, 5, bdTake⟩) {b : Ow} (hb : isBag b) {n : Int} (hn : 0 < n) (hd : n < 2 ^ 64) :
    ∃ v b', 0 ≤ v ∧ v < n ∧ isBag b' ∧ p.run (k + 1) f [.cell 0, .int n] [b] = .ok (.d (.int v)) [b'] := by
  subst h2
  obtain ⟨cs, i, r, s, rfl⟩ := hb
  obtain ⟨v, i', r', s', h1, h2, e⟩ := took_ok p.tab ⟨p.run k, p.make k, p.fuel⟩ (w := [bagO cs i r s]) (c := 0) rfl hn hd
  refine ⟨v, bagO cs i' r' s', h1, h2, ⟨_, _, _, _, rfl⟩, ?_⟩
  rw [run_s hf rfl]
  exact e
theorem bag_one {p : Pgm} {k f : Nat} {fn : Fn} (hf : p.fns f = some fn) (h2 : fn = ⟨1, 4, bdBag⟩) {ns : List Int} (hl : ns.length ≤ 63) : ∃ b, isBag b ∧ p.run (k + 1) f [.lst (ns.map .int)] [] = .ok (.d (.cell 0)) [b] := by
  subst h2
  obtain ⟨cs, s, _, e⟩ := bag_ok p.tab ⟨p.run k, p.make k, p.fuel⟩ (w := []) hl
  refine ⟨bagO cs 0 0 s, ⟨_, _, _, _, rfl⟩, ?_⟩
  rw [run_s hf rfl]
  exact e
end
end MP

set_option maxRecDepth 100000
set_option maxHeartbeats 0
namespace K01
open PySem PySem.Spec PyProof.Rows L2 MP
def top (i : Nat) : Stmt := PySem.Challenge.pw_lostyear_k01_names.main.body.getD i (.Pass ⟨0, 0, 0, 0⟩)
abbrev st0 : Stmt := top 14
def df0 : DefE := ⟨.glo "law", "law", "law", defArgs st0, defBody st0, defScope st0, ["_law_script", "_law_bag_here", "_law_letters", "_law_size", "_law_word", "_law_expected", "_law_place", "_law_actual", "_law_k"], 1, ⟨[], false⟩⟩
abbrev st1 : Stmt := top 12
def df1 : DefE := ⟨.glo "_law_bag", "_law_bag", "_law_bag", defArgs st1, defBody st1, defScope st1, ["_law_script", "_law_cells", "_law_seed", "_law_cell"], 1, ⟨[], true⟩⟩
abbrev st2 : Stmt := top 13
def df2 : DefE := ⟨.glo "_law_take", "_law_take", "_law_take", defArgs st2, defBody st2, defScope st2, ["_law_bag_here", "_law_many", "_law_cell", "_law_mixed", "_law_digit"], 2, ⟨[], false⟩⟩
abbrev st3 : Stmt := inClass (top 10) 7
def df3 : DefE := ⟨.stat "Frame" "is_name", "is_name", "Frame.is_name", defArgs st3, defBody st3, defScope st3, ["word", "sign"], 1, ⟨[], false⟩⟩
def pd : PD := ⟨["Frame"], [[]], [("law", .fn 0), ("_law_bag", .fn 1), ("_law_take", .fn 2), ("range", .free), ("Frame", .cls 0), ("isinstance", .free), ("bool", .free), ("int", .free), ("len", .free), ("LONGEST_NAME", .con (.int 12)), ("LETTERS", .con (.str [97, 98, 99, 100, 101, 102, 103, 104, 105, 106, 107, 108, 109, 110, 111, 112, 113, 114, 115, 116, 117, 118, 119, 120, 121, 122]))], [(("Frame", "is_name"), 3)], [df0, df1, df2, df3]⟩
/- law: 0 _law_script, 1 _law_bag_here, 2 _law_letters, 3 _law_size, 4 _law_word, 5 _law_expected, 6 _law_place, 7 _law_actual, 8 _law_k -/
def bd0 : Ss := (.cons (.frz 0) (.cons (.set 1 (.call 1 (.cons (.var 0) .nil))) (.cons (.set 2 (.con (.str [97, 98, 99, 100, 101, 102, 103, 104, 105, 106, 107, 108, 109, 110, 111, 112, 113, 114, 115, 116, 117, 118, 119, 120, 121, 122]))) (.cons (.frz 1) (.cons (.set 3 (.call 2 (.cons (.var 1) (.cons (.con (.int 15)) .nil)))) (.cons (.frz 1) (.cons (.set 4 (.p2 .join (.con (.str [])) (.comp (.p2 .item (.var 2) (.call 2 (.cons (.var 1) (.cons (.con (.int 26)) .nil)))) (.var 8) (.range1 (.var 3)) (.con (.bl true))))) (.cons (.set 5 (.ch2 .le .le (.con (.int 1)) (.var 3) (.con (.int 12)))) (.cons (.frz 1) (.cons (.ite (.andd (.p2 .gt (.var 3) (.con (.int 0))) (.p2 .eq (.call 2 (.cons (.var 1) (.cons (.con (.int 2)) .nil))) (.con (.int 1)))) (.cons (.frz 1) (.cons (.frz 3) (.cons (.set 6 (.call 2 (.cons (.var 1) (.cons (.var 3) .nil)))) (.cons (.frz 1) (.cons (.set 4 (.p2 .add (.p2 .add (.slice (.var 4) .none (.some (.var 6))) (.p2 .item (.con (.str [65, 90, 48, 57, 32, 45, 63, 95, 46, 126, 10])) (.call 2 (.cons (.var 1) (.cons (.con (.int 11)) .nil))))) (.slice (.var 4) (.some (.p2 .add (.var 6) (.con (.int 1)))) .none))) (.cons (.set 5 (.con (.bl false))) .nil)))))) .nil) (.cons (.frz 4) (.cons (.set 7 (.call 3 (.cons (.var 4) .nil))) (.cons (.ret (.andd (.p1 (.isT .bool) (.var 7)) (.p2 .eq (.var 7) (.var 5)))) .nil)))))))))))))
def fn0 : Fn := ⟨1, 9, bd0⟩
/- _law_bag: 0 _law_script, 1 _law_cells, 2 _law_seed, 3 _law_cell -/
def bd1 : Ss := (.cons (.set 1 (.comp (.p1 .toInt (.var 3)) (.var 3) (.of (.slice (.var 0) .none (.some (.con (.int 63))))) (.con (.bl true)))) (.cons (.set 2 (.con (.int 0))) (.cons (.frz 1) (.cons (.for_ (.var 3) (.of (.var 1)) (.cons (.set 2 (.p2 .mod (.p2 .add (.p2 .mul (.var 2) (.con (.int 69621))) (.p2 .mod (.p1 .toInt (.var 3)) (.con (.int 2147483647)))) (.con (.int 2147483647)))) .nil)) (.cons (.frz 1) (.cons (.frz 2) (.cons (.ret (.mkcell (.lst (.cons (.var 1) (.cons (.con (.int 0)) (.cons (.con (.int 0)) (.cons (.var 2) .nil))))))) .nil)))))))
def fn1 : Fn := ⟨1, 4, bd1⟩
/- _law_take: 0 _law_bag_here, 1 _law_many, 2 _law_cell, 3 _law_mixed, 4 _law_digit -/
def bd2 : Ss := (.cons (.ite (.andd (.p2 .eq (.p2 .item (.var 0) (.con (.int 2))) (.con (.int 0))) (.p2 .lt (.p2 .item (.var 0) (.con (.int 1))) (.p1 .len (.p2 .item (.var 0) (.con (.int 0)))))) (.cons (.set 2 (.p1 .toInt (.p2 .item (.p2 .item (.var 0) (.con (.int 0))) (.p2 .item (.var 0) (.con (.int 1)))))) (.cons (.setItem 0 (.con (.int 1)) (.p2 .add (.p2 .item (.var 0) (.con (.int 1))) (.con (.int 1)))) (.cons (.ite (.p2 .lt (.var 2) (.p2 .pow (.con (.int 10)) (.con (.int 18)))) (.cons (.set 3 (.p2 .mod (.p2 .mul (.p2 .mod (.p2 .mul (.p2 .mod (.p1 .toInt (.var 2)) (.con (.int 2147483647))) (.con (.int 48271))) (.con (.int 2147483399))) (.con (.int 40692))) (.con (.int 2147483647)))) (.cons (.ret (.p2 .mod (.p1 .toInt (.p2 .fdiv (.var 3) (.con (.int 31)))) (.var 1))) .nil)) .nil) (.cons (.frz 2) (.cons (.setItem 0 (.con (.int 2)) (.var 2)) .nil))))) .nil) (.cons (.ite (.p2 .gt (.p2 .item (.var 0) (.con (.int 2))) (.con (.int 0))) (.cons (.set 4 (.p2 .mod (.p1 .toInt (.p2 .item (.var 0) (.con (.int 2)))) (.var 1))) (.cons (.setItem 0 (.con (.int 2)) (.p2 .fdiv (.p1 .toInt (.p2 .item (.var 0) (.con (.int 2)))) (.var 1))) (.cons (.retv 4) .nil))) .nil) (.cons (.setItem 0 (.con (.int 3)) (.p2 .mod (.p2 .mul (.p1 .toInt (.p2 .item (.var 0) (.con (.int 3)))) (.con (.int 48271))) (.con (.int 2147483647)))) (.cons (.ret (.p2 .mod (.p1 .toInt (.p2 .fdiv (.p2 .item (.var 0) (.con (.int 3))) (.con (.int 31)))) (.var 1))) .nil))))
def fn2 : Fn := ⟨2, 5, bd2⟩
/- Frame.is_name: 0 word, 1 sign -/
def bd3 : Ss := (.cons (.ite (.nott (.ch2 .le .le (.con (.int 1)) (.p1 .len (.var 0)) (.con (.int 12)))) (.cons (.ret (.con (.bl false))) .nil) .nil) (.cons (.frz 0) (.cons (.for_ (.var 1) (.of (.var 0)) (.cons (.ite (.p2 .notIn (.var 1) (.con (.str [97, 98, 99, 100, 101, 102, 103, 104, 105, 106, 107, 108, 109, 110, 111, 112, 113, 114, 115, 116, 117, 118, 119, 120, 121, 122]))) (.cons (.ret (.con (.bl false))) .nil) .nil) .nil)) (.cons (.ret (.con (.bl true))) .nil))))
def fn3 : Fn := ⟨1, 2, bd3⟩
def lit : List Fn := [fn0, fn1, fn2, fn3]
theorem code : pd.code = lit.map some := by kernel_rfl
theorem oks : ∀ (f : Nat) (d : DefE), pd.defs[f]? = some d → d.Ok
  | 0, _, rfl => ⟨by decide +kernel, by decide +kernel, fun _ _ _ _ _ _ us hl => match us, hl with | [_], _ => rfl⟩
  | 1, _, rfl => ⟨by decide +kernel, by decide +kernel, fun _ _ _ _ _ _ us hl => match us, hl with | [_], _ => rfl⟩
  | 2, _, rfl => ⟨by decide +kernel, by decide +kernel, fun _ _ _ _ _ _ us hl => match us, hl with | [_, _], _ => rfl⟩
  | 3, _, rfl => ⟨by decide +kernel, by decide +kernel, fun _ _ _ _ _ _ us hl => match us, hl with | [_], _ => rfl⟩
  | _ + 4, _, h => nomatch h
def tab : Tab := ⟨fun _ _ => none, fun _ _ => none, fun _ _ => none, fun _ _ => false, fun _ => none⟩
def pg : Pgm := ⟨tab, fun f => lit[f]?, 1000⟩
abbrev R : PySem.W.OpenRow := PySem.W.OpenLaw.row PySem.Challenge.rw_lostyear_k01_names
def ob (s : PySem.W.SharedT) : He.AlD := pd.see 6 (HandSHeadRun.getT s)
theorem ob_eq (s : PySem.W.SharedT) : ob s = (pd.hook 6).obs s.abs := PD.see_eq (HandSHeadRun.getT_eq s)
def loose : List Str := ["_wall", "StudyError", "InvalidFrame", "LETTERS", "LONGEST_NAME", "are_different", "ascend", "is_pair_within", "Frame", "_law_bag", "_law_take"]
theorem run (w : World) : HandSHeadRun.RunEq R (PySem.W.view R.prog [14]) (pd.hook 6) ob 3000 loose w := by
  intro os
  kernel_rfl
end K01

set_option maxRecDepth 100000
set_option maxHeartbeats 2000000
namespace K01
open MP
def abc : List Nat := [97, 98, 99, 100, 101, 102, 103, 104, 105, 106, 107, 108, 109, 110, 111, 112, 113, 114, 115, 116, 117, 118, 119, 120, 121, 122]
theorem name_ok {k : Nat} {s : List Nat} {w : Wd} (hs : s.length ≤ big) : pg.run (k + 1) 3 [.str s] w = .ok (.d (.bl (decide (1 ≤ s.length ∧ s.length ≤ 12 ∧ ∀ c ∈ s, c ∈ abc)))) w := by
  rw [run_s (fn := fn3) rfl rfl]
  show endFn (exSs _ _ bd3 (startE ⟨1, 2, bd3⟩ _) w) = _
  unfold bd3 startE
  by_cases h : 1 ≤ s.length ∧ s.length ≤ 12
  · have L := for_all (f := stepF pg.tab ⟨pg.run k, pg.make k, pg.fuel⟩ (.var 1) (.cons (.ite (.p2 .notIn (.var 1) (.con (.str abc))) (.cons (.ret (.con (.bl false))) .nil) .nil) .nil)) (xs := s.map fun c => .str [c]) (env := [.val (.str s), .none]) (w := w)
      (I := fun env w' => w' = w ∧ ∃ t, env = [.val (.str s), t]) (J := fun r w' => r = .d (.bl false) ∧ w' = w) (P := fun x => ∃ c ∈ abc, x = .str [c]) (fun x hx env w' ⟨hw, t, he⟩ => by
        obtain ⟨c, hc, rfl⟩ := List.mem_map.mp hx
        subst hw he
        by_cases h2 : c ∈ abc
        · refine .inl ⟨⟨c, h2, rfl⟩, ?_⟩
          simp [h2]
          exact ⟨_, _, ⟨rfl, rfl⟩, rfl, _, rfl⟩
        · refine .inr ⟨fun ⟨d, h3, h4⟩ => h2 (by simp at h4; rw [h4]; exact h3), ?_⟩
          simp [h2]) ⟨rfl, .none, rfl⟩
    rcases L with ⟨p, env', w', e, hw, t, he⟩ | ⟨⟨x, hx, p⟩, r, w', e, hr, hw⟩
    · subst hw he
      have q : ∀ c ∈ s, c ∈ abc := fun c hc => by
        obtain ⟨d, h3, h4⟩ := p (.str [c]) (List.mem_map.mpr ⟨c, hc, rfl⟩)
        simp at h4
        rw [h4]
        exact h3
      rw [decide_eq_true ⟨h.1, h.2, q⟩]
      unfold abc at e
      have h1 : (1 : Int) ≤ s.length := by have := h.1; omega
      have h2 : (s.length : Int) ≤ 12 := by have := h.2; omega
      simp [hs, h1, h2, e]
    · subst hw hr
      obtain ⟨c, hc, rfl⟩ := List.mem_map.mp hx
      rw [decide_eq_false fun z => p ⟨c, z.2.2 c hc, rfl⟩]
      unfold abc at e
      have h1 : (1 : Int) ≤ s.length := by have := h.1; omega
      have h2 : (s.length : Int) ≤ 12 := by have := h.2; omega
      simp [hs, h1, h2, e]
  · have h3 : ¬ (1 ≤ s.length ∧ s.length ≤ 12 ∧ ∀ c ∈ s, c ∈ abc) := fun z => h ⟨z.1, z.2.1⟩
    rw [decide_eq_false h3]
    by_cases h1 : (1 : Int) ≤ s.length
    · have h2 : ¬ (s.length : Int) ≤ 12 := by omega
      simp [hs, h1, h2]
    · simp [hs, h1]
theorem take {k : Nat} {b : Ow} (hb : isBag b) {n : Int} (hn : 0 < n) (hd : n < 2 ^ 64) : ∃ v b', 0 ≤ v ∧ v < n ∧ isBag b' ∧ pg.run (k + 1) 2 [.cell 0, .int n] [b] = .ok (.d (.int v)) [b'] := take_one (fn := fn2) rfl rfl hb hn hd
abbrev rc : Calls := ⟨pg.run 1, pg.make 1, pg.fuel⟩
theorem word_ok {env : Env} {b1 : Ow} {z : Int} (hb1 : isBag b1) (v1 : env[1]? = some (.val (.cell 0))) (v2 : env[2]? = some (.val (.str abc))) (vl : env.length = 9) :
    ∃ s b, compLoop (compF pg.tab rc (.p2 .item (.var 2) (.call 2 (.cons (.var 1) (.cons (.con (.int 26)) .nil)))) (.var 8) (.con (.bl true)) env) (rangeD 0 z.toNat) [b1] = .ok (signs s) [b] ∧ s.length = z.toNat ∧ (∀ c ∈ s, c ∈ abc) ∧ isBag b := by
  have z := comp_inv (f := compF pg.tab rc (.p2 .item (.var 2) (.call 2 (.cons (.var 1) (.cons (.con (.int 26)) .nil)))) (.var 8) (.con (.bl true)) env) (xs := rangeD 0 z.toNat) (w := [b1]) (I := fun w => ∃ b, isBag b ∧ w = [b]) (Q := fun y => ∃ c, y = .str [c] ∧ c ∈ abc) (fun x hx w ⟨b, hb, hw⟩ => by
    subst hw
    obtain ⟨v, b', v0, v3, hb', e⟩ := take (k := 0) hb (n := 26) (by decide) (by decide)
    have hv : v.toNat < abc.length := by show v.toNat < 26; omega
    refine ⟨.str [abc[v.toNat]], [b'], ?_, ⟨_, rfl, List.getElem_mem hv⟩, b', hb', rfl⟩
    simp [e, v1, v2, at_int, v0, List.getElem?_eq_getElem hv, (by decide : abc.length ≤ big)]) ⟨b1, hb1, rfl⟩
  rw [rangeD_len] at z
  obtain ⟨ys, w', e, hl, q, b, hb, hw⟩ := z
  obtain ⟨s, es, hs⟩ := signs_of q
  subst es hw
  rw [signs_len] at hl
  exact ⟨s, b, e, hl, hs, hb⟩
theorem law_true (ns : List Int) (hl : ns.length ≤ 63) : ∃ w, pg.run 2 0 [.lst (ns.map .int)] [] = .ok (.d (.bl true)) w := by
  rw [run_s (fn := fn0) rfl rfl]
  show ∃ w, endFn (exSs _ rc bd0 (startE ⟨1, 9, bd0⟩ _) _) = _
  unfold bd0 startE
  obtain ⟨b0, hb0, e0⟩ := bag_one (p := pg) (k := 0) (f := 1) (fn := fn1) rfl rfl hl
  obtain ⟨z, b1, z0, z1, hb1, e1⟩ := take (k := 0) hb0 (n := 15) (by decide) (by decide)
  have hr : rngOk z = true := by unfold rngOk; simp; omega
  obtain ⟨s, b2, e2, l2, q2, hb2⟩ := word_ok (env := [.val (.lst (ns.map .int)), .val (.cell 0), .val (.str abc), .val (.int z), .none, .none, .none, .none, .none]) (z := z) hb1 rfl rfl rfl
  unfold abc at e2
  have hz : z.toNat ≤ big := by show _ ≤ 1000000; omega
  have hs : s.length ≤ big := by omega
  have nm := fun (s : List Nat) (w : Wd) (h : s.length ≤ big) => name_ok (k := 0) (w := w) h
  have hd : decide (1 ≤ s.length ∧ s.length ≤ 12 ∧ ∀ c ∈ s, c ∈ abc) = (decide (1 ≤ z) && decide (z ≤ 12)) := by
    rw [← Bool.decide_and]
    exact decide_eq_decide.mpr ⟨fun h => by omega, fun h => ⟨by omega, by omega, q2⟩⟩
  have n6 : ∀ w, pg.run (0 + 1) 3 [.str s] w = .ok (.d (.bl (decide (1 ≤ z) && decide (z ≤ 12)))) w := fun w => by rw [nm s w hs, hd]
  by_cases z2 : 0 < z
  · obtain ⟨t, b3, t0, t1, hb3, e3⟩ := take (k := 0) hb2 (n := 2) (by decide) (by decide)
    by_cases ht : t = 1
    · obtain ⟨p, b4, p0, p1, hb4, e4⟩ := take (k := 0) hb3 (n := z) z2 (by omega)
      obtain ⟨v, b5, v0, v1, hb5, e5⟩ := take (k := 0) hb4 (n := 11) (by decide) (by decide)
      have hv : v.toNat < ([65, 90, 48, 57, 32, 45, 63, 95, 46, 126, 10] : List Nat).length := by show v.toNat < 11; omega
      have hm := List.getElem_mem hv
      have hg := List.getElem?_eq_getElem hv
      generalize ([65, 90, 48, 57, 32, 45, 63, 95, 46, 126, 10] : List Nat)[v.toNat] = c at hm hg
      have hc : c ∉ abc := by
        have h : ∀ c ∈ ([65, 90, 48, 57, 32, 45, 63, 95, 46, 126, 10] : List Nat), c ∉ abc := by decide
        exact h c hm
      obtain ⟨A, hA⟩ : ∃ A, A = s.take p.toNat := ⟨_, rfl⟩
      obtain ⟨B, hB⟩ : ∃ B, B = s.drop (p + 1).toNat := ⟨_, rfl⟩
      have lA : A.length ≤ 15 := by rw [hA, List.length_take]; omega
      have lB : B.length ≤ 15 := by rw [hB, List.length_drop]; omega
      have l3 : A.length + 1 ≤ big := by show _ ≤ 1000000; omega
      have l4 : A.length + (1 + B.length) ≤ big := by show _ ≤ 1000000; omega
      have l4' : A.length + 1 + B.length ≤ big := by show _ ≤ 1000000; omega
      have l5 : (A ++ [c] ++ B).length ≤ big := by
        rw [List.length_append, List.length_append]
        exact l4'
      have n5 := nm _ [b5] l5
      rw [decide_eq_false fun q => hc (q.2.2 c (by simp))] at n5
      subst ht
      rw [List.append_assoc] at n5
      simp [e0, e1, e2, e3, e4, e5, hr, rangeD_len, hz, hs, op_join hs, z2, at_int, v0, hg, cut_to p0, cut_from (show 0 ≤ p + 1 by omega), ← hA, ← hB, l3, l4, l4', (by decide : 11 ≤ big), isTy]
      simp at n5
      simp [n5, isTy]
    · have n5 := n6 [b3]
      simp [e0, e1, e2, e3, hr, rangeD_len, hz, op_join hs, z2, ht, n5, isTy]
  · have n5 := n6 [b2]
    simp [e0, e1, e2, hr, rangeD_len, hz, op_join hs, z2, n5, isTy]
end K01

open PySem PySem.W PySem.Calls PyProof.Rows
theorem PySem.Challenge.cw_lostyear_k01_names_holds : PySem.Challenge.rw_lostyear_k01_names.Holds := by
  w_on; o_law
  refine HandSHeadRun.head_any (r := K01.R) (q := view K01.R.prog [14]) (H := K01.pd.hook 6) (ob := K01.ob) (M := 3000) (loose := K01.loose) (d := HandSHeadRun.topDef K01.R.prog 14) (kwd := []) K01.ob_eq
    (by kernel_rfl) (fun s => by kernel_rfl) K01.run (by kernel_rfl) (by kernel_rfl) (by kernel_rfl) (by rfl) (by first | assumption | decide +kernel) (by decide +kernel) ⟨rfl, rfl, rfl, rfl, rfl, by decide +kernel⟩ ?hw ?hc
  case hw => w_witness2
  case hc => exact MP.walk_mp (l := PySem.Challenge.rw_lostyear_k01_names) (n := 63) (k := 1) (p := K01.pd) (dep := 6) (x := "_law_script") rfl (by decide) (by kernel_rfl) ⟨rfl, by decide, by decide⟩ K01.pg K01.code (fun _ => rfl) K01.oks (f := 0) (e := K01.df0) rfl (by kernel_rfl) (by decide +kernel) K01.law_true
