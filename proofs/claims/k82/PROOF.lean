import PyProof.Rows.All
import Wide.All
import OpenK.AllK
import Wide.FinOn
import HandS.ForMost
import HandS.Deep
import HandS.TupAny
import HandS.TupMul
import HandS.Conv
import HandS.IsInst
import HandS.Style
import HandS.Strs
import HandS.SortInts
import HandS.WrittenGet
import HandS.CallRecv
import HandS.HeadHook3
import HandS.Head0
import HandS.Head1
import HandS.Head2
import HandS.HeadEnd
import HandS.HeadHook1
import HandS.HeadHook2
import Wide.Once
import KE.KStateDown
import PySem.Challenge.RW_justtherest_k82_whole_layouts
set_option linter.all false
set_option Elab.async false
/-! The small language J: what the law's defs are read as, and its evaluator. -/
namespace J

/-- data: what never changes -/
inductive D where
  | none
  | b (x : Bool)
  | i (x : Int)
  | s (x : String)
  | t (xs : List D)
  | fl (xs : List D)
  deriving Inhabited

/-- values: data, or a live list by its number -/
inductive W where
  | d (x : D)
  | l (a : Nat)
  deriving Inhabited

abbrev SZ : Nat := 16777216
abbrev LH := List (List W)
abbrev Env := List (Option W)

mutual
def eqv : D → D → Bool
  | .none, .none => true
  | .b a, .b c => a == c
  | .b a, .i j => (if a then 1 else 0) == j
  | .i k, .b c => k == (if c then 1 else 0)
  | .i k, .i j => k == j
  | .s x, .s y => x == y
  | .t xs, .t ys => eqvL xs ys
  | .fl xs, .fl ys => eqvL xs ys
  | _, _ => false
def eqvL : List D → List D → Bool
  | [], [] => true
  | x :: xs, y :: ys => eqv x y && eqvL xs ys
  | _, _ => false
end
mutual
def depth : D → Nat
  | .t xs => depthL xs + 1
  | .fl xs => depthL xs + 1
  | _ => 0
def depthL : List D → Nat
  | [] => 0
  | x :: xs => max (depth x) (depthL xs)
end

inductive BOp | add | sub | mul | fdiv | mod | pow
inductive COp | lt | le | gt | ge | eq | ne | isin | nin | isb | nisb
inductive Bi | len | isInt | isBool | isStr | isTuple | isList | tuple | list | int | max2 | min2 | maxL | minL | all | any | sorted | sortedSet | lenSet | sum | bool | abs | str | repr
inductive Me | append | extend | pop | popAt | insert | reverse | index | count | add

inductive Tg where
  | n (i : Nat)
  | t (is : List Nat)

mutual
inductive E where
  | var (i : Nat)
  | c (x : D)
  | glob (g : Nat)
  | tup (es : List E)
  | lst (es : List E)
  | bin (op : BOp) (x y : E)
  | neg (x : E)
  | not (x : E)
  | cmp (op : COp) (x y : E)
  | chain (o1 o2 : COp) (x y z : E)
  | isN (x : E)
  | isNN (x : E)
  | and (x y : E)
  | or (x y : E)
  | ite (c x y : E)
  | ix (x i : E)
  | dix (g : Nat) (i : E)
  | sl (x : E) (lo hi : Option E)
  | rev (x : E)
  | call (f : Nat) (es : List E)
  | bi (f : Bi) (es : List E)
  | meth (m : Me) (x : E) (es : List E)
  | comp (elt : E) (tg : Tg) (it : It) (c : Option E)
  | comp2 (elt : E) (tg : Tg) (it : It) (tg1 : Tg) (it1 : It) (c : Option E)
  | ofIt (t : Bool) (it : It)
inductive It where
  | r1 (x : E)
  | r2 (x y : E)
  | sq (x : E)
end

inductive S where
  | asg (tg : Tg) (e : E)
  | par (i j : Nat) (x y : E)
  | par3 (i j l : Nat) (x y z : E)
  | setix (o i e : E)
  | aug (op : BOp) (i : Nat) (e : E)
  | ife (c : E) (x y : List S)
  | for (tg : Tg) (it : It) (body : List S)
  | whl (c : E) (body : List S)
  | ret (e : E)
  | retN
  | ex (e : E)
  | brk
  | cnt
  | pass
  | doc
  | never

inductive Fl where
  | nxt | brk | cnt
  | ret (w : W)

/-! ### operations on values -/
def allD : List W → Option (List D)
  | [] => some []
  | .d x :: r => match allD r with
    | some xs => some (x :: xs)
    | none => none
  | .l _ :: _ => none
def items (h : LH) : W → Option (List W)
  | .d (.t xs) => some (xs.map .d)
  | .d (.fl xs) => some (xs.map .d)
  | .l a => h[a]?
  | _ => none
def new (h : LH) (ws : List W) : Option (W × LH) := if ws.length ≤ SZ then some (.l h.length, h ++ [ws]) else none
def mkT (h : LH) (ws : List W) : Option (W × LH) := match allD ws with
  | some xs => if xs.length ≤ SZ then some (.d (.t xs), h) else none
  | none => none
/-- may a value be stored in the cell a -/
def okIn (a : Nat) : W → Bool
  | .d _ => true
  | .l b => decide (b < a)
def okAll (a : Nat) : List W → Bool
  | [] => true
  | w :: r => okIn a w && okAll a r

def rep {α : Type} (xs : List α) : Nat → List α
  | 0 => []
  | n + 1 => xs ++ rep xs n
def binop (h : LH) : BOp → W → W → Option (W × LH)
  | .add, .d (.i x), .d (.i y) => some (.d (.i (x + y)), h)
  | .add, .d (.t xs), .d (.t ys) => if xs.length + ys.length ≤ SZ then some (.d (.t (xs ++ ys)), h) else none
  | .add, .d (.s x), .d (.s y) => if x.length + y.length ≤ SZ then some (.d (.s (x ++ y)), h) else none
  | .add, .l a, .l c => match h[a]?, h[c]? with
    | some xs, some ys => if xs.length + ys.length ≤ SZ then some (.l h.length, h ++ [xs ++ ys]) else none
    | _, _ => none
  | .sub, .d (.i x), .d (.i y) => some (.d (.i (x - y)), h)
  | .mul, .d (.i x), .d (.i y) => if (-(2 ^ 64) < x ∧ x < 2 ^ 64) ∨ (-(2 ^ 64) < y ∧ y < 2 ^ 64) then some (.d (.i (x * y)), h) else none
  | .mul, .d (.t xs), .d (.i n) => if xs.length ≤ 1000 ∧ 1 ≤ n ∧ n ≤ 1000 then some (.d (.t (rep xs n.toNat)), h) else none
  | .mul, .l a, .d (.i n) => match h[a]? with
    | some xs => if xs.length * n.toNat ≤ SZ ∧ -SZ ≤ n ∧ n ≤ SZ then some (.l h.length, h ++ [rep xs n.toNat]) else none
    | none => none
  | .fdiv, .d (.i x), .d (.i y) => if 0 < y ∧ y < 1073741824 then some (.d (.i (x / y)), h) else none
  | .mod, .d (.i x), .d (.i y) => if 0 < y then some (.d (.i (x % y)), h) else none
  | .pow, .d (.i x), .d (.i y) => if 0 ≤ y ∧ y ≤ 1000000 ∧ x.natAbs < 2 ^ 64 then some (.d (.i (x ^ y.toNat)), h) else none
  | _, _, _ => none
def eqW (h : LH) : W → W → Option Bool
  | .d x, .d y => if min (depth x) (depth y) ≤ 64 then some (eqv x y) else none
  | .l a, .l c => match h[a]?, h[c]? with
    | some us, some ws => match allD us, allD ws with
      | some xs, some ys => if min (depthL xs) (depthL ys) < 64 then some (eqvL xs ys) else none
      | _, _ => none
    | _, _ => none
  | _, _ => none
def inW (h : LH) (x : W) (y : W) : Option Bool := match x, items h y with
  | .d x, some ws => match allD ws with
    | some xs => if depth x ≤ 64 then some (xs.any fun z => eqv z x) else none
    | none => none
  | _, _ => none
def cmpop (h : LH) : COp → W → W → Option Bool
  | .lt, .d (.i x), .d (.i y) => some (decide (x < y))
  | .le, .d (.i x), .d (.i y) => some (decide (x ≤ y))
  | .gt, .d (.i x), .d (.i y) => some (decide (y < x))
  | .ge, .d (.i x), .d (.i y) => some (decide (y ≤ x))
  | .eq, x, y => eqW h x y
  | .ne, x, y => (eqW h x y).map (!·)
  | .isin, x, y => inW h x y
  | .nin, x, y => (inW h x y).map (!·)
  | .isb, .d (.b x), .d (.b y) => some (decide (x = y))
  | .nisb, .d (.b x), .d (.b y) => some (!decide (x = y))
  | _, _, _ => none
def bl (h : LH) (x : Bool) : Option (W × LH) := some (.d (.b x), h)
/-- the place of an index -/
def ixN (n : Nat) (i : Int) : Option Nat := if 0 ≤ i then (if i < n then some i.toNat else none) else if 0 ≤ i + n then some (i + n).toNat else none
def index (h : LH) (x : W) (i : W) : Option (W × LH) := match i, items h x with
  | .d (.i i), some ws => match ixN ws.length i with
    | some k => match ws[k]? with
      | some w => some (w, h)
      | none => none
    | none => none
  | _, _ => none
/-- a slice's end -/
def cutAt (n : Nat) (i : Int) : Nat := if i < 0 then (i + n).toNat else min i.toNat n
def cutL {α : Type} (xs : List α) (lo hi : Option Int) : List α :=
  let a := match lo with
    | some i => cutAt xs.length i
    | none => 0
  let z := match hi with
    | some i => cutAt xs.length i
    | none => xs.length
  (xs.take z).drop a
def slice (h : LH) (x : W) (lo hi : Option Int) : Option (W × LH) := match x with
  | .d (.t xs) => some (.d (.t (cutL xs lo hi)), h)
  | .d (.fl xs) => some (.l h.length, h ++ [(cutL xs lo hi).map .d])
  | .l a => match h[a]? with
    | some ws => some (.l h.length, h ++ [cutL ws lo hi])
    | none => none
  | _ => none
def revW (h : LH) (x : W) : Option (W × LH) := match x with
  | .d (.fl xs) => some (.l h.length, h ++ [(xs.map .d).reverse])
  | .l a => match h[a]? with
    | some ws => some (.l h.length, h ++ [ws.reverse])
    | none => none
  | _ => none
def isIntW : W → Bool
  | .d (.i _) => true
  | .d (.b _) => true
  | _ => false
def isBoolW : W → Bool
  | .d (.b _) => true
  | _ => false
def isStrW : W → Bool
  | .d (.s _) => true
  | _ => false
def isTupleW : W → Bool
  | .d (.t _) => true
  | _ => false
def isListW : W → Bool
  | .d (.fl _) => true
  | .l _ => true
  | _ => false
def bools : List W → Option (List Bool)
  | [] => some []
  | .d (.b x) :: r => match bools r with
    | some xs => some (x :: xs)
    | none => none
  | _ => none
def intsL : List W → Option (List Int)
  | [] => some []
  | .d (.i x) :: r => match intsL r with
    | some xs => some (x :: xs)
    | none => none
  | _ => none
/-- ascending, each once -/
def insI (x : Int) : List Int → List Int
  | [] => [x]
  | y :: r => if x < y then x :: y :: r else if x = y then y :: r else y :: insI x r
def sortI (xs : List Int) : List Int := xs.foldr insI []
def insJ (x : Int) : List Int → List Int
  | [] => [x]
  | y :: r => if x ≤ y then x :: y :: r else y :: insJ x r
def sortJ (xs : List Int) : List Int := xs.foldr insJ []
def maxI : List Int → Option Int
  | [] => none
  | x :: r => some (r.foldl (fun a y => if y > a then y else a) x)
def minI : List Int → Option Int
  | [] => none
  | x :: r => some (r.foldl (fun a y => if y < a then y else a) x)
def builtin (h : LH) : Bi → List W → Option (W × LH)
  | .len, [.d (.s x)] => some (.d (.i x.length), h)
  | .len, [x] => match items h x with
    | some ws => some (.d (.i ws.length), h)
    | none => none
  | .isInt, [x] => bl h (isIntW x)
  | .isBool, [x] => bl h (isBoolW x)
  | .isStr, [x] => bl h (isStrW x)
  | .isTuple, [x] => bl h (isTupleW x)
  | .isList, [x] => bl h (isListW x)
  | .tuple, [x] => match items h x with
    | some ws => mkT h ws
    | none => none
  | .list, [x] => match items h x with
    | some ws => new h ws
    | none => none
  | .int, [.d (.i x)] => some (.d (.i x), h)
  | .int, [.d (.b x)] => some (.d (.i (if x then 1 else 0)), h)
  | .bool, [.d (.i x)] => bl h (x != 0)
  | .bool, [.d (.b x)] => bl h x
  | .max2, [.d (.i x), .d (.i y)] => some (.d (.i (if y > x then y else x)), h)
  | .min2, [.d (.i x), .d (.i y)] => some (.d (.i (if y < x then y else x)), h)
  | .maxL, [.l a] => match h[a]? with
    | some ws => match intsL ws with
      | some xs => match maxI xs with
        | some m => some (.d (.i m), h)
        | none => none
      | none => none
    | none => none
  | .all, [.l a] => match h[a]? with
    | some ws => match bools ws with
      | some xs => bl h (xs.all id)
      | none => none
    | none => none
  | .any, [.l a] => match h[a]? with
    | some ws => match bools ws with
      | some xs => bl h (xs.any id)
      | none => none
    | none => none
  | .sortedSet, [x] => match items h x with
    | some ws => match intsL ws with
      | some xs => some (.l h.length, h ++ [(sortI xs).map (fun x => .d (.i x))])
      | none => none
    | none => none
  | .sorted, [x] => match items h x with
    | some ws => match intsL ws with
      | some xs => some (.l h.length, h ++ [(sortJ xs).map (fun x => .d (.i x))])
      | none => none
    | none => none
  | .sum, [.l a] => match h[a]? with
    | some ws => match intsL ws with
      | some xs => some (.d (.i xs.sum), h)
      | none => none
    | none => none
  | .abs, [.d (.i x)] => some (.d (.i (if x < 0 then -x else x)), h)
  | _, _ => none
def method (h : LH) : Me → W → List W → Option (W × LH)
  | .append, .l a, [w] => match h[a]? with
    | some ws => if okIn a w ∧ ws.length < SZ then some (.d .none, h.set a (ws ++ [w])) else none
    | none => none
  | .extend, .l a, [.l c] => match h[a]?, h[c]? with
    | some ws, some us => if okAll a us ∧ ws.length + us.length ≤ SZ then some (.d .none, h.set a (ws ++ us)) else none
    | _, _ => none
  | .pop, .l a, [] => match h[a]? with
    | some ws => match ws.getLast? with
      | some w => some (w, h.set a ws.dropLast)
      | none => none
    | none => none
  | .popAt, .l a, [.d (.i i)] => match h[a]? with
    | some ws => if 0 ≤ i ∧ i ≤ SZ then (match ws[i.toNat]? with
      | some w => some (w, h.set a (ws.eraseIdx i.toNat))
      | none => none) else none
    | none => none
  | .insert, .l a, [.d (.i i), w] => match h[a]? with
    | some ws => if okIn a w ∧ ws.length < SZ ∧ 0 ≤ i ∧ i ≤ SZ then some (.d .none, h.set a (ws.take i.toNat ++ [w] ++ ws.drop i.toNat)) else none
    | none => none
  | .reverse, .l a, [] => match h[a]? with
    | some ws => some (.d .none, h.set a ws.reverse)
    | none => none
  | .index, u, [.d x] => match items h u with
    | some ws => match allD ws with
      | some xs => if depth x ≤ 64 then match xs.findIdx? (fun z => eqv z x) with
          | some k => some (.d (.i k), h)
          | none => none
        else none
      | none => none
    | none => none
  | _, _, _ => none
def setAt (h : LH) (o i w : W) : Option LH := match o, i with
  | .l a, .d (.i i) => match h[a]? with
    | some ws => match ixN ws.length i with
      | some k => if okIn a w then some (h.set a (ws.set k w)) else none
      | none => none
    | none => none
  | _, _ => none
/-- a op= b -/
def augop (h : LH) (op : BOp) (x y : W) : Option (W × LH) := match op, x with
  | .add, .l a => match y with
    | .l c => match h[a]?, h[c]? with
      | some ws, some us => if okAll a us ∧ ws.length + us.length ≤ SZ then some (.l a, h.set a (ws ++ us)) else none
      | _, _ => none
    | _ => none
  | .add, .d _ => binop h .add x y
  | .sub, .d _ => binop h .sub x y
  | _, _ => none

def setMany : List Nat → List D → Env → Env
  | i :: is, x :: xs, ρ => setMany is xs (ρ.set i (some (.d x)))
  | _, _, ρ => ρ
def setT : Tg → W → Env → Option Env
  | .n i, w, ρ => some (ρ.set i (some w))
  | .t is, .d (.t xs), ρ => if xs.length = is.length then some (setMany is xs ρ) else none
  | .t _, _, _ => none
def Tg.slots : Tg → List Nat
  | .n i => [i]
  | .t is => is
def wipe (ρ : Env) : List Nat → Env
  | [] => ρ
  | i :: r => (wipe ρ r).set i none

/-! ### loops -/
def forItems (f : W → Env → LH → Option (Fl × Env × LH)) : List W → Env → LH → Option (Fl × Env × LH)
  | [], ρ, h => some (.nxt, ρ, h)
  | x :: xs, ρ, h => match f x ρ h with
    | some (.nxt, ρ', h') => forItems f xs ρ' h'
    | some (.cnt, ρ', h') => forItems f xs ρ' h'
    | some (.brk, ρ', h') => some (.nxt, ρ', h')
    | some (.ret w, ρ', h') => some (.ret w, ρ', h')
    | none => none
def forLive (f : W → Env → LH → Option (Fl × Env × LH)) (a : Nat) : Nat → Nat → Env → LH → Option (Fl × Env × LH)
  | 0, _, _, _ => none
  | n + 1, i, ρ, h => match h[a]? with
    | none => none
    | some ws => match ws[i]? with
      | none => some (.nxt, ρ, h)
      | some x => match f x ρ h with
        | some (.nxt, ρ', h') => forLive f a n (i + 1) ρ' h'
        | some (.cnt, ρ', h') => forLive f a n (i + 1) ρ' h'
        | some (.brk, ρ', h') => some (.nxt, ρ', h')
        | some (.ret w, ρ', h') => some (.ret w, ρ', h')
        | none => none
def whileF (c : Env → LH → Option (Bool × LH)) (f : Env → LH → Option (Fl × Env × LH)) : Nat → Env → LH → Option (Fl × Env × LH)
  | 0, _, _ => none
  | n + 1, ρ, h => match c ρ h with
    | none => none
    | some (false, h') => some (.nxt, ρ, h')
    | some (true, h') => match f ρ h' with
      | some (.nxt, ρ', h'') => whileF c f n ρ' h''
      | some (.cnt, ρ', h'') => whileF c f n ρ' h''
      | some (.brk, ρ', h'') => some (.nxt, ρ', h'')
      | some (.ret w, ρ', h'') => some (.ret w, ρ', h'')
      | none => none
/-- a comprehension's turns: f gives the acc behind one more item -/
def compItems (f : W → List W → LH → Option (List W × LH)) : List W → List W → LH → Option (List W × LH)
  | [], acc, h => some (acc, h)
  | x :: xs, acc, h => match f x acc h with
    | some (acc', h') => compItems f xs acc' h'
    | none => none
def compLive (f : W → List W → LH → Option (List W × LH)) (a : Nat) : Nat → Nat → List W → LH → Option (List W × LH)
  | 0, _, _, _ => none
  | n + 1, i, acc, h => match h[a]? with
    | none => none
    | some ws => match ws[i]? with
      | none => some (acc, h)
      | some x => match f x acc h with
        | some (acc', h') => compLive f a n (i + 1) acc' h'
        | none => none
def range (lo hi : Int) : List W := (List.range (hi - lo).toNat).map fun (k : Nat) => .d (.i (lo + (k : Int)))
/-- what is walked: items, or a live list -/
inductive Src where
  | its (ws : List W)
  | live (a n : Nat)
def srcOf (h : LH) : W → Option Src
  | .d (.t xs) => some (.its (xs.map .d))
  | .d (.fl xs) => some (.its (xs.map .d))
  | .l a => match h[a]? with
    | some ws => some (.live a ws.length)
    | none => none
  | _ => none
def forSrc (f : W → Env → LH → Option (Fl × Env × LH)) : Src → Env → LH → Option (Fl × Env × LH)
  | .its ws => forItems f ws
  | .live a n => forLive f a (n + 1) 0
def compSrc (f : W → List W → LH → Option (List W × LH)) : Src → List W → LH → Option (List W × LH)
  | .its ws => compItems f ws
  | .live a n => compLive f a (n + 1) 0

/-- a list, or a tuple, of a range -/
def ofSrc (h : LH) (t : Bool) : Src → Option (W × LH)
  | .its ws => if ws.length ≤ SZ then (if t = true then mkT h ws else new h ws) else none
  | .live _ _ => none
structure Ctx where
  G : Nat → Option D
  T : Nat → String → Option D
  cl : Nat → List W → LH → Option (W × LH)
  wf : Nat

/-- a test's value -/
def asB : Option (W × LH) → Option (Bool × LH)
  | some (.d (.b x), h) => some (x, h)
  | _ => none
/-- one turn of a comprehension -/
def turn (tg : Tg) (ρ : Env) (c : Env → LH → Option (Bool × LH)) (elt : Env → LH → Option (W × LH)) (x : W) (acc : List W) (h : LH) : Option (List W × LH) :=
  match setT tg x (wipe ρ tg.slots) with
  | none => none
  | some ρ' => match c ρ' h with
    | some (true, h1) => match elt ρ' h1 with
      | some (w, h2) => if acc.length < SZ then some (acc ++ [w], h2) else none
      | none => none
    | some (false, h1) => some (acc, h1)
    | none => none
def yes (_ : Env) (h : LH) : Option (Bool × LH) := some (true, h)

mutual
def ev (C : Ctx) : E → Env → LH → Option (W × LH)
  | .var i, ρ, h => match ρ[i]? with
    | some (some w) => some (w, h)
    | _ => none
  | .c x, _, h => some (.d x, h)
  | .glob g, _, h => match C.G g with
    | some x => some (.d x, h)
    | none => none
  | .tup es, ρ, h => match evs C es ρ h with
    | some (ws, h1) => mkT h1 ws
    | none => none
  | .lst es, ρ, h => match evs C es ρ h with
    | some (ws, h1) => new h1 ws
    | none => none
  | .bin op x y, ρ, h => match ev C x ρ h with
    | some (u, h1) => match ev C y ρ h1 with
      | some (w, h2) => binop h2 op u w
      | none => none
    | none => none
  | .neg x, ρ, h => match ev C x ρ h with
    | some (.d (.i k), h1) => some (.d (.i (-k)), h1)
    | _ => none
  | .not x, ρ, h => match ev C x ρ h with
    | some (.d (.b k), h1) => some (.d (.b (!k)), h1)
    | _ => none
  | .cmp op x y, ρ, h => match ev C x ρ h with
    | some (u, h1) => match ev C y ρ h1 with
      | some (w, h2) => match cmpop h2 op u w with
        | some k => some (.d (.b k), h2)
        | none => none
      | none => none
    | none => none
  | .chain o1 o2 x y z, ρ, h => match ev C x ρ h with
    | some (u, h1) => match ev C y ρ h1 with
      | some (w, h2) => match cmpop h2 o1 u w with
        | some true => match ev C z ρ h2 with
          | some (v, h3) => match cmpop h3 o2 w v with
            | some k => some (.d (.b k), h3)
            | none => none
          | none => none
        | some false => some (.d (.b false), h2)
        | none => none
      | none => none
    | none => none
  | .isN x, ρ, h => match ev C x ρ h with
    | some (.d .none, h1) => some (.d (.b true), h1)
    | some (_, h1) => some (.d (.b false), h1)
    | none => none
  | .isNN x, ρ, h => match ev C x ρ h with
    | some (.d .none, h1) => some (.d (.b false), h1)
    | some (_, h1) => some (.d (.b true), h1)
    | none => none
  | .and x y, ρ, h => match ev C x ρ h with
    | some (.d (.b true), h1) => ev C y ρ h1
    | some (.d (.b false), h1) => some (.d (.b false), h1)
    | _ => none
  | .or x y, ρ, h => match ev C x ρ h with
    | some (.d (.b true), h1) => some (.d (.b true), h1)
    | some (.d (.b false), h1) => ev C y ρ h1
    | _ => none
  | .ite c x y, ρ, h => match ev C c ρ h with
    | some (.d (.b true), h1) => ev C x ρ h1
    | some (.d (.b false), h1) => ev C y ρ h1
    | _ => none
  | .ix x i, ρ, h => match ev C x ρ h with
    | some (u, h1) => match ev C i ρ h1 with
      | some (k, h2) => index h2 u k
      | none => none
    | none => none
  | .dix g i, ρ, h => match ev C i ρ h with
    | some (.d (.s k), h1) => match C.T g k with
      | some x => some (.d x, h1)
      | none => none
    | _ => none
  | .sl x lo hi, ρ, h => match ev C x ρ h with
    | some (u, h1) => match evo C lo ρ h1 with
      | some (a, h2) => match evo C hi ρ h2 with
        | some (z, h3) => slice h3 u a z
        | none => none
      | none => none
    | none => none
  | .rev x, ρ, h => match ev C x ρ h with
    | some (u, h1) => revW h1 u
    | none => none
  | .call f es, ρ, h => match evs C es ρ h with
    | some (ws, h1) => C.cl f ws h1
    | none => none
  | .bi f es, ρ, h => match evs C es ρ h with
    | some (ws, h1) => builtin h1 f ws
    | none => none
  | .meth m x es, ρ, h => match ev C x ρ h with
    | some (u, h1) => match evs C es ρ h1 with
      | some (ws, h2) => method h2 m u ws
      | none => none
    | none => none
  | .comp elt tg it c, ρ, h => match evi C it ρ h with
    | some (src, h1) => match compSrc (turn tg ρ (evc C c) (ev C elt)) src [] h1 with
      | some (acc, h2) => some (.l h2.length, h2 ++ [acc])
      | none => none
    | none => none
  | .comp2 elt tg it tg1 it1 c, ρ, h => match evi C it ρ h with
    | some (src, h1) => match compSrc (fun x acc h => match setT tg x (wipe ρ (tg.slots ++ tg1.slots)) with
        | none => none
        | some ρ' => match evi C it1 ρ' h with
          | some (src1, h1) => compSrc (turn tg1 ρ' (evc C c) (ev C elt)) src1 acc h1
          | none => none) src [] h1 with
      | some (acc, h2) => some (.l h2.length, h2 ++ [acc])
      | none => none
    | none => none
  | .ofIt t it, ρ, h => match evi C it ρ h with
    | some (src, h1) => ofSrc h1 t src
    | none => none
def evs (C : Ctx) : List E → Env → LH → Option (List W × LH)
  | [], _, h => some ([], h)
  | e :: es, ρ, h => match ev C e ρ h with
    | some (w, h1) => match evs C es ρ h1 with
      | some (ws, h2) => some (w :: ws, h2)
      | none => none
    | none => none
def evo (C : Ctx) : Option E → Env → LH → Option (Option Int × LH)
  | none, _, h => some (none, h)
  | some e, ρ, h => match ev C e ρ h with
    | some (.d (.i k), h1) => some (some k, h1)
    | _ => none
def evc (C : Ctx) : Option E → Env → LH → Option (Bool × LH)
  | none, _, h => some (true, h)
  | some e, ρ, h => asB (ev C e ρ h)
def evi (C : Ctx) : It → Env → LH → Option (Src × LH)
  | .r1 x, ρ, h => match ev C x ρ h with
    | some (.d (.i n), h1) => if -(2 ^ 62) ≤ n ∧ n < 2 ^ 62 then some (.its (range 0 n), h1) else none
    | _ => none
  | .r2 x y, ρ, h => match ev C x ρ h with
    | some (.d (.i a), h1) => match ev C y ρ h1 with
      | some (.d (.i n), h2) => if -(2 ^ 62) ≤ a ∧ a < 2 ^ 62 ∧ -(2 ^ 62) ≤ n ∧ n < 2 ^ 62 then some (.its (range a n), h2) else none
      | _ => none
    | _ => none
  | .sq x, ρ, h => match ev C x ρ h with
    | some (u, h1) => match srcOf h1 u with
      | some src => some (src, h1)
      | none => none
    | none => none
end

mutual
def exec (C : Ctx) : S → Env → LH → Option (Fl × Env × LH)
  | .asg tg e, ρ, h => match ev C e ρ h with
    | some (w, h1) => match setT tg w ρ with
      | some ρ' => some (.nxt, ρ', h1)
      | none => none
    | none => none
  | .par i j x y, ρ, h => match ev C x ρ h with
    | some (u, h1) => match ev C y ρ h1 with
      | some (w, h2) => some (.nxt, (ρ.set i (some u)).set j (some w), h2)
      | none => none
    | none => none
  | .par3 i j l x y z, ρ, h => match ev C x ρ h with
    | some (u, h1) => match ev C y ρ h1 with
      | some (w, h2) => match ev C z ρ h2 with
        | some (v, h3) => some (.nxt, ((ρ.set i (some u)).set j (some w)).set l (some v), h3)
        | none => none
      | none => none
    | none => none
  | .setix o i e, ρ, h => match ev C e ρ h with
    | some (w, h1) => match ev C o ρ h1 with
      | some (u, h2) => match ev C i ρ h2 with
        | some (k, h3) => match setAt h3 u k w with
          | some h4 => some (.nxt, ρ, h4)
          | none => none
        | none => none
      | none => none
    | none => none
  | .aug op i e, ρ, h => match ρ[i]? with
    | some (some u) => match ev C e ρ h with
      | some (w, h1) => match augop h1 op u w with
        | some (v, h2) => some (.nxt, ρ.set i (some v), h2)
        | none => none
      | none => none
    | _ => none
  | .ife c x y, ρ, h => match ev C c ρ h with
    | some (.d (.b true), h1) => execs C x ρ h1
    | some (.d (.b false), h1) => execs C y ρ h1
    | _ => none
  | .for tg it body, ρ, h => match evi C it ρ h with
    | some (src, h1) => forSrc (fun x ρ h => match setT tg x ρ with
      | some ρ' => execs C body ρ' h
      | none => none) src ρ h1
    | none => none
  | .whl c body, ρ, h => whileF (fun ρ h => asB (ev C c ρ h)) (execs C body) C.wf ρ h
  | .ret e, ρ, h => match ev C e ρ h with
    | some (w, h1) => some (.ret w, ρ, h1)
    | none => none
  | .retN, ρ, h => some (.ret (.d .none), ρ, h)
  | .ex e, ρ, h => match ev C e ρ h with
    | some (_, h1) => some (.nxt, ρ, h1)
    | none => none
  | .brk, ρ, h => some (.brk, ρ, h)
  | .cnt, ρ, h => some (.cnt, ρ, h)
  | .pass, ρ, h => some (.nxt, ρ, h)
  | .doc, ρ, h => some (.nxt, ρ, h)
  | .never, _, _ => none
def execs (C : Ctx) : List S → Env → LH → Option (Fl × Env × LH)
  | [], ρ, h => some (.nxt, ρ, h)
  | s :: r, ρ, h => match exec C s ρ h with
    | some (.nxt, ρ', h') => execs C r ρ' h'
    | some (.brk, ρ', h') => some (.brk, ρ', h')
    | some (.cnt, ρ', h') => some (.cnt, ρ', h')
    | some (.ret w, ρ', h') => some (.ret w, ρ', h')
    | none => none
end

structure Def where
  np : Nat
  ns : Nat
  body : List S
/-- a call's end: the lists that it made are dropped, but for one of data that it hands back -/
def fin (n : Nat) : W → LH → Option (W × LH)
  | .d x, h => some (.d x, h.take n)
  | .l a, h => if a < n then some (.l a, h.take n) else match h[a]? with
    | some ws => match allD ws with
      | some _ => some (.l n, h.take n ++ [ws])
      | none => some (.l a, h)
    | none => none
structure Prog where
  G : Nat → Option D
  T : Nat → String → Option D
  F : Nat → Option Def
  wf : Nat
def call (P : Prog) : Nat → Nat → List W → LH → Option (W × LH)
  | 0, _, _, _ => none
  | k + 1, f, ws, h => match P.F f with
    | none => none
    | some d => if ws.length = d.np then
        match execs ⟨P.G, P.T, call P k, P.wf⟩ d.body (ws.map some ++ List.replicate (d.ns - d.np) none) h with
        | some (.ret w, _, h') => fin h.length w h'
        | some (.nxt, _, h') => fin h.length (.d .none) h'
        | _ => none
      else none
end J
set_option maxRecDepth 100000
/-! J's values over the abstract heap: what stands for what, and what a step keeps. -/
namespace J
open PySem L2
abbrev Fg := PySem.W.Frag

def EncS (x : String) (y : Str) : Prop := y.cps.toList = x.toList.map Char.toNat
theorem EncS.inj {x x' : String} {y : Str} (h : EncS x y) (h' : EncS x' y) : x = x' := by
  have e : x.toList.map Char.toNat = x'.toList.map Char.toNat := h.symm.trans h'
  have : x.toList = x'.toList := (List.map_inj_right (fun a b e => Char.toNat_inj.mp e)).mp e
  exact String.toList_inj.mp this
theorem EncS.fn {x : String} {y y' : Str} (h : EncS x y) (h' : EncS x y') : y = y' := by
  have e : y.cps.toList = y'.cps.toList := h.trans h'.symm
  cases y; cases y'
  congr 1
  exact Array.toList_inj.mp e
theorem EncS.len {x : String} {y : Str} (h : EncS x y) : y.length = x.length := by
  show y.cps.size = x.length
  rw [← Array.length_toList, h, List.length_map, String.length_toList]
theorem EncS.ok {x : String} {y : Str} (h : EncS x y) : PyData.strOk y = true := by
  unfold PyData.strOk
  rw [Array.all_eq_true_iff_forall_mem]
  intro c hc
  have hc' : c ∈ y.cps.toList := Array.mem_toList_iff.mpr hc
  rw [h] at hc'
  obtain ⟨a, _, rfl⟩ := List.mem_map.mp hc'
  have hv : a.val.toNat < 0xd800 ∨ 0xdfff < a.val.toNat ∧ a.val.toNat < 0x110000 := a.valid
  have e : a.toNat = a.val.toNat := rfl
  exact decide_eq_true (by omega)
theorem EncS.beq {x x' : String} {y y' : Str} (h : EncS x y) (h' : EncS x' y') : (y == y') = (x == x') := by
  by_cases e : x = x'
  · subst e
    rw [h.fn h', beq_self_eq_true, beq_self_eq_true]
  · have : y ≠ y' := fun q => e (by subst q; exact h.inj h')
    rw [beq_eq_false_iff_ne.mpr this, beq_eq_false_iff_ne.mpr e]

/-- a list that is never written -/
def Frz (K : Fg) (H : Hp) (a : Addr) (xs : List V) : Prop :=
  (∃ o, H a = some (.frz o (.lst xs))) ∨
    ∃ (o : Obj) (its : Array Value) (n : Nat), K.lookup a = some o ∧ o.cls = .type "list" ∧ o.dict = none ∧ o.data = .seq its n ∧ its.size ≤ sizeLine ∧ Vals xs its.toList
theorem Frz.sq {K : Fg} {H : Hp} {a : Addr} {xs : List V} (h : Frz K H a xs) : SqL K H a xs := by
  rcases h with ⟨o, h⟩ | h
  · exact .inl (.inr ⟨o, h⟩)
  · exact .inr h
theorem Frz.of {K : Fg} {H : Hp} {a : Addr} {xs : List V} (h : SqL K H a xs) (hn : H a ≠ some (.lst xs)) : Frz K H a xs := by
  rcases h with (h | h) | h
  · exact absurd h hn
  · exact .inl h
  · exact .inr h

/-- a tuple that has no dict -/
def SqN (K : Fg) (H : Hp) (a : Addr) (xs : List V) : Prop :=
  (∃ o, H a = some (.frz o (.tup xs)) ∧ o.dict = none) ∨
    ∃ (o : Obj) (its : Array Value) (n : Nat), K.lookup a = some o ∧ o.cls = .type "tuple" ∧ o.dict = none ∧ o.data = .seq its n ∧ its.size ≤ sizeLine ∧ Vals xs its.toList
theorem SqN.t {K : Fg} {H : Hp} {a : Addr} {xs : List V} (h : SqN K H a xs) : SqT K H a xs := by
  rcases h with ⟨o, h, _⟩ | ⟨o, its, n, h1, h2, _, h3⟩
  · exact .inl (.inr ⟨o, h⟩)
  · exact .inr ⟨o, its, n, h1, h2, h3⟩
mutual
inductive RD (K : Fg) (H : Hp) : V → D → Prop where
  | non : RD K H .non .none
  | b (x : Bool) : RD K H (.bl x) (.b x)
  | i (x : Int) : RD K H (.int x) (.i x)
  | s {x : String} {y : Str} : EncS x y → x.length ≤ SZ → RD K H (.str y) (.s x)
  | t {a : Addr} {xs : List V} {ds : List D} : SqN K H a xs → RDs K H xs ds → RD K H (.ref a) (.t ds)
  | fl {a : Addr} {xs : List V} {ds : List D} : Frz K H a xs → RDs K H xs ds → RD K H (.ref a) (.fl ds)
inductive RDs (K : Fg) (H : Hp) : List V → List D → Prop where
  | nil : RDs K H [] []
  | cons {v : V} {d : D} {vs : List V} {ds : List D} : RD K H v d → RDs K H vs ds → RDs K H (v :: vs) (d :: ds)
end

/-- what is no live list stays -/
def Stab (H H' : Hp) : Prop := ∀ p o, H p = some o → (∀ xs, o ≠ .lst xs) → H' p = some o
theorem Stab.refl (H : Hp) : Stab H H := fun _ _ h _ => h
theorem Stab.trans {H H1 H2 : Hp} (a : Stab H H1) (b : Stab H1 H2) : Stab H H2 := fun p o h n => b p o (a p o h n) n
theorem Stab.tup {K : Fg} {H H' : Hp} {a : Addr} {xs : List V} (s : Stab H H') (h : SqT K H a xs) : SqT K H' a xs := by
  rcases h with (h | ⟨o, h⟩) | h
  · exact .inl (.inl (s _ _ h (fun _ z => nomatch z)))
  · exact .inl (.inr ⟨o, s _ _ h (fun _ z => nomatch z)⟩)
  · exact .inr h
theorem Stab.tupN {K : Fg} {H H' : Hp} {a : Addr} {xs : List V} (s : Stab H H') (h : SqN K H a xs) : SqN K H' a xs := by
  rcases h with ⟨o, h, d⟩ | h
  · exact .inl ⟨o, s _ _ h (fun _ z => nomatch z), d⟩
  · exact .inr h
theorem Stab.frz {K : Fg} {H H' : Hp} {a : Addr} {xs : List V} (s : Stab H H') (h : Frz K H a xs) : Frz K H' a xs := by
  rcases h with ⟨o, h⟩ | h
  · exact .inl ⟨o, s _ _ h (fun _ z => nomatch z)⟩
  · exact .inr h
mutual
theorem RD.mono {K : Fg} {H H' : Hp} (s : Stab H H') : ∀ {v : V} {d : D}, RD K H v d → RD K H' v d
  | _, _, .non => .non
  | _, _, .b x => .b x
  | _, _, .i x => .i x
  | _, _, .s h l => .s h l
  | _, _, .t h r => .t (s.tupN h) (RDs.mono s r)
  | _, _, .fl h r => .fl (s.frz h) (RDs.mono s r)
theorem RDs.mono {K : Fg} {H H' : Hp} (s : Stab H H') : ∀ {vs : List V} {ds : List D}, RDs K H vs ds → RDs K H' vs ds
  | _, _, .nil => .nil
  | _, _, .cons h r => .cons (RD.mono s h) (RDs.mono s r)
end
theorem RDs.length {K : Fg} {H : Hp} : ∀ {vs : List V} {ds : List D}, RDs K H vs ds → vs.length = ds.length
  | _, _, .nil => rfl
  | _, _, .cons _ r => congrArg (· + 1) r.length

/-! ### data as PyData -/
mutual
def py : D → (String → Str) → PyData
  | .none, _ => .none
  | .b x, _ => .bool x
  | .i x, _ => .int x
  | .s x, f => .str (f x)
  | .t xs, f => .tuple (pyL xs f)
  | .fl xs, f => .list (pyL xs f)
def pyL : List D → (String → Str) → List PyData
  | [], _ => []
  | x :: r, f => py x f :: pyL r f
end
def cpS (x : String) : Str := ⟨(x.toList.map Char.toNat).toArray⟩
theorem encS (x : String) : EncS x (cpS x) := by simp [EncS, cpS]
abbrev pd (x : D) : PyData := py x cpS
abbrev pdL (x : List D) : List PyData := pyL x cpS
mutual
theorem RD.dp {K : Fg} {H : Hp} : ∀ {v : V} {d : D}, RD K H v d → Dp K H v (pd d)
  | _, _, .non => .non
  | _, _, .b x => .bl x
  | _, _, .i x => .int x
  | _, _, .s (x := x) h _ => by
    have : _ = cpS x := h.fn (encS x)
    subst this
    exact .str _
  | _, _, .t h r => .tup h.t (RDs.dp r)
  | _, _, .fl h r => .lst h.sq (RDs.dp r)
theorem RDs.dp {K : Fg} {H : Hp} : ∀ {vs : List V} {ds : List D}, RDs K H vs ds → DpAll K H vs (pdL ds)
  | _, _, .nil => .nil
  | _, _, .cons h r => .cons (RD.dp h) (RDs.dp r)
end
mutual
theorem pd_lay : ∀ d : D, (pd d).canLay0 = true
  | .none => rfl
  | .b _ => rfl
  | .i _ => rfl
  | .s x => (encS x).ok
  | .t xs => by show PyData.canLay0 (.tuple (pdL xs)) = true; unfold PyData.canLay0; exact pdL_lay xs
  | .fl xs => by show PyData.canLay0 (.list (pdL xs)) = true; unfold PyData.canLay0; exact pdL_lay xs
theorem pdL_lay : ∀ ds : List D, PyData.canLayAll0 (pdL ds) = true
  | [] => rfl
  | x :: r => by
    show PyData.canLayAll0 (pd x :: pdL r) = true
    unfold PyData.canLayAll0
    rw [pd_lay x, pdL_lay r]; rfl
end
mutual
theorem pd_depth : ∀ d : D, (pd d).depth = depth d
  | .none => rfl
  | .b _ => rfl
  | .i _ => rfl
  | .s x => rfl
  | .t xs => by show PyData.depth (.tuple (pdL xs)) = _; unfold PyData.depth depth; rw [pdL_depth xs]
  | .fl xs => by show PyData.depth (.list (pdL xs)) = _; unfold PyData.depth depth; rw [pdL_depth xs]
theorem pdL_depth : ∀ ds : List D, PyData.depthAll (pdL ds) = depthL ds
  | [] => rfl
  | x :: r => by
    show PyData.depthAll (pd x :: pdL r) = _
    unfold PyData.depthAll depthL
    rw [pd_depth x, pdL_depth r]
end
mutual
theorem pd_eqv : ∀ (x y : D), PyData.eqv (pd x) (pd y) = eqv x y
  | .t xs, .t ys => by show PyData.eqv (.tuple (pdL xs)) (.tuple (pdL ys)) = _; unfold PyData.eqv eqv; exact pdL_eqv xs ys
  | .fl xs, .fl ys => by show PyData.eqv (.list (pdL xs)) (.list (pdL ys)) = _; unfold PyData.eqv eqv; exact pdL_eqv xs ys
  | .s x, .s y => by show PyData.eqv (.str (cpS x)) (.str (cpS y)) = _; unfold PyData.eqv eqv; exact (encS x).beq (encS y)
  | .i x, y => by cases y <;> simp [py, PyData.eqv, eqv]
  | .b x, y => by cases y <;> simp [py, PyData.eqv, eqv]
  | .none, y => by cases y <;> simp [py, PyData.eqv, eqv]
  | .t _, .none => by simp [py, PyData.eqv, eqv]
  | .t _, .b _ => by simp [py, PyData.eqv, eqv]
  | .t _, .i _ => by simp [py, PyData.eqv, eqv]
  | .t _, .s _ => by simp [py, PyData.eqv, eqv]
  | .t _, .fl _ => by simp [py, PyData.eqv, eqv]
  | .fl _, .none => by simp [py, PyData.eqv, eqv]
  | .fl _, .b _ => by simp [py, PyData.eqv, eqv]
  | .fl _, .i _ => by simp [py, PyData.eqv, eqv]
  | .fl _, .s _ => by simp [py, PyData.eqv, eqv]
  | .fl _, .t _ => by simp [py, PyData.eqv, eqv]
  | .s _, .none => by simp [py, PyData.eqv, eqv]
  | .s _, .b _ => by simp [py, PyData.eqv, eqv]
  | .s _, .i _ => by simp [py, PyData.eqv, eqv]
  | .s _, .t _ => by simp [py, PyData.eqv, eqv]
  | .s _, .fl _ => by simp [py, PyData.eqv, eqv]
theorem pdL_eqv : ∀ (xs ys : List D), PyData.eqvAll (pdL xs) (pdL ys) = eqvL xs ys
  | [], [] => rfl
  | [], _ :: _ => rfl
  | _ :: _, [] => rfl
  | x :: xs, y :: ys => by
    show PyData.eqvAll (pd x :: pdL xs) (pd y :: pdL ys) = _
    unfold PyData.eqvAll eqvL
    rw [pd_eqv x y, pdL_eqv xs ys]
end

/-! ### values -/
inductive RW (K : Fg) (H : Hp) (ι : List Addr) : V → W → Prop where
  | d {v : V} {x : D} : RD K H v x → RW K H ι v (.d x)
  | l {a : Nat} {p : Addr} : ι[a]? = some p → RW K H ι (.ref p) (.l a)
inductive RWs (K : Fg) (H : Hp) (ι : List Addr) : List V → List W → Prop where
  | nil : RWs K H ι [] []
  | cons {v : V} {w : W} {vs : List V} {ws : List W} : RW K H ι v w → RWs K H ι vs ws → RWs K H ι (v :: vs) (w :: ws)
structure Step (ι : List Addr) (H : Hp) (ι' : List Addr) (H' : Hp) : Prop where
  pre : ∃ t, ι' = ι ++ t
  fresh : ∀ p ∈ ι', p ∈ ι ∨ H p = none
  keep : ∀ p o, H p = some o → p ∉ ι → H' p = some o
  stab : Stab H H'
theorem Step.refl (ι : List Addr) (H : Hp) : Step ι H ι H := ⟨⟨[], by simp⟩, fun _ h => .inl h, fun _ _ h _ => h, .refl H⟩
theorem Step.trans {ι ι1 ι2 : List Addr} {H H1 H2 : Hp} (a : Step ι H ι1 H1) (b : Step ι1 H1 ι2 H2) : Step ι H ι2 H2 := by
  obtain ⟨⟨t, e⟩, f, k, s⟩ := a
  obtain ⟨⟨t', e'⟩, f', k', s'⟩ := b
  have hn : ∀ p o, H p = some o → p ∉ ι → p ∉ ι1 := fun p o h n h1 => (f p h1).elim n (fun z => by rw [h] at z; cases z)
  refine ⟨⟨t ++ t', by rw [e', e, List.append_assoc]⟩, fun p hp => ?_, fun p o h n => k' p o (k p o h n) (hn p o h n), s.trans s'⟩
  rcases f' p hp with h | h
  · exact f p h
  · cases q : H p with
    | none => exact .inr rfl
    | some o =>
      by_cases hi : p ∈ ι
      · exact .inl hi
      · rw [k p o q hi] at h; cases h
theorem Step.at {ι ι' : List Addr} {H H' : Hp} (s : Step ι H ι' H') {a : Nat} {p : Addr} (h : ι[a]? = some p) : ι'[a]? = some p := by
  obtain ⟨t, e⟩ := s.pre
  rw [e]
  have hl : a < ι.length := by
    rcases Nat.lt_or_ge a ι.length with z | z
    · exact z
    · rw [List.getElem?_eq_none z] at h; cases h
  rw [List.getElem?_append_left hl]
  exact h
theorem RW.mono {K : Fg} {ι ι' : List Addr} {H H' : Hp} {v : V} {w : W} (s : Step ι H ι' H') (h : RW K H ι v w) : RW K H' ι' v w := by
  cases h with
  | d h => exact .d (h.mono s.stab)
  | l h => exact .l (s.at h)
theorem RWs.mono {K : Fg} {ι ι' : List Addr} {H H' : Hp} (s : Step ι H ι' H') : ∀ {vs : List V} {ws : List W}, RWs K H ι vs ws → RWs K H' ι' vs ws
  | _, _, .nil => .nil
  | _, _, .cons h r => .cons (h.mono s) (r.mono s)
theorem RWs.length {K : Fg} {ι : List Addr} {H : Hp} : ∀ {vs : List V} {ws : List W}, RWs K H ι vs ws → vs.length = ws.length
  | _, _, .nil => rfl
  | _, _, .cons _ r => congrArg (· + 1) r.length
theorem RWs.get {K : Fg} {ι : List Addr} {H : Hp} : ∀ {vs : List V} {ws : List W} {i : Nat} {w : W}, RWs K H ι vs ws → ws[i]? = some w → ∃ v, vs[i]? = some v ∧ RW K H ι v w
  | _, _, _, _, .nil, e => by simp at e
  | _, _, 0, _, .cons r _, e => by simp at e; subst e; exact ⟨_, rfl, r⟩
  | _, _, i + 1, w, .cons _ t, e => by
    obtain ⟨u, h1, h2⟩ := RWs.get (i := i) (w := w) t (by simpa using e)
    exact ⟨u, by simpa using h1, h2⟩
theorem RWs.none {K : Fg} {ι : List Addr} {H : Hp} {vs : List V} {ws : List W} {i : Nat} (r : RWs K H ι vs ws) (e : ws[i]? = none) : vs.length ≤ i := by
  rw [r.length]; exact List.getElem?_eq_none_iff.mp e
theorem RWs.append {K : Fg} {ι : List Addr} {H : Hp} : ∀ {vs us : List V} {ws xs : List W}, RWs K H ι vs ws → RWs K H ι us xs → RWs K H ι (vs ++ us) (ws ++ xs)
  | _, _, _, _, .nil, s => s
  | _, _, _, _, .cons r t, s => .cons r (t.append s)
theorem RWs.take {K : Fg} {ι : List Addr} {H : Hp} : ∀ {vs : List V} {ws : List W} (n : Nat), RWs K H ι vs ws → RWs K H ι (vs.take n) (ws.take n)
  | _, _, 0, _ => by simp; exact .nil
  | _, _, _ + 1, .nil => .nil
  | _, _, n + 1, .cons r t => .cons r (t.take n)
theorem RWs.drop {K : Fg} {ι : List Addr} {H : Hp} : ∀ {vs : List V} {ws : List W} (n : Nat), RWs K H ι vs ws → RWs K H ι (vs.drop n) (ws.drop n)
  | _, _, 0, r => r
  | _, _, _ + 1, .nil => .nil
  | _, _, n + 1, .cons _ t => t.drop n
theorem RWs.set {K : Fg} {ι : List Addr} {H : Hp} {v : V} {w : W} (r : RW K H ι v w) : ∀ {vs : List V} {ws : List W} (n : Nat), RWs K H ι vs ws → RWs K H ι (vs.set n v) (ws.set n w)
  | _, _, _, .nil => .nil
  | _, _, 0, .cons _ t => .cons r t
  | _, _, n + 1, .cons q t => .cons q (t.set r n)
theorem RWs.reverse {K : Fg} {ι : List Addr} {H : Hp} : ∀ {vs : List V} {ws : List W}, RWs K H ι vs ws → RWs K H ι vs.reverse ws.reverse
  | _, _, .nil => .nil
  | _, _, .cons r t => by
    rw [List.reverse_cons, List.reverse_cons]
    exact t.reverse.append (.cons r .nil)
theorem RWs.rep {K : Fg} {ι : List Addr} {H : Hp} {vs : List V} {ws : List W} (r : RWs K H ι vs ws) : ∀ n : Nat, RWs K H ι (rep vs n) (rep ws n)
  | 0 => .nil
  | n + 1 => r.append (r.rep n)
theorem RWs.dropLast {K : Fg} {ι : List Addr} {H : Hp} {vs : List V} {ws : List W} (r : RWs K H ι vs ws) : RWs K H ι vs.dropLast ws.dropLast := by
  rw [List.dropLast_eq_take, List.dropLast_eq_take, r.length]
  exact r.take _
/-- data in a row -/
theorem RWs.data {K : Fg} {ι : List Addr} {H : Hp} : ∀ {vs : List V} {ds : List D}, RDs K H vs ds → RWs K H ι vs (ds.map .d)
  | _, _, .nil => .nil
  | _, _, .cons h r => .cons (.d h) (RWs.data r)
theorem RWs.allD {K : Fg} {ι : List Addr} {H : Hp} : ∀ {vs : List V} {ws : List W} {ds : List D}, RWs K H ι vs ws → allD ws = some ds → RDs K H vs ds
  | _, _, ds, .nil, e => by
    simp [J.allD] at e; subst e; exact .nil
  | _, _, ds, .cons (w := .d x) (ws := ws) h r, e => by
    unfold J.allD at e
    cases q : J.allD ws with
    | none => rw [q] at e; cases e
    | some xs =>
      rw [q] at e; cases e
      cases h with
      | d h => exact .cons h (r.allD q)
  | _, _, ds, .cons (w := .l a) h r, e => by
    unfold J.allD at e; cases e
theorem allD_map : ∀ xs : List D, allD (xs.map .d) = some xs
  | [] => rfl
  | x :: r => by
    show allD (.d x :: r.map .d) = _
    unfold allD
    rw [allD_map r]

structure RH (K : Fg) (H : Hp) (ι : List Addr) (h : LH) : Prop where
  len : ι.length = h.length
  nd : ι.Nodup
  cell : ∀ (a : Nat) (p : Addr), ι[a]? = some p → ∃ vs ws, H p = some (.lst vs) ∧ h[a]? = some ws ∧ RWs K H ι vs ws ∧ okAll a ws = true
section
variable {K : Fg} {H H' : Hp} {ι ι' : List Addr} {h : LH} {p : Addr}
theorem RH.get (r : RH K H ι h) {a : Nat} {ws : List W} (e : h[a]? = some ws) : ∃ p vs, ι[a]? = some p ∧ H p = some (.lst vs) ∧ RWs K H ι vs ws ∧ okAll a ws = true := by
  have hl : a < ι.length := by
    rw [r.len]
    rcases Nat.lt_or_ge a h.length with z | z
    · exact z
    · rw [List.getElem?_eq_none z] at e; cases e
  have q : ι[a]? = some ι[a] := List.getElem?_eq_getElem hl
  obtain ⟨vs, ws', h1, h2, h3, h4⟩ := r.cell a _ q
  rw [e] at h2; cases h2
  exact ⟨_, vs, q, h1, h3, h4⟩
theorem RH.of (r : RH K H ι h) {a : Nat} {p : Addr} (q : ι[a]? = some p) {ws : List W} (e : h[a]? = some ws) : ∃ vs, H p = some (.lst vs) ∧ RWs K H ι vs ws ∧ okAll a ws = true := by
  obtain ⟨vs, ws', h1, h2, h3, h4⟩ := r.cell a p q
  rw [e] at h2; cases h2
  exact ⟨vs, h1, h3, h4⟩
theorem RH.mem (r : RH K H ι h) {p : Addr} (hp : p ∈ ι) : ∃ vs, H p = some (.lst vs) := by
  obtain ⟨a, ha⟩ := List.mem_iff_getElem?.mp hp
  obtain ⟨vs, _, h1, _⟩ := r.cell a p ha
  exact ⟨vs, h1⟩
theorem RH.notin (r : RH K H ι h) (hp : H p = none) : p ∉ ι := fun hm => by
  obtain ⟨vs, e⟩ := r.mem hm
  rw [hp] at e; cases e
/-- a new object that is no live list -/
theorem RH.laid (r : RH K H ι h) (hp : H p = none) (o : HO) : RH K (upd H p o) ι h ∧ Step ι H ι (upd H p o) := by
  have st : Step ι H ι (upd H p o) := ⟨⟨[], by simp⟩, fun _ h => .inl h, fun q u e _ => by rw [upd_ne (ne_of_none e hp)]; exact e, fun q u e _ => by rw [upd_ne (ne_of_none e hp)]; exact e⟩
  refine ⟨⟨r.len, r.nd, fun a q hq => ?_⟩, st⟩
  obtain ⟨vs, ws, h1, h2, h3, h4⟩ := r.cell a q hq
  exact ⟨vs, ws, by rw [upd_ne (ne_of_none h1 hp)]; exact h1, h2, h3.mono st, h4⟩
theorem okAll_mono {a c : Nat} (hac : a ≤ c) : ∀ {ws : List W}, okAll a ws = true → okAll c ws = true
  | [], _ => rfl
  | .d x :: r, h => by
    unfold okAll at h ⊢
    exact okAll_mono hac (by simpa [okIn] using h)
  | .l b :: r, h => by
    unfold okAll at h ⊢
    simp only [okIn, Bool.and_eq_true, decide_eq_true_eq] at h ⊢
    exact ⟨by omega, okAll_mono hac h.2⟩
theorem RWs.okAll (hl : ι.length = h.length) : ∀ {vs : List V} {ws : List W}, RWs K H ι vs ws → okAll h.length ws = true
  | _, _, .nil => rfl
  | _, _, .cons (.d _) r => by unfold J.okAll; simp [okIn, r.okAll hl]
  | _, _, .cons (.l (a := a) e) r => by
    have : a < ι.length := by
      rcases Nat.lt_or_ge a ι.length with z | z
      · exact z
      · rw [List.getElem?_eq_none z] at e; cases e
    unfold J.okAll; simp [okIn, r.okAll hl]; omega
/-- a new live list -/
theorem RH.newl (r : RH K H ι h) (hp : H p = none) {vs : List V} {ws : List W} (rw_ : RWs K H ι vs ws) :
    RH K (upd H p (.lst vs)) (ι ++ [p]) (h ++ [ws]) ∧ Step ι H (ι ++ [p]) (upd H p (.lst vs)) := by
  have st : Step ι H (ι ++ [p]) (upd H p (.lst vs)) := by
    refine ⟨⟨[p], rfl⟩, fun q hq => ?_, fun q u e _ => by rw [upd_ne (ne_of_none e hp)]; exact e, fun q u e _ => by rw [upd_ne (ne_of_none e hp)]; exact e⟩
    rcases List.mem_append.mp hq with z | z
    · exact .inl z
    · rw [List.mem_singleton.mp z]; exact .inr hp
  refine ⟨⟨by simp [r.len], ?_, fun a q hq => ?_⟩, st⟩
  · rw [List.nodup_append]
    refine ⟨r.nd, by simp, fun a ha b hb => ?_⟩
    rw [List.mem_singleton.mp hb]
    rintro rfl
    exact r.notin hp ha
  · rcases Nat.lt_or_ge a ι.length with z | z
    · rw [List.getElem?_append_left z] at hq
      obtain ⟨vs', ws', h1, h2, h3, h4⟩ := r.cell a q hq
      refine ⟨vs', ws', by rw [upd_ne (ne_of_none h1 hp)]; exact h1, ?_, h3.mono st, h4⟩
      rw [List.getElem?_append_left (by rw [← r.len]; exact z)]
      exact h2
    · rw [List.getElem?_append_right z] at hq
      have ea : a - ι.length = 0 := by
        rcases Nat.eq_zero_or_pos (a - ι.length) with y | y
        · exact y
        · rw [List.getElem?_eq_none (by simp; omega)] at hq; cases hq
      rw [ea] at hq
      simp at hq
      subst hq
      have ea' : a = h.length := by have := r.len; omega
      subst ea'
      exact ⟨vs, ws, upd_same, by simp, rw_.mono st, rw_.okAll r.len⟩
/-- a live list is written -/
theorem RH.wrote (r : RH K H ι h) {a : Nat} (ha : ι[a]? = some p) {vs : List V} {ws : List W} (rw_ : RWs K H ι vs ws) (ok : okAll a ws = true) :
    RH K (upd H p (.lst vs)) ι (h.set a ws) ∧ Step ι H ι (upd H p (.lst vs)) := by
  have hm : p ∈ ι := List.mem_of_getElem? ha
  obtain ⟨vs0, e0⟩ := r.mem hm
  have st : Step ι H ι (upd H p (.lst vs)) := by
    refine ⟨⟨[], by simp⟩, fun _ h => .inl h, fun q u e n => ?_, fun q u e n => ?_⟩
    · rw [upd_ne (fun z => n (by rw [z]; exact hm))]; exact e
    · rw [upd_ne (fun z => by subst z; rw [e0] at e; cases e; exact n _ rfl)]; exact e
  refine ⟨⟨by simp [r.len], r.nd, fun c q hq => ?_⟩, st⟩
  obtain ⟨vs', ws', h1, h2, h3, h4⟩ := r.cell c q hq
  by_cases hc : c = a
  · subst hc
    rw [ha] at hq; cases hq
    exact ⟨vs, ws, upd_same, List.getElem?_set_self (by
      rcases Nat.lt_or_ge c h.length with z | z
      · exact z
      · rw [List.getElem?_eq_none z] at h2; cases h2), rw_.mono st, ok⟩
  · have hne : q ≠ p := by
      rintro rfl
      have hl : c < ι.length := by
        rcases Nat.lt_or_ge c ι.length with z | z
        · exact z
        · rw [List.getElem?_eq_none z] at hq; cases hq
      exact hc ((List.getElem?_inj hl r.nd).mp (hq.trans ha.symm))
    exact ⟨vs', ws', by rw [upd_ne hne]; exact h1, by rw [List.getElem?_set_ne (Ne.symm hc)]; exact h2, h3.mono st, h4⟩
/-- the youngest lists dropped -/
theorem RH.take (r : RH K H ι h) (n : Nat) : RH K H (ι.take n) (h.take n) := by
  have key : ∀ {a : Nat} {vs : List V} {ws : List W}, a ≤ n → RWs K H ι vs ws → okAll a ws = true → RWs K H (ι.take n) vs ws := by
    intro a vs ws han
    intro rr
    induction rr with
    | nil => intro _; exact .nil
    | @cons v w vs ws hw hr ih =>
      intro ok
      unfold okAll at ok
      rw [Bool.and_eq_true] at ok
      refine .cons ?_ (ih ok.2)
      cases hw with
      | d z => exact .d z
      | @l b p' e =>
        have hb : b < a := by simpa [okIn] using ok.1
        exact .l (by rw [List.getElem?_take_of_lt (by omega)]; exact e)
  refine ⟨by simp [r.len], r.nd.sublist (List.take_sublist n ι), fun a q hq => ?_⟩
  have han : a < n := by
    rcases Nat.lt_or_ge a n with z | z
    · exact z
    · rw [List.getElem?_take_eq_none (by omega)] at hq; cases hq
  rw [List.getElem?_take_of_lt han] at hq
  obtain ⟨vs, ws, h1, h2, h3, h4⟩ := r.cell a q hq
  exact ⟨vs, ws, h1, by rw [List.getElem?_take_of_lt han]; exact h2, key (by omega) h3 h4, h4⟩
end
end J
set_option maxRecDepth 100000
/-! New tuples, told as objects without a dict. -/
namespace J
open PySem PySem.Spec L2 PyProof.Rows
section
variable {X : Cx}
abbrev NewT (Q : VK) (H : Hp) (xs : List V) : Prop := ∀ p o, H p = none → Obj.dict o = none → Q (.ref p) (upd H p (.frz o (.tup xs)))
theorem laidT {pins : List (Addr × Obj)} {σ : L2.St} {H : Hp} {s : Shared} {Q : VK} {its : List Value} {xs : List V} (I : Inv X pins σ H s) (r : Vals xs its) (hz : xs.length ≤ sizeLine) (q : NewT Q H xs) :
    EP X pins σ Q (.ref s.heap.objs.size) { s with heap := s.heap.push { cls := .type "tuple", data := .seq its.toArray } } := by
  refine ⟨.ref s.heap.objs.size, _, I.laid (t' := s.toks) (o := .frz { cls := .type "tuple", data := .seq its.toArray } (.tup xs)) (fun b u e => Heap.get?_push_of_some _ e) (Nat.le_refl _) ?_, rfl, q _ _ (I.hok.fresh (Nat.le_refl _)) rfl⟩
  exact ⟨Heap.get?_push_size _ rfl, hz, its, r, ⟨_, Heap.get?_push_size _ rfl, rfl, _, rfl⟩⟩
def tTupN (t : TA) : TE := fun σ H Q => t σ H fun xs H1 => xs.length ≤ sizeLine ∧ NewT Q H1 xs
theorem pe_tupN {es : List Expr} {t : TA} {j : Nat} {pos : Pos} (h : PA X es t) : PE X (.Tuple es j pos) (tTupN t) :=
  ⟨fun pins s σ H Q I hq => wpAny_Tuple_spliced (thn (h.run pos pins s σ H _ I hq) fun us s1 ⟨xs, H1, I1, r, z, q⟩ => ⟨by rw [← r.length]; exact z, laidT I1 r z q⟩)⟩
def tTupRgN (te : L2.St → Hp → (Int → Int → Hp → Prop) → Prop) : TE := fun σ H Q => te σ H fun a b H1 => RgOk a b ∧ NewT Q H1 (rgV a b)
theorem pe_tupRgN {e : Expr} {te : L2.St → Hp → (Int → Int → Hp → Prop) → Prop} {p pos : Pos} (hc : X.calm = true) (hg : Gl X "tuple") (hm : X.mg "tuple" = none) (he : PRg X e te) (na : starEach [e] X.env = (false, eval e X.env) :: starEach [] X.env) : PE X (.Call (.Name "tuple" p) [e] [] pos) (tTupRgN te) := by
  refine ⟨fun pins s σ H Q I h => Call_ (ld_blt I hg hm boot_tuple (PyProof.Rows.callWith_type1 (args_cons (thn (he pins s σ H _ I h) fun x s1 hx => args_nil ?_) na) na))⟩
  obtain ⟨r, a, b, t, u, v, H1, rfl, hr, I1, ⟨b1, b2, b3, b4, b5⟩, q⟩ := hx
  refine call_tuple_range (n := (b - a).toNat) (I1.ok.hd hc) hr (small_one b1 b2 b3 b4) (rangeSize_nat a b) b5 fun h' tk acc hk hi => ?_
  have := laidT (its := acc.toList) (I1.kept (h' := h') (t' := tk) hk) (vals_rg hi) (by rw [rgV_length, sizeLine_eq]; omega) q
  simpa using this
def rTupN (K : Fg) : List V → Hp → VK → Prop := fun xs H Q => ∃ x, xs = [x] ∧ ((∃ p ys, x = .ref p ∧ SqL K H p ys ∧ NewT Q H ys) ∨ (∃ p ys, x = .ref p ∧ SqT K H p ys ∧ Q (.ref p) H))
theorem call_tupleN : CallR X (.type "tuple") (rTupN X.K) := by
  intro pins s σ H xs us Q I r h
  obtain ⟨x, rfl, h⟩ := h
  obtain ⟨u, rfl, ru⟩ := vals1 r
  rcases h with ⟨p, ys, rfl, hs, q⟩ | ⟨p, ys, rfl, hs, q⟩
  · cases ru
    obtain ⟨its, rv, pl, hz⟩ := I.list hs
    exact call_tuple_list pl.isList (fun h' hk => laidT (I.kept (t' := s.toks) hk) rv hz q) (by rw [List.size_toArray, ← rv.length]; exact hz)
  · cases ru
    obtain ⟨its, rv, pl, hz⟩ := I.tuple hs
    exact call_tuple_tup pl ⟨.ref p, H, I, rfl, q⟩
def rCatN (K : Fg) : R2 := fun x y H Q => ∃ a b xs ys, x = .ref a ∧ y = .ref b ∧ SqT K H a xs ∧ SqT K H b ys ∧ xs.length + ys.length ≤ sizeLine ∧ (xs = [] → Q (.ref b) H) ∧ (xs ≠ [] → ys = [] → Q (.ref a) H) ∧ (xs ≠ [] → ys ≠ [] → NewT Q H (xs ++ ys))
theorem op_catN : OpR X (binaryOp .Add) (rCatN X.K) := by
  intro pins s σ H x y v u Q I rx ry h
  obtain ⟨a, b, xs, ys, rfl, rfl, ha, hb, hz, q0, q1, q2⟩ := h
  cases rx; cases ry
  obtain ⟨is, r1, p1, _⟩ := I.tuple ha
  obtain ⟨js, r2, p2, _⟩ := I.tuple hb
  by_cases hx : xs = []
  · subst hx
    cases r1
    exact cat_tup0 p1 p2 ⟨.ref b, H, I, rfl, q0 rfl⟩
  · exact HT.cat_tup p1 p2 (fun z => hx (r1.nil_iff.mp z)) (fun z => ⟨.ref a, H, I, rfl, q1 hx (r2.nil_iff.mp z)⟩) (fun z => laidT I (r1.append r2) (by rw [List.length_append]; exact hz) (q2 hx fun w => z (r2.nil_iff.mpr w))) (by rw [← r1.length, ← r2.length]; exact hz)
def rSlN (K : Fg) : V → Option Int → Option Int → Hp → VK → Prop := fun x lo hi H Q => ∃ a xs, x = .ref a ∧ SqT K H a xs ∧
  (HT.sIx xs.length 0 lo = 0 ∧ HT.sIx xs.length xs.length hi = xs.length → Q (.ref a) H) ∧ (¬ (HT.sIx xs.length 0 lo = 0 ∧ HT.sIx xs.length xs.length hi = xs.length) → NewT Q H (cutV xs lo hi))
theorem sl_tupN : SlR X (rSlN X.K) := by
  intro pins s σ H x v vl vu lo hi sl Q I rx hs pl pu h
  obtain ⟨a, xs, rfl, hx, q1, q2⟩ := h
  cases rx
  obtain ⟨its, r, ht, hz⟩ := I.tuple hx
  have len : its.toArray.size = xs.length := by simpa using r.length.symm
  refine ⟨"tuple", _, PyProof.Rows.slot_tuple_getitem.lookup, ht.typeIs, ?_⟩
  by_cases hw : HT.sIx xs.length 0 lo = 0 ∧ HT.sIx xs.length xs.length hi = xs.length
  · exact getItem_tuple_whole ht hs pl pu (by rw [len]; exact hw) ⟨.ref a, H, I, rfl, q1 hw⟩
  · refine HT.getItem_tuple_cut ht hs pl pu (by rw [len]; exact hw) ?_ (by rw [len]; exact hz)
    rw [len]
    exact laidT I ((r.drop (HT.sIx xs.length 0 lo)).take (HT.sIx xs.length xs.length hi - HT.sIx xs.length 0 lo)) (Nat.le_trans (cutV_length xs lo hi) hz) (q2 hw)
def rRepN (K : Fg) : R2 := fun x y H Q => ∃ l k xs, x = .ref l ∧ y = .int k ∧ SqT K H l xs ∧ xs ≠ [] ∧ 2 ≤ k ∧ k ≤ 1000 ∧ xs.length ≤ 1000 ∧ NewT Q H (List.replicate k.toNat xs).flatten
theorem flat_len {α : Type} (xs : List α) : ∀ n, (List.replicate n xs).flatten.length = n * xs.length
  | 0 => by simp
  | n + 1 => by rw [List.replicate_succ, List.flatten_cons, List.length_append, flat_len xs n, Nat.succ_mul]; omega
theorem op_repN : OpR X (binaryOp .Mult) (rRepN X.K) := by
  intro pins s σ H x y v u Q I rx ry h
  obtain ⟨l, k, xs, rfl, rfl, hT, hne, h1, h2, hz, q⟩ := h
  cases rx
  obtain ⟨t, rfl⟩ := ry
  obtain ⟨its, r, ⟨⟨cls, dd, data, sl⟩, ho, hc, n, hd⟩, hs⟩ := I.tuple hT
  simp only at hc hd
  subst hc hd
  have hl : its.length = xs.length := r.length.symm
  have pos : 0 < xs.length := List.length_pos_iff.mpr hne
  have ne : its.toArray.isEmpty = false := by
    cases its with
    | nil => simp at hl; omega
    | cons a b => rfl
  have sz : its.toArray.size = xs.length := by simpa using hl
  have bound : ((xs.length : Nat) : Int) * k ≤ 1000000 := Int.le_trans (Int.mul_le_mul_of_nonneg_right (show ((xs.length : Nat) : Int) ≤ 1000 by omega) (by omega)) (by omega)
  have fl : (List.replicate k.toNat its).flatten.length ≤ sizeLine := by
    rw [flat_len, hl, sizeLine_eq]
    exact Nat.le_trans (Nat.mul_le_mul (show k.toNat ≤ 1000 by omega) hz) (by decide)
  have g0 : (decide (k < -(2 ^ 63)) || decide (k ≥ 2 ^ 63)) = false := by
    simp only [Bool.or_eq_false_iff, decide_eq_false_iff_not]; omega
  have g1 : (its.toArray.isEmpty || k == 1) = false := by
    simp only [ne, Bool.false_or, beq_eq_false_iff_ne]; omega
  have g2 : (decide (k ≤ 0) || its.toArray.isEmpty) = false := by
    simp only [ne, Bool.or_false, decide_eq_false_iff_not]; omega
  have g4 : Builtin.Tuple.tupleTooMany (((its.toArray.size : Nat) : Int) * k) = false := by
    unfold Builtin.Tuple.tupleTooMany
    rw [sz, sizeLine_eq]
    exact decide_eq_false (by omega)
  have mulW := tuple_mulW l its.toArray n dd sl k t g0 g1 g2 (by rw [sz]; omega) g4 (by rw [size_rep, List.size_toArray]; exact fl)
  have both := call_meets (prog := X.prog) (w := X.w) (A := X.A) (E := X.xe) PySem.F.slot_int_rmul (typeIs_int s k t) PySem.F.entry_int_rmul (PySem.F.args_int_rmul_2 _ _) (int_rmul_tuple k t l its.toArray n dd sl) (Q := fun z s' => z = .notImplemented ∧ s' = s) ⟨ho, rfl, rfl⟩
  refine wpAny_binaryOp_repeat_ref (T := "tuple") (U := "int") (by decide) ⟨_, ho, rfl⟩ (fun s' => typeIs_int s' k t) noFill_tuple_mul PySem.F.fills_int_mul PySem.F.slot_int_rmul repeat_tuple PySem.F.slot_int_index.lookup ?_
  refine thn both fun z s' hz' => ?_
  obtain ⟨rfl, rfl⟩ := hz'
  refine ⟨rfl, ⟨_, ho, rfl⟩, call_meets PySem.F.slot_tuple_mul ⟨_, ho, rfl⟩ PySem.F.entry_tuple_mul (PySem.F.args_tuple_mul_2 _ _) mulW ⟨ho, ?_⟩⟩
  rw [size_rep]
  exact laidT I (r.rep k.toNat) (by rw [flat_len, sizeLine_eq]; exact Nat.le_trans (Nat.mul_le_mul (show k.toNat ≤ 1000 by omega) hz) (by decide)) q
end
end J
set_option maxRecDepth 100000
/-! J's operations are the machine's. -/
namespace J
open PySem L2 PyProof.Rows
theorem szl : sizeLine = SZ := sizeLine_eq

def Post (K : Fg) (ι : List Addr) (H : Hp) (w : W) (h' : LH) (Q : VK) : Prop := ∀ v H' ι', Step ι H ι' H' → RH K H' ι' h' → RW K H' ι' v w → Q v H'
def PostB (K : Fg) (ι : List Addr) (H : Hp) (b : Bool) (h' : LH) (Q : Bool → Hp → Prop) : Prop := ∀ H' ι', Step ι H ι' H' → RH K H' ι' h' → Q b H'
def PostL (K : Fg) (ι : List Addr) (H : Hp) (ws : List W) (h' : LH) (Q : List V → Hp → Prop) : Prop := ∀ vs H' ι', Step ι H ι' H' → RH K H' ι' h' → RWs K H' ι' vs ws → Q vs H'
section
variable {K : Fg} {ι : List Addr} {H : Hp} {w : W} {h h' : LH} {Q : VK}
theorem Post.same {v : V} (p : Post K ι H w h Q) (r : RH K H ι h) (q : RW K H ι v w) : Q v H := p v H ι (.refl _ _) r q
theorem Post.dat {v : V} {x : D} (p : Post K ι H (.d x) h Q) (r : RH K H ι h) (q : RD K H v x) : Q v H := p.same r (.d q)
/-- a new tuple -/
theorem Post.tup {vs : List V} {ds : List D} (p : Post K ι H (.d (.t ds)) h Q) (r : RH K H ι h) (q : RDs K H vs ds) : ∀ a o, H a = none → o.dict = none → Q (.ref a) (upd H a (.frz o (.tup vs))) := fun a o ha hd => by
  obtain ⟨r', st⟩ := r.laid ha (.frz o (.tup vs))
  exact p _ _ _ st r' (.d (.t (.inl ⟨o, upd_same, hd⟩) (q.mono st.stab)))
/-- a new live list -/
theorem Post.lst {vs : List V} {ws : List W} (p : Post K ι H (.l h.length) (h ++ [ws]) Q) (r : RH K H ι h) (q : RWs K H ι vs ws) : ∀ a, H a = none → Q (.ref a) (upd H a (.lst vs)) := fun a ha => by
  obtain ⟨r', st⟩ := r.newl ha q
  refine p _ _ _ st r' (.l ?_)
  rw [← r.len]; simp
theorem Post.step {H1 : Hp} {ι1 : List Addr} (p : Post K ι H w h' Q) (st : Step ι H ι1 H1) : Post K ι1 H1 w h' Q := fun v H' ι' s r q => p v H' ι' (st.trans s) r q
end

/-- what the interpreter says of two values -/
def rJ2 (K : Fg) (f : LH → W → W → Option (W × LH)) : R2 := fun x y H Q => ∃ ι h u w r h', RH K H ι h ∧ RW K H ι x u ∧ RW K H ι y w ∧ f h u w = some (r, h') ∧ Post K ι H r h' Q
section
variable {X : Cx}
theorem OpR.mono {f : Value → Value → Sem Value} {r r' : R2} (h : OpR X f r) (m : ∀ x y H Q, r' x y H Q → r x y H Q) : OpR X f r' :=
  fun pins s σ H x y v u Q I rx ry q => h pins s σ H x y v u Q I rx ry (m _ _ _ _ q)
theorem OpR.or {f : Value → Value → Sem Value} {r r' : R2} (h : OpR X f r) (h' : OpR X f r') : OpR X f (fun x y H Q => r x y H Q ∨ r' x y H Q) := by
  intro pins s σ H x y v u Q I rx ry q
  rcases q with q | q
  · exact h pins s σ H x y v u Q I rx ry q
  · exact h' pins s σ H x y v u Q I rx ry q
theorem binop_add {K : Fg} {h : LH} {u w r : W} {h' : LH} (e : binop h .add u w = some (r, h')) :
    (∃ x y, u = .d (.i x) ∧ w = .d (.i y) ∧ r = .d (.i (x + y)) ∧ h' = h) ∨
    (∃ xs ys, u = .d (.t xs) ∧ w = .d (.t ys) ∧ xs.length + ys.length ≤ SZ ∧ r = .d (.t (xs ++ ys)) ∧ h' = h) ∨
    (∃ x y, u = .d (.s x) ∧ w = .d (.s y) ∧ x.length + y.length ≤ SZ ∧ r = .d (.s (x ++ y)) ∧ h' = h) ∨
    (∃ a c xs ys, u = .l a ∧ w = .l c ∧ h[a]? = some xs ∧ h[c]? = some ys ∧ xs.length + ys.length ≤ SZ ∧ r = .l h.length ∧ h' = h ++ [xs ++ ys]) := by
  unfold binop at e
  split at e <;> first | cases e | skip
  all_goals (try contradiction)
  · exact .inl ⟨_, _, rfl, rfl, rfl, rfl⟩
  · split at e
    · cases e; exact .inr (.inl ⟨_, _, rfl, rfl, by assumption, rfl, rfl⟩)
    · cases e
  · split at e
    · cases e; exact .inr (.inr (.inl ⟨_, _, rfl, rfl, by assumption, rfl, rfl⟩))
    · cases e
  · split at e
    · split at e
      · cases e; exact .inr (.inr (.inr ⟨_, _, _, _, rfl, rfl, by assumption, by assumption, by assumption, rfl, rfl⟩))
      · cases e
    · cases e
theorem RDs.append {K : Fg} {H : Hp} : ∀ {vs us : List V} {ds es : List D}, RDs K H vs ds → RDs K H us es → RDs K H (vs ++ us) (ds ++ es)
  | _, _, _, _, .nil, s => s
  | _, _, _, _, .cons r t, s => .cons r (RDs.append t s)
theorem EncS.append {x x' : String} {y y' : Str} (h : EncS x y) (h' : EncS x' y') : EncS (x ++ x') (y ++ y') := by
  have e : (y ++ y').cps = y.cps ++ y'.cps := rfl
  unfold EncS
  rw [e, Array.toList_append, h, h', String.toList_append, List.map_append]
theorem op_addJ : OpR X (binaryOp .Add) (rJ2 X.K fun h u w => binop h .add u w) := by
  refine OpR.mono (OpR.or op_add (OpR.or op_catN (OpR.or op_add_str op_cat))) ?_
  rintro x y H Q ⟨ι, h, u, w, r, h', rh, rx, ry, e, p⟩
  rcases binop_add (K := X.K) e with ⟨a, b, rfl, rfl, rfl, rfl⟩ | ⟨xs, ys, rfl, rfl, z, rfl, rfl⟩ | ⟨a, b, rfl, rfl, z, rfl, rfl⟩ | ⟨a, c, xs, ys, rfl, rfl, ha, hc, z, rfl, rfl⟩
  · cases rx with | d rx => cases ry with | d ry => cases rx; cases ry; exact .inl ⟨_, _, rfl, rfl, p.dat rh (.i _)⟩
  · cases rx with
    | d rx => cases ry with
      | d ry => cases rx with
        | @t a vs _ t1 q1 => cases ry with
          | @t b us _ t2 q2 =>
            refine .inr (.inl ⟨_, _, _, _, rfl, rfl, t1.t, t2.t, by rw [szl, q1.length, q2.length]; exact z, fun e => ?_, fun _ e => ?_, fun _ _ => ?_⟩)
            · subst e
              cases q1
              exact p.dat rh (.t t2 q2)
            · subst e
              cases q2
              rw [List.append_nil] at p
              exact p.dat rh (.t t1 q1)
            · exact p.tup rh (q1.append q2)
  · cases rx with | d rx => cases ry with | d ry => cases rx with | s e1 l1 => cases ry with | s e2 l2 => exact .inr (.inr (.inl ⟨_, _, rfl, rfl, by rw [szl, e1.len, e2.len]; exact z, p.dat rh (.s (e1.append e2) (by rw [String.length_append]; exact z))⟩))
  · cases rx with
    | l rx => cases ry with
      | l ry =>
        obtain ⟨vs, h1, r1, _⟩ := rh.of rx ha
        obtain ⟨us, h2, r2, _⟩ := rh.of ry hc
        exact .inr (.inr (.inr ⟨_, _, _, _, rfl, rfl, h1, h2, by rw [szl, r1.length, r2.length]; exact z, p.lst rh (r1.append r2)⟩))
theorem op_subJ : OpR X (binaryOp .Sub) (rJ2 X.K fun h u w => binop h .sub u w) := by
  refine OpR.mono op_sub ?_
  rintro x y H Q ⟨ι, h, u, w, r, h', rh, rx, ry, e, p⟩
  replace e : binop h .sub u w = some (r, h') := e
  unfold binop at e
  split at e <;> first | cases e | skip
  all_goals (try contradiction)
  cases rx with | d rx => cases ry with | d ry => cases rx; cases ry; exact ⟨_, _, rfl, rfl, p.dat rh (.i _)⟩
theorem op_fdivJ : OpR X (binaryOp .FloorDiv) (rJ2 X.K fun h u w => binop h .fdiv u w) := by
  refine OpR.mono op_fdiv ?_
  rintro x y H Q ⟨ι, h, u, w, r, h', rh, rx, ry, e, p⟩
  replace e : binop h .fdiv u w = some (r, h') := e
  unfold binop at e
  split at e <;> first | cases e | skip
  all_goals (try contradiction)
  split at e
  · cases e
    cases rx with | d rx => cases ry with | d ry => cases rx; cases ry; exact ⟨_, _, rfl, rfl, by assumption, p.dat rh (.i _)⟩
  · cases e
theorem op_modJ : OpR X (binaryOp .Mod) (rJ2 X.K fun h u w => binop h .mod u w) := by
  refine OpR.mono op_mod ?_
  rintro x y H Q ⟨ι, h, u, w, r, h', rh, rx, ry, e, p⟩
  replace e : binop h .mod u w = some (r, h') := e
  unfold binop at e
  split at e <;> first | cases e | skip
  all_goals (try contradiction)
  split at e
  · cases e
    cases rx with | d rx => cases ry with | d ry => cases rx; cases ry; exact ⟨_, _, rfl, rfl, by assumption, p.dat rh (.i _)⟩
  · cases e
theorem op_powJ : OpR X (binaryOp .Pow) (rJ2 X.K fun h u w => binop h .pow u w) := by
  refine OpR.mono op_pow ?_
  rintro x y H Q ⟨ι, h, u, w, r, h', rh, rx, ry, e, p⟩
  replace e : binop h .pow u w = some (r, h') := e
  unfold binop at e
  split at e <;> first | cases e | skip
  all_goals (try contradiction)
  split at e
  · cases e
    cases rx with | d rx => cases ry with | d ry => cases rx; cases ry; exact ⟨_, _, rfl, rfl, by assumption, p.dat rh (.i _)⟩
  · cases e

/-! ### comparisons -/
def rJc (K : Fg) (f : LH → W → W → Option Bool) : R2 := fun x y H Q => ∃ ι h u w b, RH K H ι h ∧ RW K H ι x u ∧ RW K H ι y w ∧ f h u w = some b ∧ Q (.bl b) H
theorem op_intJ {op : CmpOp} {co : COp} {g : Int → Int → Bool} (ho : OpR X (compareOp op) (rI0 fun i j => .bl (g i j))) (hc : ∀ h u w b, cmpop h co u w = some b → ∃ x y, u = .d (.i x) ∧ w = .d (.i y) ∧ b = g x y) :
    OpR X (compareOp op) (rJc X.K fun h u w => cmpop h co u w) := by
  refine OpR.mono ho ?_
  rintro x y H Q ⟨ι, h, u, w, b, rh, rx, ry, e, p⟩
  obtain ⟨i, j, rfl, rfl, rfl⟩ := hc h u w b e
  cases rx with | d rx => cases ry with | d ry => cases rx; cases ry; exact ⟨_, _, rfl, rfl, p⟩
theorem op_ltJ : OpR X (compareOp .Lt) (rJc X.K fun h u w => cmpop h .lt u w) := op_intJ op_lt fun h u w b e => by
  unfold cmpop at e; split at e <;> first | cases e | skip
  all_goals first | contradiction | exact ⟨_, _, rfl, rfl, rfl⟩
theorem op_leJ : OpR X (compareOp .LtE) (rJc X.K fun h u w => cmpop h .le u w) := op_intJ op_le fun h u w b e => by
  unfold cmpop at e; split at e <;> first | cases e | skip
  all_goals first | contradiction | exact ⟨_, _, rfl, rfl, rfl⟩
theorem op_gtJ : OpR X (compareOp .Gt) (rJc X.K fun h u w => cmpop h .gt u w) := op_intJ op_gt fun h u w b e => by
  unfold cmpop at e; split at e <;> first | cases e | skip
  all_goals first | contradiction | exact ⟨_, _, rfl, rfl, rfl⟩
theorem op_geJ : OpR X (compareOp .GtE) (rJc X.K fun h u w => cmpop h .ge u w) := op_intJ op_ge fun h u w b e => by
  unfold cmpop at e; split at e <;> first | cases e | skip
  all_goals first | contradiction | exact ⟨_, _, rfl, rfl, rfl⟩

/-- == of data -/
theorem eqv_comm_depth (a b : Nat) : min a b = min b a := Nat.min_comm a b
theorem op_eqDp {E : Bool} (hu : X.A.units + 65 < cLine) {pins : List (Addr × Obj)} {s : Shared} {σ : L2.St} {H : Hp} {x y : V} {v u : Value} {Q : VK} {d e : PyData} (I : Inv X pins σ H s) (rx : RelV x v) (ry : RelV y u)
    (hd : Dp X.K H x d) (he : Dp X.K H y e) (ld : d.canLay0 = true) (le : e.canLay0 = true) (hm : min d.depth e.depth ≤ 64) :
    (Q (.bl (PyData.eqv d e)) H → wpAny (model X.prog X.w) X.A (compareOp .Eq v u) (EP X pins σ Q) X.xe s) ∧
    (Q (.bl (!PyData.eqv d e)) H → wpAny (model X.prog X.w) X.A (compareOp .NotEq v u) (EP X pins σ Q) X.xe s) := by
  obtain ⟨as, r1⟩ := Dp.reads I d x v hd rx
  obtain ⟨bs, r2⟩ := Dp.reads I e y u he ry
  have room : X.A.units + min d.depth e.depth < cLine := by omega
  exact ⟨fun q => SeqAt.compareEq_reads r1 r2 ld le room ⟨.bl _, H, I, rfl, q⟩, fun q => SeqAt.compareNe_reads r1 r2 ld le room ⟨.bl _, H, I, rfl, q⟩⟩
theorem eqW_dp {K : Fg} {H : Hp} {ι : List Addr} {h : LH} {x y : V} {u w : W} {b : Bool} (rh : RH K H ι h) (rx : RW K H ι x u) (ry : RW K H ι y w) (e : eqW h u w = some b) :
    ∃ d d', Dp K H x d ∧ Dp K H y d' ∧ d.canLay0 = true ∧ d'.canLay0 = true ∧ min d.depth d'.depth ≤ 64 ∧ b = PyData.eqv d d' := by
  unfold eqW at e
  split at e
  · split at e
    · cases e
      cases rx with | d rx => cases ry with | d ry =>
        exact ⟨_, _, rx.dp, ry.dp, pd_lay _, pd_lay _, by rw [pd_depth, pd_depth]; assumption, (pd_eqv _ _).symm⟩
    · cases e
  · rename_i a c
    split at e
    · rename_i us ws h1 h2
      split at e
      · rename_i xs ys h3 h4
        split at e
        · cases e
          rename_i hm
          cases rx with | l rx => cases ry with | l ry =>
            obtain ⟨vs, g1, r1, _⟩ := rh.of rx h1
            obtain ⟨vs', g2, r2, _⟩ := rh.of ry h2
            refine ⟨.list (pdL xs), .list (pdL ys), .lst (SqL.of g1) (RDs.dp (r1.allD h3)), .lst (SqL.of g2) (RDs.dp (r2.allD h4)), ?_, ?_, ?_, ?_⟩
            · unfold PyData.canLay0; exact pdL_lay xs
            · unfold PyData.canLay0; exact pdL_lay ys
            · unfold PyData.depth; rw [pdL_depth, pdL_depth]; omega
            · unfold PyData.eqv; exact (pdL_eqv xs ys).symm
        · cases e
      · cases e
    · cases e
  · cases e
theorem op_eqJ (hu : X.A.units + 65 < cLine) : OpR X (compareOp .Eq) (rJc X.K fun h u w => cmpop h .eq u w) := by
  rintro pins s σ H x y v u Q I rx ry ⟨ι, h, u', w', b, rh, qx, qy, e, p⟩
  obtain ⟨d, d', h1, h2, l1, l2, hm, rfl⟩ := eqW_dp rh qx qy (show eqW h u' w' = some b from by simpa [cmpop] using e)
  exact (op_eqDp (E := true) hu I rx ry h1 h2 l1 l2 hm).1 p
theorem op_neJ (hu : X.A.units + 65 < cLine) : OpR X (compareOp .NotEq) (rJc X.K fun h u w => cmpop h .ne u w) := by
  rintro pins s σ H x y v u Q I rx ry ⟨ι, h, u', w', b, rh, qx, qy, e, p⟩
  obtain ⟨b', e', rfl⟩ := Option.map_eq_some_iff.mp (show (eqW h u' w').map (!·) = some b from by simpa [cmpop] using e)
  obtain ⟨d, d', h1, h2, l1, l2, hm, rfl⟩ := eqW_dp rh qx qy e'
  exact (op_eqDp (E := true) hu I rx ry h1 h2 l1 l2 hm).2 p
end
end J
set_option maxRecDepth 100000
namespace J
open PySem L2 PyProof.Rows
section
variable {X : Cx}
/-! ### in, not in -/
theorem items_sq {K : Fg} {H : Hp} {ι : List Addr} {h : LH} {v : V} {w : W} {ws : List W} (rh : RH K H ι h) (r : RW K H ι v w) (e : items h w = some ws) :
    ∃ a vs, v = .ref a ∧ RWs K H ι vs ws ∧ (SqL K H a vs ∨ SqT K H a vs) := by
  unfold items at e
  split at e
  · cases e
    cases r with | d r => cases r with | t t1 q1 => exact ⟨_, _, rfl, .data q1, .inr t1.t⟩
  · cases e
    cases r with | d r => cases r with | fl t1 q1 => exact ⟨_, _, rfl, .data q1, .inl t1.sq⟩
  · cases r with
    | l r =>
      obtain ⟨vs, g, q, _⟩ := rh.of r e
      exact ⟨_, _, rfl, q, .inl (SqL.of g)⟩
  · cases e
theorem inW_run {neg : Bool} (hu : X.A.units + 70 < cLine) {pins : List (Addr × Obj)} {s : Shared} {σ : L2.St} {H : Hp} {x y : V} {v u : Value} {Q : VK} {ι : List Addr} {h : LH} {u' w' : W} {b : Bool} (I : Inv X pins σ H s) (rx : RelV x v) (ry : RelV y u)
    (rh : RH X.K H ι h) (qx : RW X.K H ι x u') (qy : RW X.K H ι y w') (e : inW h u' w' = some b) :
    (Q (.bl b) H → wpAny (model X.prog X.w) X.A (compareOp .In v u) (EP X pins σ Q) X.xe s) ∧ (Q (.bl (!b)) H → wpAny (model X.prog X.w) X.A (compareOp .NotIn v u) (EP X pins σ Q) X.xe s) := by
  unfold inW at e
  split at e
  · rename_i x' ws hi
    split at e
    · rename_i xs ha
      split at e
      · cases e
        rename_i hd
        cases qx with
        | d qx =>
          obtain ⟨as, r1⟩ := Dp.reads I (pd x') x v qx.dp rx
          obtain ⟨a, vs, rfl, q, sq⟩ := items_sq rh qy hi
          have dsq := (q.allD ha).dp
          have room : X.A.units + 1 + min (PyData.depthAll (pdL xs)) (pd x').depth < cLine := by
            have : (pd x').depth ≤ 64 := by rw [pd_depth]; exact hd
            omega
          have ev : ((pdL xs).any fun y => PyData.eqv y (pd x')) = xs.any fun z => eqv z x' := by
            clear dsq room ha
            induction xs with
            | nil => rfl
            | cons z zs ih =>
              show (PyData.eqv (pd z) (pd x') || (pdL zs).any _) = _
              rw [pd_eqv, ih]; rfl
          rcases sq with sq | sq
          · obtain ⟨bs, r2⟩ := Dp.reads I (.list (pdL xs)) _ u (.lst sq dsq) ry
            exact ⟨fun q => SeqAt.in_list_reads r2 r1 (pdL_lay xs) (pd_lay x') room ⟨.bl _, H, I, rfl, by rw [ev]; exact q⟩, fun q => SeqAt.notIn_list_reads r2 r1 (pdL_lay xs) (pd_lay x') room ⟨.bl _, H, I, rfl, by rw [ev]; exact q⟩⟩
          · obtain ⟨bs, r2⟩ := Dp.reads I (.tuple (pdL xs)) _ u (.tup sq dsq) ry
            exact ⟨fun q => SeqAt.in_tuple_reads r2 r1 (pdL_lay xs) (pd_lay x') room ⟨.bl _, H, I, rfl, by rw [ev]; exact q⟩, fun q => SeqAt.notIn_tuple_reads r2 r1 (pdL_lay xs) (pd_lay x') room ⟨.bl _, H, I, rfl, by rw [ev]; exact q⟩⟩
      · cases e
    · cases e
  · cases e
theorem op_inJ (hu : X.A.units + 70 < cLine) : OpR X (compareOp .In) (rJc X.K fun h u w => cmpop h .isin u w) := by
  rintro pins s σ H x y v u Q I rx ry ⟨ι, h, u', w', b, rh, qx, qy, e, p⟩
  exact (inW_run (neg := false) hu I rx ry rh qx qy (show inW h u' w' = some b from by simpa [cmpop] using e)).1 p
theorem op_ninJ (hu : X.A.units + 70 < cLine) : OpR X (compareOp .NotIn) (rJc X.K fun h u w => cmpop h .nin u w) := by
  rintro pins s σ H x y v u Q I rx ry ⟨ι, h, u', w', b, rh, qx, qy, e, p⟩
  obtain ⟨b', e', rfl⟩ := Option.map_eq_some_iff.mp (show (inW h u' w').map (!·) = some b from by simpa [cmpop] using e)
  exact (inW_run (neg := true) hu I rx ry rh qx qy e').2 p

/-! ### items by their places -/
theorem ixN_eq (n : Nat) (i : Int) : J.ixN n i = L2.ixN n i := by
  unfold J.ixN L2.ixN
  split
  · rfl
  · by_cases c : 0 ≤ i + n
    · rw [if_pos c, if_pos (by omega)]
    · rw [if_neg c, if_neg (by omega)]
theorem ix_J : IxR X (rJ2 X.K index) := by
  have both := IxR.or (X := X) ix_list ix_tup
  intro value slice pins s σ H x y v u Q I rx ry q hs
  refine both value slice pins s σ H x y v u Q I rx ry ?_ hs
  obtain ⟨ι, h, u', w', r, h', rh, qx, qy, e, p⟩ := q
  unfold index at e
  split at e
  · rename_i i ws hi
    split at e
    · rename_i k hk
      split at e
      · rename_i w hw
        cases e
        obtain ⟨a, vs, rfl, q, sq⟩ := items_sq rh qx hi
        obtain ⟨z, hz, rz⟩ := q.get hw
        have at_ : atI vs i = some z := by
          unfold atI
          rw [q.length, ← ixN_eq, hk]
          exact hz
        cases qy with
        | d qy =>
          cases qy
          rcases sq with sq | sq
          · exact .inl ⟨_, _, _, _, rfl, rfl, sq, at_, p.same rh rz⟩
          · exact .inr ⟨_, _, _, _, rfl, rfl, sq, at_, p.same rh rz⟩
      · cases e
    · cases e
  · cases e

/-! ### slices -/
theorem cutAt_eq (n d : Nat) (i : Int) : cutAt n i = HT.sIx n d (some i) := rfl
theorem cutL_eq (vs : List V) (lo hi : Option Int) : cutL vs lo hi = cutV vs lo hi := by
  unfold cutL cutV
  cases lo <;> cases hi <;> simp only [HT.sIx, cutAt] <;> rw [List.drop_take]
theorem RWs.cut {K : Fg} {ι : List Addr} {H : Hp} {vs : List V} {ws : List W} (r : RWs K H ι vs ws) (lo hi : Option Int) : RWs K H ι (cutL vs lo hi) (cutL ws lo hi) := by
  unfold cutL
  rw [r.length]
  exact (r.take _).drop _
theorem RDs.take {K : Fg} {H : Hp} : ∀ {vs : List V} {ds : List D} (n : Nat), RDs K H vs ds → RDs K H (vs.take n) (ds.take n)
  | _, _, 0, _ => by simp; exact .nil
  | _, _, _ + 1, .nil => .nil
  | _, _, n + 1, .cons r t => .cons r (RDs.take n t)
theorem RDs.drop {K : Fg} {H : Hp} : ∀ {vs : List V} {ds : List D} (n : Nat), RDs K H vs ds → RDs K H (vs.drop n) (ds.drop n)
  | _, _, 0, r => r
  | _, _, _ + 1, .nil => .nil
  | _, _, n + 1, .cons _ t => RDs.drop n t
theorem RDs.cut {K : Fg} {H : Hp} {vs : List V} {ds : List D} (r : RDs K H vs ds) (lo hi : Option Int) : RDs K H (cutL vs lo hi) (cutL ds lo hi) := by
  unfold cutL
  rw [r.length]
  exact RDs.drop _ (RDs.take _ r)
theorem RDs.reverse {K : Fg} {H : Hp} : ∀ {vs : List V} {ds : List D}, RDs K H vs ds → RDs K H vs.reverse ds.reverse
  | _, _, .nil => .nil
  | _, _, .cons r t => by
    rw [List.reverse_cons, List.reverse_cons]
    exact RDs.append (RDs.reverse t) (.cons r .nil)
def rJs (K : Fg) : V → Option Int → Option Int → Hp → VK → Prop := fun x lo hi H Q => ∃ ι h u r h', RH K H ι h ∧ RW K H ι x u ∧ slice h u lo hi = some (r, h') ∧ Post K ι H r h' Q
theorem sl_J : SlR X (rJs X.K) := by
  have both := SlR.or (X := X) sl_tupN sl_list
  intro pins s σ H x v vl vu lo hi sl Q I rx hs pl pu q
  refine both pins s σ H x v vl vu lo hi sl Q I rx hs pl pu ?_
  obtain ⟨ι, h, u', r, h', rh, qx, e, p⟩ := q
  unfold slice at e
  split at e
  · cases e
    cases qx with | d qx => cases qx with
      | @t a vs ds t1 q1 =>
        refine .inl ⟨a, vs, rfl, t1.t, fun hw => ?_, fun _ => ?_⟩
        · refine p.dat rh (.t t1 ?_)
          have := q1.cut lo hi
          rw [cutL_eq] at this
          unfold cutV at this
          rw [hw.1, hw.2] at this
          simpa using this
        · have := q1.cut lo hi
          rw [cutL_eq] at this
          exact p.tup rh this
  · cases e
    cases qx with | d qx => cases qx with
      | @fl a vs ds t1 q1 =>
        refine .inr ⟨a, vs, rfl, t1.sq, ?_⟩
        have := q1.cut lo hi
        rw [cutL_eq] at this
        exact p.lst rh (.data this)
  · split at e
    · cases e
      rename_i ws hws
      cases qx with | l qx =>
        obtain ⟨vs, g, r1, _⟩ := rh.of qx hws
        refine .inr ⟨_, vs, rfl, SqL.of g, ?_⟩
        have := r1.cut lo hi
        rw [cutL_eq] at this
        exact p.lst rh this
    · cases e
  · cases e

/-! ### a op= b -/
theorem no_tuple_iadd : typeLookup (.type "tuple") (dunderI "add") = pure none := by rw [typeLookup_type, builtinLookup_eq_fast]; kernel_rfl
theorem iop_catA : OpR X (inplaceOp .Add) (rCatN X.K) := by
  intro pins s σ H x y v u Q I rx ry h
  obtain ⟨a, b, xs, ys, rfl, rfl, ha, hb, hz, q0, q1, q2⟩ := h
  cases rx
  cases ry
  obtain ⟨its, r1, p1, _⟩ := I.tuple ha
  obtain ⟨its2, r2, p2, _⟩ := I.tuple hb
  obtain ⟨⟨cls, dd, data, sl⟩, ho, hc, n, hd⟩ := id p1
  obtain ⟨⟨cls2, dd2, data2, sl2⟩, ho2, hc2, n2, hd2⟩ := id p2
  simp only at hc hd hc2 hd2
  subst hc hd hc2 hd2
  refine wpAny_inplaceOp_concat (T := "tuple") ⟨_, ho, rfl⟩ ⟨_, ho2, rfl⟩ no_tuple_iadd noFill_tuple_add seq_tuple_add ?_
  have hl1 := r1.length
  have hl2 := r2.length
  by_cases hx : xs = []
  · refine call_meets PySem.F.slot_tuple_add ⟨_, ho, rfl⟩ PySem.F.entry_tuple_add (PySem.F.args_tuple_add_2 _ _) (tuple_addW0 a b its.toArray its2.toArray n n2 dd dd2 sl sl2 ?_) ⟨ho, ho2, ⟨.ref b, H, I, rfl, q0 hx⟩⟩
    subst hx
    cases r1
    rfl
  · have e1 : ¬ its.toArray.isEmpty = true := by
      cases its with
      | nil => cases r1; exact absurd rfl hx
      | cons z zs => simp
    by_cases hy : ys = []
    · refine call_meets PySem.F.slot_tuple_add ⟨_, ho, rfl⟩ PySem.F.entry_tuple_add (PySem.F.args_tuple_add_2 _ _) (tuple_addW1 a b its.toArray its2.toArray n n2 dd dd2 sl sl2 e1 ?_) ⟨ho, ho2, ⟨.ref a, H, I, rfl, q1 hx hy⟩⟩
      subst hy
      cases r2
      rfl
    · have e2 : ¬ its2.toArray.isEmpty = true := by
        cases its2 with
        | nil => cases r2; exact absurd rfl hy
        | cons z zs => simp
      refine call_meets PySem.F.slot_tuple_add ⟨_, ho, rfl⟩ PySem.F.entry_tuple_add (PySem.F.args_tuple_add_2 _ _) (tuple_addW2 a b its.toArray its2.toArray n n2 dd dd2 sl sl2 e1 e2 (by rw [List.size_toArray, List.size_toArray, ← hl1, ← hl2]; exact hz)) ⟨ho, ho2, ?_⟩
      have z1 := laidT I (r1.append r2) (by rw [List.length_append]; exact hz) (q2 hx hy)
      simpa using z1
end
end J
set_option maxRecDepth 100000
namespace J
open PySem L2 PyProof.Rows
section
variable {X : Cx}
/-! ### built-ins -/
def rJl (K : Fg) (f : LH → List W → Option (W × LH)) : List V → Hp → VK → Prop := fun xs H Q => ∃ ι h ws r h', RH K H ι h ∧ RWs K H ι xs ws ∧ f h ws = some (r, h') ∧ Post K ι H r h' Q
theorem CallR.mono {f : Value} {r r' : List V → Hp → VK → Prop} (h : CallR X f r) (m : ∀ xs H Q, r' xs H Q → r xs H Q) : CallR X f r' :=
  fun pins s σ H xs us Q I rx q => h pins s σ H xs us Q I rx (m _ _ _ q)
theorem RWs.one {K : Fg} {H : Hp} {ι : List Addr} {vs : List V} {w : W} (r : RWs K H ι vs [w]) : ∃ v, vs = [v] ∧ RW K H ι v w := by
  cases r with | cons a b => cases b; exact ⟨_, rfl, a⟩
theorem RWs.two {K : Fg} {H : Hp} {ι : List Addr} {vs : List V} {w w' : W} (r : RWs K H ι vs [w, w']) : ∃ v v', vs = [v, v'] ∧ RW K H ι v w ∧ RW K H ι v' w' := by
  cases r with | cons a b => cases b with | cons b c => cases c; exact ⟨_, _, rfl, a, b⟩
theorem len_J : CallR X (.builtin "len") (rJl X.K fun h ws => builtin h .len ws) := by
  refine CallR.mono call_len ?_
  rintro xs H Q ⟨ι, h, ws, r, h', rh, rw_, e, p⟩
  replace e : builtin h .len ws = some (r, h') := e
  unfold builtin at e
  split at e <;> first | cases e | skip
  all_goals (try contradiction)
  · obtain ⟨v, rfl, q⟩ := rw_.one
    cases q with | d q => cases q with | s q l => exact ⟨_, _, rfl, ⟨by rw [szl, q.len]; exact l, rfl⟩, by rw [q.len]; exact p.dat rh (.i _)⟩
  · split at e
    · cases e
      rename_i ws hi
      obtain ⟨v, rfl, q⟩ := rw_.one
      obtain ⟨a, vs, rfl, q, sq⟩ := items_sq rh q hi
      refine ⟨_, vs.length, rfl, ?_, by rw [q.length]; exact p.dat rh (.i _)⟩
      rcases sq with sq | sq
      · exact .inl ⟨_, sq, rfl⟩
      · exact .inr ⟨_, sq, rfl⟩
    · cases e
theorem allD_mapd : ∀ zs : List D, allD (zs.map W.d) = some zs
  | [] => rfl
  | z :: r => by rw [List.map_cons, allD, allD_mapd r]
theorem mapd_inj {xs ys : List D} (e : some xs = some ys) : xs = ys := Option.some.inj e
theorem items_t' {h : LH} {zs : List D} {ws : List W} {ds : List D} (e : items h (.d (.t zs)) = some ws) (hd : allD ws = some ds) : some ds = some zs := by
  cases (show some (zs.map W.d) = some ws from e)
  rw [← hd, allD_mapd]
theorem items_fl' {h : LH} {zs : List D} {ws : List W} {ds : List D} (e : items h (.d (.fl zs)) = some ws) (hd : allD ws = some ds) : some ds = some zs := by
  cases (show some (zs.map W.d) = some ws from e)
  rw [← hd, allD_mapd]
theorem tuple_J : CallR X (.type "tuple") (rJl X.K fun h ws => builtin h .tuple ws) := by
  refine CallR.mono call_tupleN ?_
  rintro xs H Q ⟨ι, h, ws, r, h', rh, rw_, e, p⟩
  replace e : builtin h .tuple ws = some (r, h') := e
  unfold builtin at e
  split at e <;> first | cases e | skip
  all_goals (try contradiction)
  split at e
  · rename_i ws hi
    unfold mkT at e
    split at e
    · rename_i ds hd
      split at e
      · cases e
        obtain ⟨v, rfl, q⟩ := rw_.one
        refine ⟨_, rfl, ?_⟩
        cases q with
        | d q => cases q with
          | t t1 q1 =>
            have : ds = _ := mapd_inj (items_t' hi hd)
            subst this
            exact .inr ⟨_, _, rfl, t1.t, p.dat rh (.t t1 q1)⟩
          | fl f1 q1 =>
            have : ds = _ := mapd_inj (items_fl' hi hd)
            subst this
            exact .inl ⟨_, _, rfl, f1.sq, p.tup rh q1⟩
          | _ => cases hi
        | l q =>
          obtain ⟨vs, g, q2, _⟩ := rh.of q (show h[_]? = some ws from hi)
          exact .inl ⟨_, vs, rfl, SqL.of g, p.tup rh (q2.allD hd)⟩
      · cases e
    · cases e
  · cases e
theorem list_J : CallR X (.type "list") (rJl X.K fun h ws => builtin h .list ws) := by
  refine CallR.mono call_list_of ?_
  rintro xs H Q ⟨ι, h, ws, r, h', rh, rw_, e, p⟩
  replace e : builtin h .list ws = some (r, h') := e
  unfold builtin at e
  split at e <;> first | cases e | skip
  all_goals (try contradiction)
  split at e
  · rename_i ws hi
    unfold new at e
    split at e
    · cases e
      obtain ⟨v, rfl, q⟩ := rw_.one
      obtain ⟨a, vs, rfl, q, sq⟩ := items_sq rh q hi
      exact ⟨_, vs, rfl, sq, p.lst rh q⟩
    · cases e
  · cases e
theorem int_J : CallR X (.type "int") (rJl X.K fun h ws => builtin h .int ws) := by
  refine CallR.mono call_int1 ?_
  rintro xs H Q ⟨ι, h, ws, r, h', rh, rw_, e, p⟩
  replace e : builtin h .int ws = some (r, h') := e
  unfold builtin at e
  split at e <;> first | cases e | skip
  all_goals (try contradiction)
  · obtain ⟨v, rfl, q⟩ := rw_.one
    cases q with | d q => cases q; exact .inl ⟨_, rfl, p.dat rh (.i _)⟩
  · obtain ⟨v, rfl, q⟩ := rw_.one
    cases q with | d q => cases q; exact .inr ⟨_, rfl, p.dat rh (.i _)⟩
theorem bool_J : CallR X (.type "bool") (rJl X.K fun h ws => builtin h .bool ws) := by
  refine CallR.mono call_bool1 ?_
  rintro xs H Q ⟨ι, h, ws, r, h', rh, rw_, e, p⟩
  replace e : builtin h .bool ws = some (r, h') := e
  unfold builtin bl at e
  split at e <;> first | cases e | skip
  all_goals (try contradiction)
  · obtain ⟨v, rfl, q⟩ := rw_.one
    cases q with | d q => cases q; exact .inl ⟨_, rfl, p.dat rh (.b _)⟩
  · obtain ⟨v, rfl, q⟩ := rw_.one
    cases q with | d q => cases q; exact .inr ⟨_, rfl, p.dat rh (.b _)⟩
theorem max2_J (hc : X.calm = true) : CallR X (.builtin "max") (rJl X.K fun h ws => builtin h .max2 ws) := by
  refine CallR.mono (call_max2 hc) ?_
  rintro xs H Q ⟨ι, h, ws, r, h', rh, rw_, e, p⟩
  replace e : builtin h .max2 ws = some (r, h') := e
  unfold builtin at e
  split at e <;> first | cases e | skip
  all_goals (try contradiction)
  obtain ⟨v, v', rfl, q, q'⟩ := rw_.two
  cases q with | d q => cases q; cases q' with | d q' => cases q'; exact ⟨_, _, rfl, p.dat rh (.i _)⟩
theorem min2_J (hc : X.calm = true) : CallR X (.builtin "min") (rJl X.K fun h ws => builtin h .min2 ws) := by
  refine CallR.mono (call_min2 hc) ?_
  rintro xs H Q ⟨ι, h, ws, r, h', rh, rw_, e, p⟩
  replace e : builtin h .min2 ws = some (r, h') := e
  unfold builtin at e
  split at e <;> first | cases e | skip
  all_goals (try contradiction)
  obtain ⟨v, v', rfl, q, q'⟩ := rw_.two
  cases q with | d q => cases q; cases q' with | d q' => cases q'; exact ⟨_, _, rfl, p.dat rh (.i _)⟩
theorem abs_J : CallR X (.builtin "abs") (rJl X.K fun h ws => builtin h .abs ws) := by
  refine CallR.mono call_abs ?_
  rintro xs H Q ⟨ι, h, ws, r, h', rh, rw_, e, p⟩
  replace e : builtin h .abs ws = some (r, h') := e
  unfold builtin at e
  split at e <;> first | cases e | skip
  all_goals (try contradiction)
  obtain ⟨v, rfl, q⟩ := rw_.one
  cases q with | d q => cases q; exact ⟨_, rfl, p.dat rh (.i _)⟩
theorem bools_map {K : Fg} {H : Hp} {ι : List Addr} : ∀ {vs : List V} {ws : List W} {bs : List Bool}, RWs K H ι vs ws → bools ws = some bs → vs = bs.map V.bl
  | _, _, bs, .nil, e => by simp [bools] at e; subst e; rfl
  | _, _, bs, .cons (w := .d (.b x)) (ws := ws) r t, e => by
    unfold bools at e
    cases q : bools ws with
    | none => rw [q] at e; cases e
    | some xs =>
      rw [q] at e; cases e
      cases r with | d r => cases r; rw [bools_map t q]; rfl
  | _, _, bs, .cons (w := .d .none) r t, e => by unfold bools at e; cases e
  | _, _, bs, .cons (w := .d (.i _)) r t, e => by unfold bools at e; cases e
  | _, _, bs, .cons (w := .d (.s _)) r t, e => by unfold bools at e; cases e
  | _, _, bs, .cons (w := .d (.t _)) r t, e => by unfold bools at e; cases e
  | _, _, bs, .cons (w := .d (.fl _)) r t, e => by unfold bools at e; cases e
  | _, _, bs, .cons (w := .l _) r t, e => by unfold bools at e; cases e
theorem all_J (hc : X.calm = true) : CallR X (.builtin "all") (rJl X.K fun h ws => builtin h .all ws) := by
  refine CallR.mono (cr_all hc) ?_
  rintro xs H Q ⟨ι, h, ws, r, h', rh, rw_, e, p⟩
  replace e : builtin h .all ws = some (r, h') := e
  unfold builtin bl at e
  split at e <;> first | cases e | skip
  all_goals (try contradiction)
  split at e
  · rename_i us hu
    split at e
    · rename_i bs hb
      cases e
      obtain ⟨v, rfl, q⟩ := rw_.one
      cases q with | l q =>
        obtain ⟨vs, g, r1, _⟩ := rh.of q hu
        exact ⟨_, bs, rfl, SqL.of (by rw [← bools_map r1 hb]; exact g), p.dat rh (.b _)⟩
    · cases e
  · cases e
theorem any_J (hc : X.calm = true) : CallR X (.builtin "any") (rJl X.K fun h ws => builtin h .any ws) := by
  refine CallR.mono (cr_any hc) ?_
  rintro xs H Q ⟨ι, h, ws, r, h', rh, rw_, e, p⟩
  replace e : builtin h .any ws = some (r, h') := e
  unfold builtin bl at e
  split at e <;> first | cases e | skip
  all_goals (try contradiction)
  split at e
  · rename_i us hu
    split at e
    · rename_i bs hb
      cases e
      obtain ⟨v, rfl, q⟩ := rw_.one
      cases q with | l q =>
        obtain ⟨vs, g, r1, _⟩ := rh.of q hu
        exact ⟨_, bs, rfl, SqL.of (by rw [← bools_map r1 hb]; exact g), p.dat rh (.b _)⟩
    · cases e
  · cases e

/-! ### isinstance -/
theorem RD.ty {K : Fg} {H : Hp} {v : V} {x : D} (r : RD K H v x) : ∃ T, TyX K H v (.type T) ∧ (T = "NoneType" ∧ x = .none ∨ T = "bool" ∧ (∃ b, x = .b b) ∨ T = "int" ∧ (∃ i, x = .i i) ∨ T = "str" ∧ (∃ s, x = .s s) ∨ T = "tuple" ∧ (∃ t, x = .t t) ∨ T = "list" ∧ ∃ t, x = .fl t) := by
  cases r with
  | non => exact ⟨_, .base .non, .inl ⟨rfl, rfl⟩⟩
  | b x => exact ⟨_, .base (.bl x), .inr (.inl ⟨rfl, _, rfl⟩)⟩
  | i x => exact ⟨_, .base (.int x), .inr (.inr (.inl ⟨rfl, _, rfl⟩))⟩
  | s e l => exact ⟨_, .base (.str _), .inr (.inr (.inr (.inl ⟨rfl, _, rfl⟩)))⟩
  | t h q =>
    refine ⟨"tuple", ?_, .inr (.inr (.inr (.inr (.inl ⟨rfl, _, rfl⟩))))⟩
    rcases h with ⟨o, h, _⟩ | ⟨o, its, n, hk, hc, _⟩
    · exact .fTuple h
    · exact .kTuple hk hc
  | fl h q =>
    refine ⟨"list", ?_, .inr (.inr (.inr (.inr (.inr ⟨rfl, _, rfl⟩))))⟩
    rcases h with ⟨o, h⟩ | ⟨o, its, n, hk, hc, _⟩
    · exact .base (.frz h)
    · exact .kList hk hc
theorem RW.ty {K : Fg} {H : Hp} {ι : List Addr} {h : LH} {v : V} {w : W} (rh : RH K H ι h) (r : RW K H ι v w) : ∃ T, TyX K H v (.type T) ∧ T ∈ ["NoneType", "bool", "int", "str", "tuple", "list"] ∧
    isIntW w = (T == "int" || T == "bool") ∧ isBoolW w = (T == "bool") ∧ isStrW w = (T == "str") ∧ isTupleW w = (T == "tuple") ∧ isListW w = (T == "list") := by
  cases r with
  | d r =>
    obtain ⟨T, h, c⟩ := r.ty
    refine ⟨T, h, ?_⟩
    rcases c with ⟨rfl, rfl⟩ | ⟨rfl, b, rfl⟩ | ⟨rfl, b, rfl⟩ | ⟨rfl, b, rfl⟩ | ⟨rfl, b, rfl⟩ | ⟨rfl, b, rfl⟩ <;> exact ⟨by decide, by rfl, by rfl, by rfl, by rfl, by rfl⟩
  | l r =>
    obtain ⟨vs, g⟩ := rh.mem (List.mem_of_getElem? r)
    exact ⟨"list", .base (.lst g), by decide, rfl, rfl, rfl, rfl, rfl⟩
def rIsJ (K : Fg) (T : String) (f : W → Bool) : List V → Hp → VK → Prop := fun xs H Q => ∃ ι h w x, RH K H ι h ∧ RW K H ι x w ∧ xs = [x, .ty T] ∧ Q (.bl (f w)) H
theorem isi_J {c : String} {f : W → Bool} (hk : ∀ (K : Fg) (H : Hp) (ι : List Addr) (h : LH) (v : V) (w : W), RH K H ι h → RW K H ι v w → ∃ t, TyX K H v t ∧ PySem.W.kitOne K t (.type c) = some (f w)) :
    CallR X (.builtin "isinstance") (rIsJ X.K c f) := by
  refine CallR.mono call_isi ?_
  rintro xs H Q ⟨ι, h, w, x, rh, rx, rfl, q⟩
  obtain ⟨t, ht, hk⟩ := hk _ _ _ _ _ _ rh rx
  exact ⟨_, _, _, _, _, rfl, .ty c, ht, hk, q⟩
theorem isInt_J : CallR X (.builtin "isinstance") (rIsJ X.K "int" isIntW) := isi_J fun K H ι h v w rh r => by
  obtain ⟨T, h, m, e1, e2, e3, e4, e5⟩ := r.ty rh
  refine ⟨_, h, ?_⟩
  rw [e1]
  simp only [List.mem_cons, List.not_mem_nil, or_false] at m
  rcases m with rfl | rfl | rfl | rfl | rfl | rfl <;> exact kit_ty (by decide +kernel)
theorem isBool_J : CallR X (.builtin "isinstance") (rIsJ X.K "bool" isBoolW) := isi_J fun K H ι h v w rh r => by
  obtain ⟨T, h, m, e1, e2, e3, e4, e5⟩ := r.ty rh
  refine ⟨_, h, ?_⟩
  rw [e2]
  simp only [List.mem_cons, List.not_mem_nil, or_false] at m
  rcases m with rfl | rfl | rfl | rfl | rfl | rfl <;> exact kit_ty (by decide +kernel)
theorem isStr_J : CallR X (.builtin "isinstance") (rIsJ X.K "str" isStrW) := isi_J fun K H ι h v w rh r => by
  obtain ⟨T, h, m, e1, e2, e3, e4, e5⟩ := r.ty rh
  refine ⟨_, h, ?_⟩
  rw [e3]
  simp only [List.mem_cons, List.not_mem_nil, or_false] at m
  rcases m with rfl | rfl | rfl | rfl | rfl | rfl <;> exact kit_ty (by decide +kernel)
theorem isTuple_J : CallR X (.builtin "isinstance") (rIsJ X.K "tuple" isTupleW) := isi_J fun K H ι h v w rh r => by
  obtain ⟨T, h, m, e1, e2, e3, e4, e5⟩ := r.ty rh
  refine ⟨_, h, ?_⟩
  rw [e4]
  simp only [List.mem_cons, List.not_mem_nil, or_false] at m
  rcases m with rfl | rfl | rfl | rfl | rfl | rfl <;> exact kit_ty (by decide +kernel)

/-! ### methods of lists -/
def rJm (K : Fg) (m : Me) : V → List V → Hp → VK → Prop := fun x xs H Q => ∃ ι h u ws r h', RH K H ι h ∧ RW K H ι x u ∧ RWs K H ι xs ws ∧ method h m u ws = some (r, h') ∧ Post K ι H r h' Q
theorem MtR.mono {id : String} {r r' : V → List V → Hp → VK → Prop} (h : MtR X id r) (m : ∀ x xs H Q, r' x xs H Q → r x xs H Q) : MtR X id r' :=
  fun pins s σ H x xs v us Q I rx rs q => h pins s σ H x xs v us Q I rx rs (m _ _ _ _ q)
theorem Post.wrote {K : Fg} {ι : List Addr} {H : Hp} {h : LH} {Q : VK} {a : Nat} {p : Addr} {vs : List V} {ws : List W} {v : V} {w : W} (q : Post K ι H w (h.set a ws) Q) (r : RH K H ι h) (ha : ι[a]? = some p) (rw_ : RWs K H ι vs ws) (ok : okAll a ws = true) (rv : RW K H ι v w) : Q v (upd H p (.lst vs)) := by
  obtain ⟨r', st⟩ := r.wrote ha rw_ ok
  exact q _ _ _ st r' (rv.mono st)
theorem okAll_append {a : Nat} : ∀ {xs ys : List W}, okAll a xs = true → okAll a ys = true → okAll a (xs ++ ys) = true
  | [], _, _, h => h
  | x :: xs, ys, h, h' => by
    unfold okAll at h
    rw [Bool.and_eq_true] at h
    show okAll a (x :: (xs ++ ys)) = true
    unfold okAll
    rw [h.1, okAll_append h.2 h']; rfl
theorem okAll_mem {a : Nat} : ∀ {xs : List W}, okAll a xs = true ↔ ∀ x ∈ xs, okIn a x = true
  | [] => by simp [okAll]
  | x :: xs => by
    unfold okAll
    rw [Bool.and_eq_true, okAll_mem]
    simp
theorem mt_appendJ : MtR X "list.append" (rJm X.K .append) := by
  refine MtR.mono mt_append ?_
  rintro x xs H Q ⟨ι, h, u, ws, r, h', rh, rx, rw_, e, p⟩
  unfold method at e
  split at e <;> first | cases e | skip
  all_goals (try contradiction)
  split at e
  · rename_i us hus
    split at e
    · cases e
      rename_i c
      obtain ⟨v, rfl, q⟩ := rw_.one
      cases rx with | l rx =>
        obtain ⟨vs, g, r1, ok⟩ := rh.of rx hus
        refine ⟨_, vs, v, rfl, rfl, g, by rw [szl, r1.length]; exact c.2, ?_⟩
        exact p.wrote rh rx (r1.append (.cons q .nil)) (okAll_append ok (by unfold okAll; rw [c.1]; rfl)) (.d .non)
    · cases e
  · cases e
theorem mt_extendJ : MtR X "list.extend" (rJm X.K .extend) := by
  refine MtR.mono mt_extend ?_
  rintro x xs H Q ⟨ι, h, u, ws, r, h', rh, rx, rw_, e, p⟩
  unfold method at e
  split at e <;> first | cases e | skip
  all_goals (try contradiction)
  split at e
  · rename_i us zs hus hzs
    split at e
    · cases e
      rename_i c
      obtain ⟨v, rfl, q⟩ := rw_.one
      cases rx with | l rx => cases q with | l q =>
        obtain ⟨vs, g, r1, ok⟩ := rh.of rx hus
        obtain ⟨vs', g', r1', ok'⟩ := rh.of q hzs
        refine ⟨_, _, vs, vs', rfl, rfl, g, g', by rw [szl, r1.length, r1'.length]; exact c.2, ?_⟩
        exact p.wrote rh rx (r1.append r1') (okAll_append ok c.1) (.d .non)
    · cases e
  · cases e
theorem mt_popJ : MtR X "list.pop" (rJm X.K .pop) := by
  refine MtR.mono mt_pop ?_
  rintro x xs H Q ⟨ι, h, u, ws, r, h', rh, rx, rw_, e, p⟩
  unfold method at e
  split at e <;> first | cases e | skip
  all_goals (try contradiction)
  split at e
  · rename_i us hus
    split at e
    · cases e
      rename_i hl
      cases rw_
      cases rx with | l rx =>
        obtain ⟨vs, g, r1, ok⟩ := rh.of rx hus
        obtain ⟨v, hv, q⟩ := r1.get (show us[us.length - 1]? = some _ from by rw [← List.getLast?_eq_getElem?]; exact hl)
        refine ⟨_, vs, v, rfl, rfl, g, by rw [r1.length]; exact hv, ?_⟩
        exact p.wrote rh rx r1.dropLast (okAll_mem.mpr fun z hz => okAll_mem.mp ok z ((List.dropLast_sublist _).subset hz)) q
    · cases e
  · cases e
theorem mt_reverseJ : MtR X "list.reverse" (rJm X.K .reverse) := by
  refine MtR.mono mt_reverse ?_
  rintro x xs H Q ⟨ι, h, u, ws, r, h', rh, rx, rw_, e, p⟩
  unfold method at e
  split at e <;> first | cases e | skip
  all_goals (try contradiction)
  split at e
  · cases e
    rename_i us hus
    cases rw_
    cases rx with | l rx =>
      obtain ⟨vs, g, r1, ok⟩ := rh.of rx hus
      refine ⟨_, vs, rfl, rfl, g, ?_⟩
      exact p.wrote rh rx r1.reverse (okAll_mem.mpr fun z hz => okAll_mem.mp ok z (List.mem_reverse.mp hz)) (.d .non)
  · cases e

/-! ### stores -/
def rJset (K : Fg) : TSet := fun o i v H Q => ∃ ι h u k w h', RH K H ι h ∧ RW K H ι o u ∧ RW K H ι i k ∧ RW K H ι v w ∧ setAt h u k w = some h' ∧ ∀ H' ι', Step ι H ι' H' → RH K H' ι' h' → Q H'
theorem PSet.mono {r r' : TSet} (h : PSet X r) (m : ∀ o i v H Q, r' o i v H Q → r o i v H Q) : PSet X r' := fun pins s σ H o i v ov iv u Q I r1 r2 r3 q => h pins s σ H o i v ov iv u Q I r1 r2 r3 (m _ _ _ _ _ q)
theorem set_J : PSet X (rJset X.K) := by
  refine PSet.mono set_list ?_
  rintro o i v H Q ⟨ι, h, u, k, w, h', rh, ro, ri, rv, e, q⟩
  unfold setAt at e
  split at e
  · rename_i a n
    split at e
    · rename_i ws hws
      split at e
      · rename_i j hj
        split at e
        · cases e
          rename_i ok
          cases ro with | l ro => cases ri with | d ri => cases ri with | i =>
            obtain ⟨vs, g, r1, ok1⟩ := rh.of ro hws
            refine ⟨_, vs, n, j, rfl, rfl, g, by rw [r1.length, ← ixN_eq]; exact hj, ?_⟩
            obtain ⟨r', st⟩ := rh.wrote ro (r1.set rv j) (okAll_mem.mpr fun z hz => by
              rcases List.mem_or_eq_of_mem_set hz with y | y
              · exact okAll_mem.mp ok1 z y
              · rw [y]; exact ok)
            exact q _ _ st r'
        · cases e
      · cases e
    · cases e
  · cases e

/-! ### a op= b -/
theorem iop_addJ : OpR X (inplaceOp .Add) (rJ2 X.K fun h u w => augop h .add u w) := by
  refine OpR.mono (OpR.or iop_add (OpR.or iop_catA (OpR.or iop_add_str iop_ext))) ?_
  rintro x y H Q ⟨ι, h, u, w, r, h', rh, rx, ry, e, p⟩
  replace e : augop h .add u w = some (r, h') := e
  unfold augop at e
  split at e <;> first | contradiction | skip
  · split at e
    · rename_i c
      split at e
      · rename_i us zs hus hzs
        split at e
        · cases e
          rename_i c
          cases rx with | l rx => cases ry with | l q =>
            obtain ⟨vs, g, r1, ok⟩ := rh.of rx hus
            obtain ⟨vs', g', r1', ok'⟩ := rh.of q hzs
            refine .inr (.inr (.inr ⟨_, _, vs, vs', rfl, rfl, g, g', by rw [szl, r1.length, r1'.length]; exact c.2, ?_⟩))
            exact p.wrote rh rx (r1.append r1') (okAll_append ok c.1) (.l rx)
        · cases e
      · cases e
    · cases e
  · rcases binop_add (K := X.K) e with ⟨a, b, he, rfl, rfl, rfl⟩ | ⟨xs, ys, he, rfl, z, rfl, rfl⟩ | ⟨a, b, he, rfl, z, rfl, rfl⟩ | ⟨a, c, xs, ys, he, _⟩
    · cases he; cases rx with | d rx => cases ry with | d ry => cases rx; cases ry; exact .inl ⟨_, _, rfl, rfl, p.dat rh (.i _)⟩
    · cases he
      cases rx with
      | d rx => cases ry with
        | d ry => cases rx with
          | @t a vs _ t1 q1 => cases ry with
            | @t b us _ t2 q2 =>
              refine .inr (.inl ⟨_, _, _, _, rfl, rfl, t1.t, t2.t, by rw [szl, q1.length, q2.length]; exact z, fun e => ?_, fun _ e => ?_, fun _ _ => ?_⟩)
              · subst e
                cases q1
                exact p.dat rh (.t t2 q2)
              · subst e
                cases q2
                rw [List.append_nil] at p
                exact p.dat rh (.t t1 q1)
              · exact p.tup rh (q1.append q2)
    · cases he; cases rx with | d rx => cases ry with | d ry => cases rx with | s e1 l1 => cases ry with | s e2 l2 => exact .inr (.inr (.inl ⟨_, _, rfl, rfl, by rw [szl, e1.len, e2.len]; exact z, p.dat rh (.s (e1.append e2) (by rw [String.length_append]; exact z))⟩))
    · cases he
theorem binop_sub {h : LH} {u w r : W} {h' : LH} (e : binop h .sub u w = some (r, h')) : ∃ x y, u = .d (.i x) ∧ w = .d (.i y) ∧ r = .d (.i (x - y)) ∧ h' = h := by
  unfold binop at e
  split at e <;> first | cases e | skip
  all_goals (try contradiction)
  exact ⟨_, _, rfl, rfl, rfl, rfl⟩
theorem iop_subJ : OpR X (inplaceOp .Sub) (rJ2 X.K fun h u w => augop h .sub u w) := by
  refine OpR.mono iop_sub ?_
  rintro x y H Q ⟨ι, h, u, w, r, h', rh, rx, ry, e, p⟩
  replace e : augop h .sub u w = some (r, h') := e
  unfold augop at e
  split at e <;> first | contradiction | skip
  obtain ⟨a, b, he, rfl, rfl, rfl⟩ := binop_sub e
  cases he
  cases rx with | d rx => cases ry with | d ry => cases rx; cases ry; exact ⟨_, _, rfl, rfl, p.dat rh (.i _)⟩
end
end J
set_option maxRecDepth 100000
set_option maxHeartbeats 4000000
namespace J
open PySem L2 PyProof.Rows
theorem tuple_mulSame (l : Addr) (items : Array Value) (n : Nat) (dd : Option Addr) (sl : Array (Option Value)) (x : Int) (u : Tok) (c0 : (decide (x < -(2 ^ 63)) || decide (x ≥ 2 ^ 63)) = false) (c1 : (items.isEmpty || x == 1) = true) :
    Meets (Builtin.«tuple.__mul__» ⟨[.ref l, .int x u], []⟩) (fun _ R s => s.heap.get? l = some { cls := .type "tuple", dict := dd, data := .seq items n, slots := sl } ∧
      R (.ok (.ret (Value.ref l))) s) :=
  .of_wp fun prog w A R s h => by
    obtain ⟨hp, g, d, tk, os⟩ := s
    obtain ⟨hl, h⟩ := h
    have f1 := AutoSeq1.idx_int
    wp_walk using wpAny_loadPart' hl
    repeat (first
      | (refine wpAny_ite_false (decide_eq_false (by rw [c0]; exact Bool.false_ne_true)) ?_; wp_walk using wpAny_loadPart' hl)
      | (refine wpAny_ite_true (decide_eq_true c1) ?_; wp_walk using wpAny_loadPart' hl))
    exact ⟨_, rfl, h⟩
theorem rep_eq {α : Type} (xs : List α) : ∀ n, rep xs n = (List.replicate n xs).flatten
  | 0 => rfl
  | n + 1 => by rw [List.replicate_succ, List.flatten_cons, ← rep_eq xs n]; rfl
theorem rep_nil {α : Type} : ∀ n, rep ([] : List α) n = []
  | 0 => rfl
  | n + 1 => by show [] ++ rep [] n = _; rw [rep_nil n]; rfl
theorem RDs.rep {K : Fg} {H : Hp} {vs : List V} {ds : List D} (r : RDs K H vs ds) : ∀ n : Nat, RDs K H (rep vs n) (rep ds n)
  | 0 => .nil
  | n + 1 => RDs.append r (RDs.rep r n)
section
variable {X : Cx}
def rRepS (K : Fg) : R2 := fun x y H Q => ∃ l k xs, x = .ref l ∧ y = .int k ∧ SqT K H l xs ∧ (xs = [] ∨ k = 1) ∧ 1 ≤ k ∧ k ≤ 1000 ∧ Q (.ref l) H
theorem op_repS : OpR X (binaryOp .Mult) (rRepS X.K) := by
  intro pins s σ H x y v u Q I rx ry h
  obtain ⟨l, k, xs, rfl, rfl, hT, hk, h1, h2, q⟩ := h
  cases rx
  obtain ⟨t, rfl⟩ := ry
  obtain ⟨its, r, ⟨⟨cls, dd, data, sl⟩, ho, hc, n, hd⟩, hs⟩ := I.tuple hT
  simp only at hc hd
  subst hc hd
  have c0 : (decide (k < -(2 ^ 63)) || decide (k ≥ 2 ^ 63)) = false := by
    rw [decide_eq_false (by omega), decide_eq_false (by omega)] <;> rfl
  have c1 : (its.toArray.isEmpty || k == 1) = true := by
    rcases hk with rfl | rfl
    · cases r; rfl
    · rw [beq_self_eq_true, Bool.or_true]
  refine wpAny_binaryOp_repeat_ref (T := "tuple") (U := "int") (by decide) ⟨_, ho, rfl⟩ (fun s' => typeIs_int s' k t) noFill_tuple_mul PySem.F.fills_int_mul PySem.F.slot_int_rmul repeat_tuple PySem.F.slot_int_index.lookup
    (call_meets PySem.F.slot_int_rmul (typeIs_int s k t) PySem.F.entry_int_rmul (PySem.F.args_int_rmul_2 _ _) (int_rmul_tuple k t l its.toArray n dd sl)
      ⟨ho, rfl, ⟨_, ho, rfl⟩, call_meets PySem.F.slot_tuple_mul ⟨_, ho, rfl⟩ PySem.F.entry_tuple_mul (PySem.F.args_tuple_mul_2 _ _) (tuple_mulSame l its.toArray n dd sl k t c0 c1) ⟨ho, ?_⟩⟩)
  exact ⟨.ref l, H, I, rfl, q⟩
theorem binop_mul {h : LH} {u w r : W} {h' : LH} (e : binop h .mul u w = some (r, h')) :
    (∃ x y, u = .d (.i x) ∧ w = .d (.i y) ∧ CMul x y ∧ r = .d (.i (x * y)) ∧ h' = h) ∨
    (∃ xs n, u = .d (.t xs) ∧ w = .d (.i n) ∧ xs.length ≤ 1000 ∧ 1 ≤ n ∧ n ≤ 1000 ∧ r = .d (.t (rep xs n.toNat)) ∧ h' = h) ∨
    (∃ a n xs, u = .l a ∧ w = .d (.i n) ∧ h[a]? = some xs ∧ xs.length * n.toNat ≤ SZ ∧ -SZ ≤ n ∧ n ≤ SZ ∧ r = .l h.length ∧ h' = h ++ [rep xs n.toNat]) := by
  unfold binop at e
  split at e <;> first | cases e | skip
  all_goals (try contradiction)
  · split at e
    · cases e; exact .inl ⟨_, _, rfl, rfl, by assumption, rfl, rfl⟩
    · cases e
  · split at e
    · cases e; rename_i c; exact .inr (.inl ⟨_, _, rfl, rfl, c.1, c.2.1, c.2.2, rfl, rfl⟩)
    · cases e
  · split at e
    · split at e
      · cases e; rename_i c; exact .inr (.inr ⟨_, _, _, rfl, rfl, by assumption, c.1, c.2.1, c.2.2, rfl, rfl⟩)
      · cases e
    · cases e
theorem op_mulJ : OpR X (binaryOp .Mult) (rJ2 X.K fun h u w => binop h .mul u w) := by
  refine OpR.mono (OpR.or op_mul (OpR.or op_repN (OpR.or op_repS op_rep))) ?_
  rintro x y H Q ⟨ι, h, u, w, r, h', rh, rx, ry, e, p⟩
  rcases binop_mul e with ⟨a, b, rfl, rfl, c, rfl, rfl⟩ | ⟨xs, n, rfl, rfl, c1, c2, c3, rfl, rfl⟩ | ⟨a, n, xs, rfl, rfl, ha, c1, c2, c3, rfl, rfl⟩
  · cases rx with | d rx => cases ry with | d ry => cases rx; cases ry; exact .inl ⟨_, _, rfl, rfl, c, p.dat rh (.i _)⟩
  · cases rx with | d rx => cases ry with | d ry => cases ry; cases rx with
      | @t a vs _ t1 q1 =>
        by_cases hs : vs = [] ∨ n = 1
        · refine .inr (.inr (.inl ⟨a, n, vs, rfl, rfl, t1.t, hs, c2, c3, p.dat rh (.t t1 ?_)⟩))
          rcases hs with rfl | rfl
          · cases q1; rw [rep_nil]; exact .nil
          · show RDs X.K H vs (xs ++ [])
            rw [List.append_nil]; exact q1
        · refine .inr (.inl ⟨a, n, vs, rfl, rfl, t1.t, fun e => hs (.inl e), ?_, c3, by rw [q1.length]; exact c1, ?_⟩)
          · rcases Int.lt_or_eq_of_le c2 with z | z
            · omega
            · exact absurd (.inr z.symm) hs
          · rw [← rep_eq]
            exact p.tup rh (RDs.rep q1 _)
  · cases rx with | l rx => cases ry with | d ry => cases ry with
      | i =>
        obtain ⟨vs, g, r1, ok⟩ := rh.of rx ha
        refine .inr (.inr (.inr ?_))
        have hp := p.lst rh (r1.rep n.toNat)
        rw [rep_eq] at hp
        refine ⟨_, n, vs, rfl, rfl, g, ?_, ?_, ?_, hp⟩ <;> first | (rw [szl, r1.length]; exact c1) | (have z : ((SZ : Nat) : Int) = 16777216 := rfl; omega)
theorem op_binJ : ∀ op : BOp, OpR X (binaryOp (match op with | .add => .Add | .sub => .Sub | .mul => .Mult | .fdiv => .FloorDiv | .mod => .Mod | .pow => .Pow)) (rJ2 X.K fun h u w => binop h op u w)
  | .add => op_addJ
  | .sub => op_subJ
  | .mul => op_mulJ
  | .fdiv => op_fdivJ
  | .mod => op_modJ
  | .pow => op_powJ
theorem op_isbJ : OpR X (compareOp .Is) (rJc X.K fun h u w => cmpop h .isb u w) := by
  refine OpR.mono op_isBl ?_
  rintro x y H Q ⟨ι, h, u, w, b, rh, rx, ry, e, q⟩
  dsimp only at e
  unfold cmpop at e
  split at e <;> first | cases e | skip
  all_goals (try contradiction)
  cases rx with | d rx => cases ry with | d ry => cases rx; cases ry; exact ⟨_, _, rfl, rfl, q⟩
theorem op_nisbJ : OpR X (compareOp .IsNot) (rJc X.K fun h u w => cmpop h .nisb u w) := by
  refine OpR.mono op_notBl ?_
  rintro x y H Q ⟨ι, h, u, w, b, rh, rx, ry, e, q⟩
  dsimp only at e
  unfold cmpop at e
  split at e <;> first | cases e | skip
  all_goals (try contradiction)
  cases rx with | d rx => cases ry with | d ry => cases rx; cases ry; exact ⟨_, _, rfl, rfl, q⟩
theorem op_cmpJ (hu : X.A.units + 70 < cLine) : ∀ op : COp, OpR X (compareOp (match op with | .lt => .Lt | .le => .LtE | .gt => .Gt | .ge => .GtE | .eq => .Eq | .ne => .NotEq | .isin => .In | .nin => .NotIn | .isb => .Is | .nisb => .IsNot)) (rJc X.K fun h u w => cmpop h op u w)
  | .lt => op_ltJ
  | .le => op_leJ
  | .gt => op_gtJ
  | .ge => op_geJ
  | .eq => op_eqJ (by omega)
  | .ne => op_neJ (by omega)
  | .isin => op_inJ hu
  | .nin => op_ninJ hu
  | .isb => op_isbJ
  | .nisb => op_nisbJ
end
end J
set_option maxRecDepth 100000
/-! index; lists and tuples of ranges. -/
namespace J
open PySem L2 PyProof.Rows
theorem pdL_get : ∀ (xs : List D) (m : Nat), (pdL xs)[m]? = (xs[m]?).map pd
  | [], m => rfl
  | x :: r, 0 => rfl
  | x :: r, m + 1 => by
    show (pdL r)[m]? = (r[m]?).map pd
    exact pdL_get r m
theorem method_index {h : LH} {u : W} {ws : List W} {r : W} {h' : LH} (e : method h .index u ws = some (r, h')) : ∃ us xs x k, items h u = some us ∧ allD us = some xs ∧ ws = [.d x] ∧ depth x ≤ 64 ∧ xs.findIdx? (fun z => eqv z x) = some k ∧ r = .d (.i k) ∧ h' = h := by
  unfold method at e
  split at e <;> first | cases e | skip
  all_goals (try contradiction)
  split at e
  · rename_i hi
    split at e
    · rename_i ha
      split at e
      · rename_i hd
        split at e
        · cases e
          exact ⟨_, _, _, _, hi, ha, rfl, hd, by assumption, rfl, rfl⟩
        · cases e
      · cases e
    · cases e
  · cases e
section
variable {X : Cx}
def rJmT (K : Fg) : V → List V → Hp → VK → Prop := fun x xs H Q => ∃ ι h zs ws r h', RH K H ι h ∧ RW K H ι x (.d (.t zs)) ∧ RWs K H ι xs ws ∧ method h .index (.d (.t zs)) ws = some (r, h') ∧ Post K ι H r h' Q
def rJmL (K : Fg) : V → List V → Hp → VK → Prop := fun x xs H Q => ∃ ι h u ws r h', RH K H ι h ∧ (∀ zs, u ≠ .d (.t zs)) ∧ RW K H ι x u ∧ RWs K H ι xs ws ∧ method h .index u ws = some (r, h') ∧ Post K ι H r h' Q
theorem mt_tindexJ (hu : X.A.units + 70 < cLine) : MtR X "tuple.index" (rJmT X.K) := by
  intro pins s σ H x xs v us Q I rx rs h
  obtain ⟨ι, hh, zs, ws, r, h', rh, qx, qs, e, fin⟩ := h
  obtain ⟨us', ds, z, k, hi, ha, rfl, hd, hf, rfl, rfl⟩ := method_index e
  have e1 : us' = zs.map .d := Option.some.inj (hi.symm.trans rfl)
  subst e1
  have e2 : ds = zs := by
    have : allD (zs.map W.d) = some zs := by
      clear hi ha hf e qx
      induction zs with
      | nil => rfl
      | cons x r ih => rw [List.map_cons, allD, ih]
    rw [this] at ha; exact (Option.some.inj ha).symm
  subst e2
  cases qs with | cons qy qt =>
    cases qt
    cases rs with | cons ry rt =>
      cases rt
      cases qy with | d qy =>
        cases qx with | d qx => cases qx with
          | t sq q1 =>
            cases rx
            obtain ⟨its, rv, ⟨⟨cls, dd, dt, sl⟩, ho, hc, n, hdt⟩, hz⟩ := I.tuple sq.t
            simp only at hc hdt
            subst hc hdt
            obtain ⟨bs, r1⟩ := Dp.reads I (pd z) _ _ qy.dp ry
            obtain ⟨as, r2⟩ := Dp.readsAll I (pdL ds) _ its q1.dp rv
            have hm := SeqAt.readsAll_map (pdL ds) its as (pdL_lay ds) r2
            obtain ⟨hk, hk1, hk2⟩ := List.findIdx?_eq_some_iff_getElem.mp hf
            have at_ : ∀ (m : Nat) (h1 : m < its.toArray.size) (h2 : m < ds.length), PyData.eqv (SeqAt.readOf s.heap its.toArray[m]) (pd z) = eqv ds[m] z := by
              intro m h1 h2
              have e3 := congrArg (fun l : List PyData => l[m]?) hm
              simp only [pdL_get, List.getElem?_map, List.getElem?_eq_getElem h2, List.getElem?_eq_getElem (show m < its.length by simpa using h1), Option.map_some] at e3
              have e4 : SeqAt.readOf s.heap its[m] = pd ds[m] := Option.some.inj e3
              rw [← pd_eqv, ← e4]; simp
            have hn : its.length = ds.length := by rw [← rv.length]; exact q1.length
            have hj : k < its.toArray.size := by simpa [hn] using hk
            have room : X.A.units + 1 + min (PyData.depthAll (pdL ds)) (pd z).depth < cLine := by
              have : (pd z).depth ≤ 64 := by rw [pd_depth]; exact hd
              omega
            refine call_meets PySem.F.slot_tuple_index ⟨_, ho, rfl⟩ PySem.F.entry_tuple_index (PySem.F.args_tuple_index_2 _ _) (TI.tuple_indexAt _ its.toArray n dd sl _ (fun y => PyData.eqv (SeqAt.readOf s.heap y) (pd z)) k hj (by rw [at_ k hj hk]; exact hk1) (fun m h1 h2 => by
              rw [at_ m h1 (by omega)]
              have := hk2 m h2
              simpa using this)) ⟨ho, SeqAt.items_eqAt (vs := its.toArray) (by simpa using r2) r1 (pdL_lay ds) (pd_lay z) room, ?_⟩
            exact ⟨.int (k : Nat), H, I.tok _, ⟨_, rfl⟩, fin.dat rh (.i _)⟩
/-- a tuple's method, given one argument -/
theorem tupIs {pins : List (Addr × Obj)} {s : Shared} {σ : L2.St} {H : Hp} {p : Addr} {ys : List V} (I : Inv X pins σ H s) (h : SqN X.K H p ys) : s.TypeIs (.ref p) "tuple" ∧ ∀ a, Value.ref p = .ref a → ∃ ob, s.heap.get? a = some ob ∧ ob.dict = none := by
  rcases h with ⟨o, h, d⟩ | ⟨o, its, n, hk, hc, d, _⟩
  · obtain ⟨g, _, _, _, o', g', c, _⟩ := I.hok p _ h
    rw [g] at g'; cases g'
    exact ⟨⟨o, g, c⟩, fun a e => by cases e; exact ⟨o, g, d⟩⟩
  · have g := I.kIn p o hk
    exact ⟨⟨o, g, hc⟩, fun a e => by cases e; exact ⟨o, g, d⟩⟩
def tTM (K : Fg) (r : V → List V → Hp → VK → Prop) (to : TE) (t : TA) : TE := fun σ H Q => to σ H fun x H1 => (∃ p ys, x = .ref p ∧ SqN K H1 p ys) ∧ t σ H1 fun xs H2 => r x xs H2 Q
theorem pe_tm {name : Str} {id : String} {r : V → List V → Hp → VK → Prop} {o e : Expr} {to : TE} {t : TA} {apos cpos : Pos} (slot : Slot "tuple" name id) (hty : typeOf (.builtin id) = pure (.type "method_descriptor")) (hm : MtR X id r) (ho : PE X o to) (ha : PA X [e] t) (base : attributeBase o name X.env (eval o X.env) = eval o X.env) (line : (apos.endLine == cpos.line) = true)
    (one : starEach [e] X.env = (false, eval e X.env) :: starEach [] X.env) : PE X (.Call (.Attribute o name apos) [e] [] cpos) (tTM X.K r to t) := by
  refine ⟨fun pins s σ H Q I h => wpAny_Call_method_late base (by rw [one]; rfl) line rfl (thn (ho.run pins s σ H _ I h) fun v s1 hv => ?_)⟩
  obtain ⟨x, H1, I1, r1, ⟨p, ys, rfl, ty⟩, q1⟩ := hv
  cases r1
  obtain ⟨h1, h2⟩ := tupIs I1 ty
  have hA := ha.run cpos pins s1 σ H1 _ I1 q1
  rw [one] at hA ⊢
  exact ⟨"tuple", id, PySem.F.plainAttrs_tuple, slot, hty, h1, h2, Calls.callWith_builtin rfl (Calls.evalArgs_plain (thn hA fun us s2 ⟨vs, H2, I2, r2, q2⟩ => hm pins s2 σ H2 (.ref p) vs _ us Q I2 (show L2.RelV (.ref p) (.ref p) from rfl) r2 q2))⟩
theorem items_sqL {K : Fg} {H : Hp} {ι : List Addr} {h : LH} {v : V} {w : W} {ws : List W} (rh : RH K H ι h) (r : RW K H ι v w) (e : items h w = some ws) (hn : ∀ zs, w ≠ .d (.t zs)) : ∃ a vs, v = .ref a ∧ RWs K H ι vs ws ∧ SqL K H a vs := by
  unfold items at e
  split at e
  · exact absurd rfl (hn _)
  · cases e
    cases r with | d r => cases r with | fl f1 q1 => exact ⟨_, _, rfl, .data q1, f1.sq⟩
  · cases r with | l r =>
      obtain ⟨vs, g, q, _⟩ := rh.of r e
      exact ⟨_, _, rfl, q, SqL.of g⟩
  · cases e
theorem mt_lindexJ (hu : X.A.units + 70 < cLine) : MtR X "list.index" (rJmL X.K) := by
  intro pins s σ H x xs v us Q I rx rs h
  obtain ⟨ι, hh, u, ws, r, h', rh, hnt, qx, qs, e, fin⟩ := h
  obtain ⟨us', ds, z, k, hi, ha, rfl, hd, hf, rfl, rfl⟩ := method_index e
  obtain ⟨p, vs, rfl, q0, sq⟩ := items_sqL rh qx hi hnt
  have q1 := q0.allD ha
  cases qs with | cons qy qt =>
    cases qt
    cases rs with | cons ry rt =>
      cases rt
      cases qy with | d qy =>
            cases rx
            obtain ⟨its, rv, ⟨⟨cls, dd, dt, sl⟩, n, ho, hc, hdn, hdt⟩, hz⟩ := I.list sq
            simp only at hc hdt
            subst hc hdt
            obtain ⟨bs, r1⟩ := Dp.reads I (pd z) _ _ qy.dp ry
            obtain ⟨as, r2⟩ := Dp.readsAll I (pdL ds) _ its q1.dp rv
            have hm := SeqAt.readsAll_map (pdL ds) its as (pdL_lay ds) r2
            obtain ⟨hk, hk1, hk2⟩ := List.findIdx?_eq_some_iff_getElem.mp hf
            have at_ : ∀ (m : Nat) (h1 : m < its.toArray.size) (h2 : m < ds.length), PyData.eqv (SeqAt.readOf s.heap its.toArray[m]) (pd z) = eqv ds[m] z := by
              intro m h1 h2
              have e3 := congrArg (fun l : List PyData => l[m]?) hm
              simp only [pdL_get, List.getElem?_map, List.getElem?_eq_getElem h2, List.getElem?_eq_getElem (show m < its.length by simpa using h1), Option.map_some] at e3
              have e4 : SeqAt.readOf s.heap its[m] = pd ds[m] := Option.some.inj e3
              rw [← pd_eqv, ← e4]; simp
            have hn : its.length = ds.length := by rw [← rv.length]; exact q1.length
            have hj : k < its.toArray.size := by simpa [hn] using hk
            have room : X.A.units + 1 + min (PyData.depthAll (pdL ds)) (pd z).depth < cLine := by
              have : (pd z).depth ≤ 64 := by rw [pd_depth]; exact hd
              omega
            have szl2 := sizeLine_eq
            have hlen := q1.length
            refine call_meets PySem.F.slot_list_index ⟨_, ho, rfl⟩ PySem.F.entry_list_index (PySem.F.args_list_index_2 _ _) (SeqAt.list_indexAt _ its.toArray n dd sl _ (fun y => PyData.eqv (SeqAt.readOf s.heap y) (pd z)) k hj (by omega) (by rw [at_ k hj hk]; exact hk1) (fun m h1 h2 => by
              rw [at_ m h1 (by omega)]
              have := hk2 m h2
              simpa using this)) ⟨ho, SeqAt.items_eqAt (vs := its.toArray) (by simpa using r2) r1 (pdL_lay ds) (pd_lay z) room, ?_⟩
            exact ⟨.int (k : Nat), H, I.tok _, ⟨_, rfl⟩, fin.dat rh (.i _)⟩
end
end J
set_option maxRecDepth 100000
/-! sorted, sum, max and min of ints. -/
namespace JRaw
open PySem PySem.Spec L2 PyProof.Rows
section
variable {prog : Program} {w : World} {A : Around} {E : Value → Shared → Prop} {s : Shared}
theorem collect_tup {l : Addr} {vs : List Value} {o : Obj} {n : Nat} {Q : List Value → Shared → Prop} (ho : s.heap.get? l = some o) (hc : o.cls = .type "tuple") (hd : o.data = .seq vs.toArray n)
    (h : Q vs { s with heap := (s.heap.push (seqObj "list" #[] 0)).update s.heap.objs.size (Obj.mapSeq (· ++ vs.toArray)) }) (hsz : vs.length ≤ sizeLine) :
    wpAny (model prog w) A (collect (.ref l)) Q E s := by
  unfold collect
  refine wpAny_bind (wpAny_runValue (codeAny_builtin entry_proto_collect' ?_))
  show wpAny _ _ (do again (.builtin "list.__iadd__" ⟨[← newList [], .ref l], []⟩)) _ _ s
  refine wpAny_bind (wpAny_newList (wpAny_pure ⟨Code.quiet_builtin _ (by decide +kernel), codeAny_builtin entry_list_iadd' ?_⟩))
  show wpAny _ _ (Builtin.List.listExtendWith (.ref s.heap.objs.size) (.ref l) (.ref s.heap.objs.size)) _ _ { s with heap := s.heap.push (seqObj "list" #[] 0) }
  unfold Builtin.List.listExtendWith
  have ho' : (s.heap.push (seqObj "list" #[] 0)).get? l = some o := Heap.get?_push_of_some _ ho
  refine wpAny_bind (wpAny_typeOf (T := "tuple") ⟨o, ho', hc⟩ ?_)
  have ht : (Value.type "tuple" == Value.type "tuple") = true := by rfl
  rw [if_pos (by rw [ht]; simp)]
  refine wpAny_bind (listItems_at ho' hd ?_)
  refine wpAny_bind (listItems_at (xs := #[]) (n := 0) (Heap.get?_push_size _ rfl) rfl ?_)
  rw [if_neg (by simp)]
  refine wpAny_bind (listUpdate_at (xs := #[]) (n := 0) (Heap.get?_push_size _ rfl) rfl ?_ (Nat.zero_le _) (by show (#[] ++ vs.toArray).size ≤ sizeLine + 1; simp only [Array.size_append, List.size_toArray, List.length_nil]; omega))
  refine wpAny_pure ?_
  show wpAny (model prog w) A (do
      let o ← load s.heap.objs.size
      match o.data with
      | .seq xs _ => pure xs.toList
      | _ => unsupported "internal:collect") Q E { s with heap := (s.heap.push (seqObj "list" #[] 0)).update s.heap.objs.size (Obj.mapSeq (· ++ vs.toArray)) }
  refine wpAny_bind (wpAny_load (get?_update_seq (Heap.get?_push_size _ rfl) _) ?_)
  show wpAny _ _ (pure ((#[] : Array Value) ++ vs.toArray).toList) Q E _
  rw [show ((#[] : Array Value) ++ vs.toArray).toList = vs by simp]
  exact wpAny_pure h
open Srt SrtO in
theorem sorted_ord_t {l : Addr} {vs : List Value} {o : Obj} {n : Nat} {ltv : Value → Value → Bool} {Q : Value → Shared → Prop} (O : Swo ltv) (ho : s.heap.get? l = some o) (hc : o.cls = .type "tuple") (hd : o.data = .seq vs.toArray n) (hz : vs.length ≤ sizeLine)
    (hS : 2 ≤ vs.length → ∀ (h₁ : Heap) (a : Addr), h₁.get? a = some (seqObj "list" vs.toArray 0) → (∀ b o, s.heap.get? b = some o → b ≠ a ∧ h₁.get? b = some o) → SortableO prog w A.in1.in1 { s with heap := h₁ } a vs ltv)
    (h : ∀ out : List Value, Srtd ltv out → Stb ltv out vs → Q (.ref (s.heap.objs.size + 1)) { s with heap := sortedAll s.heap vs out.toArray }) :
    wpAny (model prog w) A (call (.builtin "sorted") [.ref l]) Q E s := by
  refine Calls.call_function_entry kind_sorted plain_sorted entry_sorted (args_sorted1 _) ?_
  unfold Builtin.«sorted»
  refine wpAny_bind (m := checkCount "sorted" 1 1 _) (wpAny_pure ?_)
  refine wpAny_bind (collect_tup ho hc hd ?_ hz)
  refine wpAny_bind (wpAny_newList ?_ hz)
  have hsz : ((s.heap.push (seqObj "list" #[] 0)).update s.heap.objs.size (Obj.mapSeq (· ++ vs.toArray))).objs.size = s.heap.objs.size + 1 := by
    rw [Heap.size_update, size_push']
  have hoL : (((s.heap.push (seqObj "list" #[] 0)).update s.heap.objs.size (Obj.mapSeq (· ++ vs.toArray))).push (seqObj "list" vs.toArray 0)).get? (s.heap.objs.size + 1) = some (seqObj "list" vs.toArray 0) := by
    rw [← hsz]; exact Heap.get?_push_size _ rfl
  have keep : ∀ b o, s.heap.get? b = some o → b ≠ s.heap.objs.size + 1 ∧ (((s.heap.push (seqObj "list" #[] 0)).update s.heap.objs.size (Obj.mapSeq (· ++ vs.toArray))).push (seqObj "list" vs.toArray 0)).get? b = some o := fun b o q => by
    have hlt : b < s.heap.objs.size := Heap.lt_size q
    refine ⟨Nat.ne_of_lt (Nat.lt_succ_of_lt hlt), Heap.get?_push_of_some _ ?_⟩
    rw [Heap.get?_update_ne _ _ _ _ (Nat.ne_of_lt hlt)]
    exact Heap.get?_push_of_some _ q
  show wpAny _ _ _ _ _ { s with heap := ((s.heap.push (seqObj "list" #[] 0)).update s.heap.objs.size (Obj.mapSeq (· ++ vs.toArray))).push (seqObj "list" vs.toArray 0) }
  rw [hsz]
  refine wpAny_bind (wpAny_holding (wpAny_call_entry slot_list_sort ⟨_, hoL, rfl⟩ entry_list_sort (list_sort_ord O hoL hz (fun h2 => hS h2 _ _ hoL keep) fun out hs hb => ⟨_, rfl, ?_⟩) (args_list_sort _)))
  exact wpAny_pure ⟨_, rfl, h out hs hb⟩
end
end JRaw
namespace J
open PySem PySem.Spec L2 PyProof.Rows
theorem perm_sorted_eq : ∀ {xs ys : List Int}, xs.Perm ys → xs.Pairwise (· ≤ ·) → ys.Pairwise (· ≤ ·) → xs = ys
  | [], ys, h, _, _ => (List.nil_perm.mp h).symm
  | x :: xs, [], h, _, _ => by have := h.length_eq; simp at this
  | x :: xs, y :: ys, h, hx, hy => by
    have h1 := List.pairwise_cons.1 hx
    have h2 := List.pairwise_cons.1 hy
    have e1 : x ∈ y :: ys := h.mem_iff.1 (by simp)
    have e2 : y ∈ x :: xs := h.mem_iff.2 (by simp)
    have l1 : x ≤ y := by
      rcases List.mem_cons.1 e2 with e | e
      · omega
      · exact h1.1 y e
    have l2 : y ≤ x := by
      rcases List.mem_cons.1 e1 with e | e
      · omega
      · exact h2.1 x e
    have : x = y := by omega
    subst this
    rw [perm_sorted_eq ((List.perm_cons x).1 h) h1.2 h2.2]
theorem insJ_perm (x : Int) : ∀ ys : List Int, (insJ x ys).Perm (x :: ys)
  | [] => .refl _
  | y :: r => by
    unfold insJ
    split
    · exact .refl _
    · exact ((insJ_perm x r).cons y).trans (.swap x y r)
theorem insJ_mem {x z : Int} {ys : List Int} (h : z ∈ insJ x ys) : z = x ∨ z ∈ ys := by
  have := (insJ_perm x ys).mem_iff.1 h
  simpa using this
theorem insJ_sorted (x : Int) : ∀ {ys : List Int}, ys.Pairwise (· ≤ ·) → (insJ x ys).Pairwise (· ≤ ·)
  | [], _ => by simp [insJ]
  | y :: r, h => by
    have h1 := List.pairwise_cons.1 h
    unfold insJ
    split
    · rename_i hxy
      refine List.pairwise_cons.2 ⟨fun z hz => ?_, h⟩
      rcases List.mem_cons.1 hz with e | e
      · omega
      · have := h1.1 z e; omega
    · rename_i hxy
      refine List.pairwise_cons.2 ⟨fun z hz => ?_, insJ_sorted x h1.2⟩
      rcases insJ_mem hz with e | e
      · omega
      · exact h1.1 z e
theorem sortJ_perm : ∀ xs : List Int, (sortJ xs).Perm xs
  | [] => .refl _
  | x :: r => (insJ_perm x _).trans ((sortJ_perm r).cons x)
theorem sortJ_sorted : ∀ xs : List Int, (sortJ xs).Pairwise (· ≤ ·)
  | [] => .nil
  | x :: r => insJ_sorted x (sortJ_sorted r)
section
variable {X : Cx}
theorem intsL_map {K : Fg} {H : Hp} {ι : List Addr} : ∀ {vs : List V} {ws : List W} {ns : List Int}, RWs K H ι vs ws → intsL ws = some ns → vs = ns.map V.int
  | _, _, ns, .nil, e => by simp [intsL] at e; subst e; rfl
  | _, _, ns, .cons (w := .d (.i x)) (ws := ws) r t, e => by
    unfold intsL at e
    cases q : intsL ws with
    | none => rw [q] at e; cases e
    | some xs =>
      rw [q] at e; cases e
      cases r with | d r => cases r; rw [intsL_map t q]; rfl
  | _, _, ns, .cons (w := .d .none) r t, e => by unfold intsL at e; cases e
  | _, _, ns, .cons (w := .d (.b _)) r t, e => by unfold intsL at e; cases e
  | _, _, ns, .cons (w := .d (.s _)) r t, e => by unfold intsL at e; cases e
  | _, _, ns, .cons (w := .d (.t _)) r t, e => by unfold intsL at e; cases e
  | _, _, ns, .cons (w := .d (.fl _)) r t, e => by unfold intsL at e; cases e
  | _, _, ns, .cons (w := .l _) r t, e => by unfold intsL at e; cases e
theorem ints_rws {K : Fg} {H : Hp} {ι : List Addr} : ∀ ns : List Int, RWs K H ι (ns.map V.int) (ns.map fun x => W.d (.i x))
  | [] => .nil
  | n :: r => .cons (.d (.i n)) (ints_rws r)
def rSortedLT (K : PySem.W.Frag) : List V → Hp → VK → Prop := fun vs H Q => ∃ (a : Addr) (ns : List Int), vs = [V.ref a] ∧ (SqL K H a (ns.map V.int) ∨ SqT K H a (ns.map V.int)) ∧
  ∀ (p : Addr), H p = none → Q (.ref p) (upd H p (.lst ((sortJ ns).map V.int)))
theorem cr_sortedLT : CallR X (.builtin "sorted") (rSortedLT X.K) := by
  intro pins s σ H vs us Q I r h
  obtain ⟨a, ns, rfl, hs, q⟩ := h
  rcases hs with hs | hs
  · exact cr_sortedI pins s σ H _ us Q I r ⟨a, ns, rfl, hs, fun ns' p hp hw hn => by rw [perm_sorted_eq (hp.trans (sortJ_perm ns).symm) hw (sortJ_sorted ns)]; exact q p hn⟩
  · obtain ⟨its, rv, ⟨o, ho, hc, n, hd⟩, hz⟩ := I.tuple hs
    rw [Vals.ref1 r]
    have hi := rv.ints
    refine JRaw.sorted_ord_t (o := o) (n := n) SrtO.swo_int ho hc hd (by rw [← rv.length]; exact hz) (fun h2 h₁ a' _ _ => SrtO.ints_sortable hi h2) fun out h1 h2 => ?_
    obtain ⟨k1, k2, k3⟩ := SrtO.ints_out hi h1 h2
    obtain ⟨ep, he'⟩ := PyProof.Rows.sortedAll_at s.heap its out.toArray
    have hlen : ((out.map SrtO.iv).map V.int).length ≤ sizeLine := by
      rw [List.length_map, k2.length_eq]
      rw [List.length_map] at hz
      exact hz
    refine ⟨.ref _, upd H (s.heap.objs.size + 1) (.lst ((out.map SrtO.iv).map V.int)), I.laid (t' := s.toks) (fun _ _ => PyProof.Rows.sortedAll_old) (Nat.le_succ _) ⟨hlen, out, ep, vals_of_ints k1, he'⟩, rfl, ?_⟩
    rw [perm_sorted_eq (k2.trans (sortJ_perm ns).symm) k3 (sortJ_sorted ns)]
    exact q _ (I.hok.fresh (Nat.le_succ _))
theorem sorted_J : CallR X (.builtin "sorted") (rJl X.K fun h ws => builtin h .sorted ws) := by
  refine CallR.mono cr_sortedLT ?_
  rintro xs H Q ⟨ι, h, ws, r, h', rh, rw_, e, p⟩
  replace e : builtin h .sorted ws = some (r, h') := e
  unfold builtin at e
  split at e <;> first | cases e | skip
  all_goals (try contradiction)
  split at e
  · rename_i us hi
    split at e
    · rename_i ns hn
      cases e
      obtain ⟨v, rfl, q⟩ := rw_.one
      obtain ⟨a, vs, rfl, q, sq⟩ := items_sq rh q hi
      rw [intsL_map q hn] at sq
      exact ⟨a, ns, rfl, sq, p.lst rh (ints_rws _)⟩
    · cases e
  · cases e
theorem sum_J (hc : X.calm = true) : CallR X (.builtin "sum") (rJl X.K fun h ws => builtin h .sum ws) := by
  refine CallR.mono (cr_sum hc) ?_
  rintro xs H Q ⟨ι, h, ws, r, h', rh, rw_, e, p⟩
  replace e : builtin h .sum ws = some (r, h') := e
  unfold builtin at e
  split at e <;> first | cases e | skip
  all_goals (try contradiction)
  split at e
  · rename_i us hu
    split at e
    · rename_i ns hb
      cases e
      obtain ⟨v, rfl, q⟩ := rw_.one
      cases q with | l q =>
        obtain ⟨vs, g, r1, _⟩ := rh.of q hu
        exact ⟨_, ns, rfl, SqL.of (by rw [← intsL_map r1 hb]; exact g), p.dat rh (.i _)⟩
    · cases e
  · cases e
theorem maxI_ge : ∀ (xs : List Int) (x : Int), x ≤ xs.foldl (fun a y => if y > a then y else a) x ∧ (∀ y ∈ xs, y ≤ xs.foldl (fun a y => if y > a then y else a) x) ∧ (xs.foldl (fun a y => if y > a then y else a) x = x ∨ xs.foldl (fun a y => if y > a then y else a) x ∈ xs)
  | [], x => ⟨Int.le_refl _, by simp, .inl rfl⟩
  | y :: r, x => by
    obtain ⟨h1, h2, h3⟩ := maxI_ge r (if y > x then y else x)
    simp only [List.foldl_cons]
    have h4 : x ≤ (if y > x then y else x) ∧ y ≤ (if y > x then y else x) := by split <;> omega
    refine ⟨by omega, fun z hz => ?_, ?_⟩
    · rcases List.mem_cons.1 hz with rfl | hz
      · omega
      · exact h2 z hz
    · rcases h3 with h3 | h3
      · rw [h3]
        split
        · exact .inr (by simp)
        · exact .inl rfl
      · exact .inr (List.mem_cons_of_mem _ h3)
theorem maxL_J (hc : X.calm = true) : CallR X (.builtin "max") (rJl X.K fun h ws => builtin h .maxL ws) := by
  refine CallR.mono (cr_max hc) ?_
  rintro xs H Q ⟨ι, h, ws, r, h', rh, rw_, e, p⟩
  replace e : builtin h .maxL ws = some (r, h') := e
  unfold builtin at e
  split at e <;> first | cases e | skip
  all_goals (try contradiction)
  split at e
  · rename_i us hu
    split at e
    · rename_i ns hb
      split at e
      · rename_i m hm
        cases e
        obtain ⟨v, rfl, q⟩ := rw_.one
        cases q with | l q =>
          obtain ⟨vs, g, r1, _⟩ := rh.of q hu
          rcases ns with _ | ⟨n, ns⟩
          · cases hm
          · obtain ⟨g1, g2, g3⟩ := maxI_ge ns n
            simp only [maxI, Option.some.injEq] at hm
            refine ⟨_, n :: ns, rfl, SqL.of (by rw [← intsL_map r1 hb]; exact g), by simp, fun m' hm1 hm2 => ?_⟩
            have : m' = m := by
              have a1 : m ≤ m' := by
                rw [← hm]
                rcases g3 with g3 | g3
                · rw [g3]; exact hm2 n (by simp)
                · exact hm2 _ (List.mem_cons_of_mem _ g3)
              have a2 : m' ≤ m := by
                rw [← hm]
                rcases List.mem_cons.1 hm1 with rfl | h
                · exact g1
                · exact g2 _ h
              omega
            rw [this]
            exact p.dat rh (.i _)
      · cases e
    · cases e
  · cases e
theorem RWs.eraseIdx {K : Fg} {ι : List Addr} {H : Hp} : ∀ {vs : List V} {ws : List W} (k : Nat), RWs K H ι vs ws → RWs K H ι (vs.eraseIdx k) (ws.eraseIdx k)
  | _, _, _, .nil => .nil
  | _, _, 0, .cons r t => t
  | _, _, k + 1, .cons r t => .cons r (t.eraseIdx k)
theorem mt_popAtJ : MtR X "list.pop" (rJm X.K .popAt) := by
  refine MtR.mono mt_popAt ?_
  rintro x xs H Q ⟨ι, h, u, ws, r, h', rh, rx, rw_, e, p⟩
  unfold method at e
  split at e <;> first | cases e | skip
  all_goals (try contradiction)
  split at e
  · rename_i us hus
    split at e
    · rename_i h0
      split at e
      · rename_i w hw
        cases e
        obtain ⟨v, rfl, q⟩ := rw_.one
        cases rx with | l rx => cases q with | d q =>
          cases q
          obtain ⟨vs, g, r1, ok⟩ := rh.of rx hus
          obtain ⟨v, hv, q⟩ := r1.get hw
          have hk := (List.getElem?_eq_some_iff.1 hv).1
          obtain ⟨h0, h9⟩ := h0
          have hS : (SZ : Int) = 16777216 := rfl
          rw [hS] at h9
          refine ⟨_, vs, _, _, v, rfl, rfl, g, ?_, ?_, ?_, hv, ?_⟩
          · exact Int.le_trans (by decide) h0
          · exact Int.lt_of_le_of_lt h9 (by decide)
          · unfold seqIndex?
            have h1 : ∀ n : Int, 0 ≤ n → n.toNat < vs.length → (decide (0 ≤ n) && decide (n < vs.length)) = true := fun n a b => by
              simp only [Bool.and_eq_true, decide_eq_true_eq]; omega
            dsimp only
            rw [if_neg (Int.not_lt.mpr h0), if_pos (h1 _ h0 hk)]
          · exact p.wrote rh rx (r1.eraseIdx _) (okAll_mem.mpr fun z hz => okAll_mem.mp ok z ((List.eraseIdx_sublist _ _).subset hz)) q
      · cases e
    · cases e
  · cases e
end
end J
set_option maxRecDepth 100000
namespace J
open PySem L2 PyProof.Rows
/-! What J's evaluator says, as readings of the hand layer. -/
structure Rl (K : Fg) (σ : L2.St) (H : Hp) (ρ : Env) (ι : List Addr) (h : LH) : Prop where
  rh : RH K H ι h
  env : ∀ (i : Nat) (w : W), ρ[i]? = some (some w) → ∃ v, σ[i]? = some (some v) ∧ RW K H ι v w
section
variable {K : Fg} {σ : L2.St} {H H' : Hp} {ρ : Env} {ι ι' : List Addr} {h h' : LH}
theorem Rl.mono (r : Rl K σ H ρ ι h) (st : Step ι H ι' H') (r' : RH K H' ι' h') : Rl K σ H' ρ ι' h' :=
  ⟨r', fun i w e => by obtain ⟨v, q, rw_⟩ := r.env i w e; exact ⟨v, q, rw_.mono st⟩⟩
theorem Rl.set (r : Rl K σ H ρ ι h) (hl : ρ.length ≤ σ.length) {i : Nat} {v : V} {w : W} (q : RW K H ι v w) : Rl K (σ.set i (some v)) H (ρ.set i (some w)) ι h :=
  ⟨r.rh, fun j u e => by
    by_cases hj : i = j
    · subst hj
      by_cases hi : i < ρ.length
      · rw [List.getElem?_set_self hi] at e
        cases e
        exact ⟨v, by rw [List.getElem?_set_self (by omega)], q⟩
      · rw [List.getElem?_eq_none (by simp; omega)] at e; cases e
    · rw [List.getElem?_set_ne hj] at e
      rw [List.getElem?_set_ne hj]
      exact r.env j u e⟩
end
/-- with equal lengths -/
structure Rs (K : Fg) (σ : L2.St) (H : Hp) (ρ : Env) (ι : List Addr) (h : LH) : Prop where
  rl : Rl K σ H ρ ι h
  len : ρ.length = σ.length
section
variable {K : Fg} {σ : L2.St} {H H' : Hp} {ρ : Env} {ι ι' : List Addr} {h h' : LH}
theorem Rs.rh (r : Rs K σ H ρ ι h) : RH K H ι h := r.rl.rh
theorem Rs.mono (r : Rs K σ H ρ ι h) (st : Step ι H ι' H') (r' : RH K H' ι' h') : Rs K σ H' ρ ι' h' := ⟨r.rl.mono st r', r.len⟩
theorem Rs.set (r : Rs K σ H ρ ι h) {i : Nat} {v : V} {w : W} (q : RW K H ι v w) : Rs K (σ.set i (some v)) H (ρ.set i (some w)) ι h := ⟨r.rl.set (by rw [r.len]; exact Nat.le_refl _) q, by simp [r.len]⟩
theorem wipe_get {σ : L2.St} {j : Nat} : ∀ {vs : List Nat}, (L2.wipe σ vs)[j]? = if j ∈ vs then (σ[j]?).map (fun _ => none) else σ[j]?
  | [] => by simp [L2.wipe]
  | v :: vs => by
    unfold L2.wipe
    by_cases hv : v = j
    · subst hv
      have hl : (L2.wipe σ vs).length = σ.length := wipe_length σ vs
      rw [if_pos (by simp)]
      by_cases hj : v < σ.length
      · rw [List.getElem?_set_self (by omega), List.getElem?_eq_getElem hj]; rfl
      · rw [List.getElem?_eq_none (by simp; omega), List.getElem?_eq_none (by omega)]; rfl
    · rw [List.getElem?_set_ne hv, wipe_get (vs := vs)]
      have : (j ∈ v :: vs) = (j ∈ vs) := by simp [Ne.symm hv]
      simp only [this]
theorem wipeJ_get {ρ : Env} {j : Nat} : ∀ {vs : List Nat}, (J.wipe ρ vs)[j]? = if j ∈ vs then (ρ[j]?).map (fun _ => none) else ρ[j]?
  | [] => by simp [J.wipe]
  | v :: vs => by
    have hlen : ∀ vs : List Nat, (J.wipe ρ vs).length = ρ.length := by
      intro vs
      induction vs with
      | nil => rfl
      | cons a b ih => unfold J.wipe; rw [List.length_set, ih]
    unfold J.wipe
    by_cases hv : v = j
    · subst hv
      rw [if_pos (by simp)]
      by_cases hj : v < ρ.length
      · rw [List.getElem?_set_self (by rw [hlen]; omega), List.getElem?_eq_getElem hj]; rfl
      · rw [List.getElem?_eq_none (by simp [hlen]; omega), List.getElem?_eq_none (by omega)]; rfl
    · rw [List.getElem?_set_ne hv, wipeJ_get (vs := vs)]
      have : (j ∈ v :: vs) = (j ∈ vs) := by simp [Ne.symm hv]
      simp only [this]
theorem wipeJ_length (ρ : Env) : ∀ vs, (J.wipe ρ vs).length = ρ.length
  | [] => rfl
  | v :: vs => by unfold J.wipe; rw [List.length_set, wipeJ_length ρ vs]
theorem Rs.wipe (r : Rs K σ H ρ ι h) (vs : List Nat) : Rs K (L2.wipe σ vs) H (J.wipe ρ vs) ι h := by
  refine ⟨⟨r.rh, fun i w e => ?_⟩, by rw [wipe_length, wipeJ_length, r.len]⟩
  rw [wipeJ_get] at e
  rw [wipe_get]
  by_cases hi : i ∈ vs
  · rw [if_pos hi] at e
    cases q : ρ[i]? with
    | none => rw [q] at e; cases e
    | some z => rw [q] at e; cases e
  · rw [if_neg hi] at e ⊢
    exact r.rl.env i w e
/-- the names of the block set: wiped they are as before -/
def SameOut (σ σ' : L2.St) (vs : List Nat) : Prop := σ.length = σ'.length ∧ ∀ j, j ∉ vs → σ[j]? = σ'[j]?
theorem SameOut.wipe {σ σ' : L2.St} {vs : List Nat} (h : SameOut σ σ' vs) : L2.wipe σ vs = L2.wipe σ' vs := by
  refine List.ext_getElem? fun j => ?_
  rw [wipe_get, wipe_get]
  by_cases hj : j ∈ vs
  · rw [if_pos hj, if_pos hj]
    by_cases hl : j < σ.length
    · rw [List.getElem?_eq_getElem hl, List.getElem?_eq_getElem (by rw [← h.1]; exact hl)] <;> rfl
    · rw [List.getElem?_eq_none (by omega), List.getElem?_eq_none (by rw [← h.1]; omega)] <;> rfl
  · rw [if_neg hj, if_neg hj]; exact h.2 j hj
theorem SameOut.wiped (σ : L2.St) (vs : List Nat) : SameOut (L2.wipe σ vs) σ vs := ⟨wipe_length σ vs, fun j hj => by rw [wipe_get, if_neg hj]⟩
theorem SameOut.trans {σ σ1 σ2 : L2.St} {vs : List Nat} (a : SameOut σ σ1 vs) (b : SameOut σ1 σ2 vs) : SameOut σ σ2 vs := ⟨a.1.trans b.1, fun j hj => (a.2 j hj).trans (b.2 j hj)⟩
theorem SameOut.set (σ : L2.St) {vs : List Nat} {i : Nat} (hi : i ∈ vs) (v : Option V) : SameOut (σ.set i v) σ vs := ⟨by simp, fun j hj => List.getElem?_set_ne (by rintro rfl; exact hj hi)⟩
theorem SameOut.sub {σ σ' : L2.St} {vs ws : List Nat} (h : SameOut σ σ' vs) (s : ∀ i ∈ vs, i ∈ ws) : SameOut σ σ' ws := ⟨h.1, fun j hj => h.2 j fun z => hj (s j z)⟩

/-! ### targets -/
def gNames : List Nat → TGs
  | [] => gNil
  | i :: r => gCons (gName i) (gNames r)
def gT (K : Fg) : Tg → TG
  | .n i => gName i
  | .t is => gTup K is.length (gNames is)
theorem gNames_red : ∀ {is : List Nat} {vs : List V} {ds : List D} {σ : L2.St} {ρ : Env} {k : L2.St → Hp → Prop}, RDs K H vs ds → vs.length = is.length → Rs K σ H ρ ι h →
    (∀ σ', Rs K σ' H (setMany is ds ρ) ι h → SameOut σ' σ is → k σ' H) → gNames is vs σ H k
  | [], [], _, σ, ρ, k, .nil, _, r, q => ⟨rfl, q σ (by simpa [setMany] using r) ⟨rfl, fun _ _ => rfl⟩⟩
  | i :: is, v :: vs, _, σ, ρ, k, .cons (d := d) (ds := ds) hd hr, e, r, q => by
    refine ⟨v, vs, rfl, ?_⟩
    refine gNames_red hr (by simpa using e) (r.set (.d hd)) fun σ' r' so => ?_
    refine q σ' ?_ ((so.sub (fun j hj => List.mem_cons_of_mem _ hj)).trans (SameOut.set σ List.mem_cons_self _))
    show Rs K σ' H (setMany is ds (ρ.set i (some (.d d)))) ι h
    exact r'
theorem gT_red {tg : Tg} {v : V} {w : W} {ρ' : Env} {k : L2.St → Hp → Prop} (rv : RW K H ι v w) (r : Rs K σ H ρ ι h) (e : setT tg w ρ = some ρ')
    (q : ∀ σ', Rs K σ' H ρ' ι h → SameOut σ' σ tg.slots → k σ' H) : gT K tg v σ H k := by
  cases tg with
  | n i =>
    cases e
    exact q _ (r.set rv) (SameOut.set σ (by simp [Tg.slots]) _)
  | t is =>
    cases rv with
    | l z => cases e
    | d rv => cases rv with
      | non => cases e
      | b _ => cases e
      | i _ => cases e
      | s _ _ => cases e
      | fl _ _ => cases e
      | @t a vs ds t1 q1 =>
        have e1 : (if ds.length = is.length then some (setMany is ds ρ) else none) = some ρ' := e
        by_cases hl : ds.length = is.length
        · rw [if_pos hl] at e1
          cases e1
          exact ⟨a, vs, rfl, t1.t, by rw [q1.length, hl], gNames_red q1 (by rw [q1.length, hl]) r q⟩
        · rw [if_neg hl] at e1
          cases e1
end

/-! ### readings -/
def tE (C : Ctx) (K : Fg) (e : E) : TE := fun σ H Q => ∃ ρ h ι w h', Rs K σ H ρ ι h ∧ ev C e ρ h = some (w, h') ∧ Post K ι H w h' Q
def tB' (C : Ctx) (K : Fg) (e : E) : TT := fun σ H Q => ∃ ρ h ι b h', Rs K σ H ρ ι h ∧ ev C e ρ h = some (.d (.b b), h') ∧ PostB K ι H b h' Q
def tAs (C : Ctx) (K : Fg) (es : List E) : TA := fun σ H Q => ∃ ρ h ι ws h', Rs K σ H ρ ι h ∧ evs C es ρ h = some (ws, h') ∧ PostL K ι H ws h' Q
def PostS (K : Fg) (ι : List Addr) (H : Hp) (f : Fl) (ρ' : Env) (h' : LH) (D : Ends) : Prop := match f with
  | .nxt => ∀ σ' H' ι', Step ι H ι' H' → Rs K σ' H' ρ' ι' h' → D.nx σ' H'
  | .brk => ∀ σ' H' ι', Step ι H ι' H' → Rs K σ' H' ρ' ι' h' → D.bk σ' H'
  | .cnt => ∀ σ' H' ι', Step ι H ι' H' → Rs K σ' H' ρ' ι' h' → D.ct σ' H'
  | .ret w => Post K ι H w h' D.rt
def tSt (C : Ctx) (K : Fg) (s : S) : TS := fun D σ H => ∃ ρ h ι f ρ' h', Rs K σ H ρ ι h ∧ exec C s ρ h = some (f, ρ', h') ∧ PostS K ι H f ρ' h' D
def tSs (C : Ctx) (K : Fg) (s : List S) : TS := fun D σ H => ∃ ρ h ι f ρ' h', Rs K σ H ρ ι h ∧ execs C s ρ h = some (f, ρ', h') ∧ PostS K ι H f ρ' h' D
theorem PostS.step {K : Fg} {ι ι1 : List Addr} {H H1 : Hp} {f : Fl} {ρ' : Env} {h' : LH} {D : Ends} (p : PostS K ι H f ρ' h' D) (st : Step ι H ι1 H1) : PostS K ι1 H1 f ρ' h' D := by
  cases f with
  | nxt => exact fun σ' H' ι' s r => p σ' H' ι' (st.trans s) r
  | brk => exact fun σ' H' ι' s r => p σ' H' ι' (st.trans s) r
  | cnt => exact fun σ' H' ι' s r => p σ' H' ι' (st.trans s) r
  | ret w => exact Post.step p st

/-! ### sources -/
def SrcJ (K : Fg) (H : Hp) (ι : List Addr) : Src → L2.It → Prop
  | .its ws, J => ∃ ds : List D, ws = ds.map .d ∧ ∀ i H', Stab H H' → (i < ds.length → J.go i H') ∧ (ds.length ≤ i → J.stop i H') ∧ ∀ x H'', i < ds.length → J.yld i H' x H'' → H'' = H' ∧ ∃ d, ds[i]? = some d ∧ RD K H' x d
  | .live a n, J => ∃ p, ι[a]? = some p ∧ J = Itl K p
section
variable {K : Fg} {σ : L2.St} {H H' : Hp} {ρ : Env} {ι ι' : List Addr} {h h' : LH}
theorem RDs.get : ∀ {vs : List V} {ds : List D} {i : Nat}, RDs K H vs ds → i < ds.length → ∃ v d, vs[i]? = some v ∧ ds[i]? = some d ∧ RD K H v d
  | _, _, _, .nil, e => by simp at e
  | _, _, 0, .cons r _, e => ⟨_, _, rfl, rfl, r⟩
  | _, _, i + 1, .cons _ t, e => by
    obtain ⟨v, d, h1, h2, h3⟩ := RDs.get (i := i) t (by simpa using e)
    exact ⟨v, d, by simpa using h1, by simpa using h2, h3⟩
theorem srcT {a : Addr} {vs : List V} {ds : List D} (t : SqT K H a vs) (q : RDs K H vs ds) : SrcJ K H ι (.its (ds.map .d)) (Itt K a) := by
  refine ⟨ds, rfl, fun i H' st => ⟨fun hi => ?_, fun hi => ⟨vs, st.tup t, by rw [q.length]; exact hi⟩, fun x H'' hi y => ?_⟩⟩
  · obtain ⟨v, d, h1, _⟩ := q.get hi
    exact ⟨vs, v, st.tup t, h1⟩
  · obtain ⟨v, d, h1, h2, h3⟩ := q.get hi
    obtain ⟨e, y⟩ := y
    have := y vs (st.tup t)
    rw [h1] at this; cases this
    exact ⟨e, d, h2, h3.mono st⟩
theorem srcF {a : Addr} {vs : List V} {ds : List D} (t : Frz K H a vs) (q : RDs K H vs ds) : SrcJ K H ι (.its (ds.map .d)) (Itl K a) := by
  refine ⟨ds, rfl, fun i H' st => ⟨fun hi => ?_, fun hi => ⟨vs, (st.frz t).sq, by rw [q.length]; exact hi⟩, fun x H'' hi y => ?_⟩⟩
  · obtain ⟨v, d, h1, _⟩ := q.get hi
    exact ⟨vs, v, (st.frz t).sq, h1⟩
  · obtain ⟨v, d, h1, h2, h3⟩ := q.get hi
    obtain ⟨e, y⟩ := y
    have := y vs (st.frz t).sq
    rw [h1] at this; cases this
    exact ⟨e, d, h2, h3.mono st⟩
theorem srcR (lo hi : Int) : SrcJ K H ι (.its (range lo hi)) (Itr lo (hi - lo).toNat) := by
  refine ⟨(List.range (hi - lo).toNat).map fun (k : Nat) => D.i (lo + (k : Int)), by unfold range; rw [List.map_map]; rfl, fun i H' st => ?_⟩
  rw [List.length_map, List.length_range]
  refine ⟨fun hi => hi, fun hi => hi, fun x H'' hi y => ?_⟩
  obtain ⟨rfl, rfl⟩ := y
  exact ⟨rfl, _, by rw [List.getElem?_map, List.getElem?_range hi]; rfl, .i _⟩

/-! ### for -/
def fbody (C : Ctx) (tg : Tg) (body : List S) : W → Env → LH → Option (Fl × Env × LH) := fun x ρ h => match setT tg x ρ with
  | some ρ' => execs C body ρ' h
  | none => none
theorem forItems_cons {f : W → Env → LH → Option (Fl × Env × LH)} {x : W} {xs : List W} {r : Fl × Env × LH} (e : forItems f (x :: xs) ρ h = some r) :
    ∃ fl ρ' h', f x ρ h = some (fl, ρ', h') ∧ match fl with
      | .nxt => forItems f xs ρ' h' = some r
      | .cnt => forItems f xs ρ' h' = some r
      | .brk => r = (.nxt, ρ', h')
      | .ret w => r = (.ret w, ρ', h') := by
  unfold forItems at e
  split at e
  · exact ⟨_, _, _, by assumption, e⟩
  · exact ⟨_, _, _, by assumption, e⟩
  · cases e; exact ⟨_, _, _, by assumption, rfl⟩
  · cases e; exact ⟨_, _, _, by assumption, rfl⟩
  · cases e
theorem forLive_succ {f : W → Env → LH → Option (Fl × Env × LH)} {a n i : Nat} {r : Fl × Env × LH} (e : forLive f a (n + 1) i ρ h = some r) :
    ∃ ws, h[a]? = some ws ∧ ((ws[i]? = none ∧ r = (.nxt, ρ, h)) ∨ ∃ x fl ρ' h', ws[i]? = some x ∧ f x ρ h = some (fl, ρ', h') ∧ match fl with
      | .nxt => forLive f a n (i + 1) ρ' h' = some r
      | .cnt => forLive f a n (i + 1) ρ' h' = some r
      | .brk => r = (.nxt, ρ', h')
      | .ret w => r = (.ret w, ρ', h')) := by
  unfold forLive at e
  split at e
  · cases e
  · rename_i ws hws
    refine ⟨ws, hws, ?_⟩
    split at e
    · cases e; exact .inl ⟨by assumption, rfl⟩
    · right
      split at e
      · exact ⟨_, _, _, _, by assumption, by assumption, e⟩
      · exact ⟨_, _, _, _, by assumption, by assumption, e⟩
      · cases e; exact ⟨_, _, _, _, by assumption, by assumption, rfl⟩
      · cases e; exact ⟨_, _, _, _, by assumption, by assumption, rfl⟩
      · cases e
/-- one turn's body, whichever way it ends -/
theorem turn_red {C : Ctx} {tg : Tg} {body : List S} {x : W} {v : V} {fl : Fl} {ρ' : Env} {D : Ends} {N : L2.St → Hp → Prop} (r : Rs K σ H ρ ι h) (rv : RW K H ι v x) (e : fbody C tg body x ρ h = some (fl, ρ', h'))
    (pn : fl = .nxt ∨ fl = .cnt → ∀ σ' H' ι', Step ι H ι' H' → Rs K σ' H' ρ' ι' h' → N σ' H') (pb : fl = .brk → ∀ σ' H' ι', Step ι H ι' H' → Rs K σ' H' ρ' ι' h' → D.nx σ' H') (pr : ∀ w, fl = .ret w → Post K ι H w h' D.rt) :
    gT K tg v σ H fun σ2 H2 => tSs C K body { D with nx := N, ct := N, bk := D.nx } σ2 H2 := by
  unfold fbody at e
  split at e
  · rename_i ρ1 hs
    refine gT_red rv r hs fun σ' r' _ => ⟨ρ1, h, ι, fl, ρ', h', r', e, ?_⟩
    cases fl with
    | nxt => exact pn (.inl rfl)
    | cnt => exact pn (.inr rfl)
    | brk => exact pb rfl
    | ret w => exact pr w rfl
  · cases e
theorem for_red {C : Ctx} {tg : Tg} {body : List S} {src : Src} {J : L2.It} {fl : Fl} {ρ' : Env} {D : Ends} (r : Rs K σ H ρ ι h) (sj : SrcJ K H ι src J) (e : forSrc (fbody C tg body) src ρ h = some (fl, ρ', h')) (p : PostS K ι H fl ρ' h' D) :
    ∃ W : Nat → Nat → L2.St → Hp → Prop, (∃ m, W 0 m σ H) ∧ ∀ i m σ H, W i m σ H →
      (J.stop i H ∧ D.nx σ H) ∨ (J.go i H ∧ ∃ N : L2.St → Hp → Prop, (∀ σ' H', N σ' H' → ∃ m', m' < m ∧ W (i + 1) m' σ' H') ∧ ∀ x H', J.yld i H x H' → gT K tg x σ H' fun σ2 H2 => tSs C K body { D with nx := N, ct := N, bk := D.nx } σ2 H2) := by
  cases src with
  | its ws =>
    obtain ⟨ds, rfl, sj⟩ := sj
    refine ⟨fun i m σ1 H1 => ∃ ρ1 ι1 h1, Step ι H ι1 H1 ∧ Rs K σ1 H1 ρ1 ι1 h1 ∧ forItems (fbody C tg body) ((ds.map .d).drop i) ρ1 h1 = some (fl, ρ', h') ∧ m = ds.length - i, ⟨_, ρ, ι, h, .refl _ _, r, e, rfl⟩, ?_⟩
    rintro i m σ1 H1 ⟨ρ1, ι1, h1, st, r1, e1, rfl⟩
    obtain ⟨jg, js, jy⟩ := sj i H1 st.stab
    by_cases hi : i < ds.length
    · refine .inr ⟨jg hi, _, fun σ' H' hn => ⟨ds.length - (i + 1), by omega, hn⟩, fun x H' y => ?_⟩
      obtain ⟨rfl, d, hd, rd⟩ := jy x H' hi y
      rw [List.drop_eq_getElem_cons (by simpa using hi)] at e1
      have ex : (ds.map W.d)[i]'(by simpa using hi) = .d d := by
        rw [List.getElem_map]
        congr 1
        exact Option.some.inj ((List.getElem?_eq_getElem hi).symm.trans hd)
      rw [ex] at e1
      obtain ⟨fl1, ρ2, h2, e2, e3⟩ := forItems_cons e1
      refine turn_red r1 (.d rd) e2 (fun hf σ' H' ι' s' r' => ?_) (fun hf => ?_) (fun w hf => ?_)
      · refine ⟨ρ2, ι', h2, st.trans s', r', ?_, rfl⟩
        rcases hf with rfl | rfl <;> exact e3
      · subst hf
        cases e3
        exact p.step st
      · subst hf
        cases e3
        exact Post.step p st
    · rw [List.drop_eq_nil_of_le (by simp; omega)] at e1
      cases e1
      exact .inl ⟨js (by omega), p σ1 H1 ι1 st r1⟩
  | live a n =>
    obtain ⟨pa, ha, rfl⟩ := sj
    refine ⟨fun i m σ1 H1 => ∃ ρ1 ι1 h1, Step ι H ι1 H1 ∧ Rs K σ1 H1 ρ1 ι1 h1 ∧ forLive (fbody C tg body) a m i ρ1 h1 = some (fl, ρ', h'), ⟨n + 1, ρ, ι, h, .refl _ _, r, e⟩, ?_⟩
    rintro i m σ1 H1 ⟨ρ1, ι1, h1, st, r1, e1⟩
    cases m with
    | zero => cases e1
    | succ m =>
      obtain ⟨ws, hws, c⟩ := forLive_succ e1
      obtain ⟨vs, g, q, _⟩ := r1.rh.of (st.at ha) hws
      rcases c with ⟨hn, e2⟩ | ⟨x, fl1, ρ2, h2, hx, e2, e3⟩
      · cases e2
        exact .inl ⟨⟨vs, SqL.of g, q.none hn⟩, p σ1 H1 ι1 st r1⟩
      · obtain ⟨v, hv, rv⟩ := q.get hx
        refine .inr ⟨⟨vs, v, SqL.of g, hv⟩, _, fun σ' H' hn => ⟨m, by omega, hn⟩, fun y H' z => ?_⟩
        obtain ⟨rfl, z⟩ := z
        have := z vs (SqL.of g)
        rw [hv] at this; cases this
        refine turn_red r1 rv e2 (fun hf σ' H' ι' s' r' => ?_) (fun hf => ?_) (fun w hf => ?_)
        · refine ⟨ρ2, ι', h2, st.trans s', r', ?_⟩
          rcases hf with rfl | rfl <;> exact e3
        · subst hf
          cases e3
          exact p.step st
        · subst hf
          cases e3
          exact Post.step p st

/-! ### while -/
theorem while_red {C : Ctx} {c : E} {body : List S} {n : Nat} {fl : Fl} {ρ' : Env} {D : Ends} (r : Rs K σ H ρ ι h) (e : whileF (fun ρ h => asB (ev C c ρ h)) (execs C body) n ρ h = some (fl, ρ', h')) (p : PostS K ι H fl ρ' h' D) :
    tWhile (tB' C K c) (tSs C K body) D σ H := by
  refine ⟨fun m σ1 H1 => ∃ ρ1 ι1 h1, Step ι H ι1 H1 ∧ Rs K σ1 H1 ρ1 ι1 h1 ∧ whileF (fun ρ h => asB (ev C c ρ h)) (execs C body) m ρ1 h1 = some (fl, ρ', h'), ⟨n, ρ, ι, h, .refl _ _, r, e⟩, ?_⟩
  rintro m σ1 H1 ⟨ρ1, ι1, h1, st, r1, e1⟩
  cases m with
  | zero => cases e1
  | succ m =>
    unfold whileF at e1
    have key : ∀ b h2, asB (ev C c ρ1 h1) = some (b, h2) → ev C c ρ1 h1 = some (.d (.b b), h2) := fun b h2 q => by
      unfold asB at q
      split at q
      · cases q; assumption
      · cases q
    split at e1
    · cases e1
    · rename_i h2 hc
      cases e1
      exact ⟨_, h1, ι1, false, _, r1, key _ _ hc, fun H' ι' s' r' => p σ1 H' ι' (st.trans s') (r1.mono s' r')⟩
    · rename_i h2 hc
      refine ⟨ρ1, h1, ι1, true, h2, r1, key _ _ hc, fun H' ι' s' r' => ?_⟩
      show ∃ N : L2.St → Hp → Prop, _
      have r2 := r1.mono s' r'
      have st2 := st.trans s'
      refine ⟨_, fun σ' H' hn => ⟨m, by omega, hn⟩, ?_⟩
      split at e1
      · exact ⟨ρ1, h2, ι', .nxt, _, _, r2, by assumption, fun σ' H'' ι'' s'' r'' => ⟨_, ι'', _, st2.trans s'', r'', e1⟩⟩
      · exact ⟨ρ1, h2, ι', .cnt, _, _, r2, by assumption, fun σ' H'' ι'' s'' r'' => ⟨_, ι'', _, st2.trans s'', r'', e1⟩⟩
      · cases e1
        exact ⟨ρ1, h2, ι', .brk, _, _, r2, by assumption, fun σ' H'' ι'' s'' r'' => p σ' H'' ι'' (st2.trans s'') r''⟩
      · cases e1
        exact ⟨ρ1, h2, ι', .ret _, _, _, r2, by assumption, Post.step p st2⟩
      · cases e1
end
end J
set_option maxRecDepth 100000
namespace J
open PySem L2 PyProof.Rows
section
variable {K : Fg} {σ : L2.St} {H H' : Hp} {ρ : Env} {ι ι' : List Addr} {h h' : LH}
def tC' (C : Ctx) (K : Fg) : Option E → TT
  | none => tYes
  | some e => tB' C K e
theorem RH.adopt {p : Addr} (r : RH K H ι h) (hn : p ∉ ι) {vs : List V} {ws : List W} (hp : H p = some (.lst vs)) (q : RWs K H ι vs ws) : RH K H (ι ++ [p]) (h ++ [ws]) := by
  have mono : ∀ {vs : List V} {ws : List W}, RWs K H ι vs ws → RWs K H (ι ++ [p]) vs ws := by
    intro vs ws r
    induction r with
    | nil => exact .nil
    | cons a b ih =>
      refine .cons ?_ ih
      cases a with
      | d z => exact .d z
      | @l a q e =>
        refine .l ?_
        have hl : a < ι.length := by
          rcases Nat.lt_or_ge a ι.length with z | z
          · exact z
          · rw [List.getElem?_eq_none z] at e; cases e
        rw [List.getElem?_append_left hl]; exact e
  refine ⟨by simp [r.len], ?_, fun a q' hq => ?_⟩
  · rw [List.nodup_append]
    refine ⟨r.nd, by simp, fun a ha b hb => ?_⟩
    rw [List.mem_singleton.mp hb]
    rintro rfl
    exact hn ha
  · rcases Nat.lt_or_ge a ι.length with z | z
    · rw [List.getElem?_append_left z] at hq
      obtain ⟨vs', ws', h1, h2, h3, h4⟩ := r.cell a q' hq
      refine ⟨vs', ws', h1, ?_, mono h3, h4⟩
      rw [List.getElem?_append_left (by rw [← r.len]; exact z)]
      exact h2
    · rw [List.getElem?_append_right z] at hq
      have ea : a - ι.length = 0 := by
        rcases Nat.eq_zero_or_pos (a - ι.length) with y | y
        · exact y
        · rw [List.getElem?_eq_none (by simp; omega)] at hq; cases hq
      rw [ea] at hq
      simp at hq
      subst hq
      have ea' : a = h.length := by have := r.len; omega
      subst ea'
      exact ⟨vs, ws, hp, by simp, mono q, q.okAll r.len⟩
theorem Step.wasFree {p : Addr} {h1 : LH} {H1 : Hp} {ι1 : List Addr} (s : Step ι H ι1 H1) (r : RH K H1 ι1 h1) (hp : H1 p = none) : H p = none := by
  cases q : H p with
  | none => rfl
  | some o =>
    by_cases hi : p ∈ ι
    · obtain ⟨t, e⟩ := s.pre
      exact absurd (by rw [e]; exact List.mem_append_left _ hi) (r.notin hp)
    · rw [s.keep p o q hi] at hp; cases hp
/-- where a comprehension's turns stand: the new list at D, its items so far -/
structure Cs (K : Fg) (ι0 : List Addr) (H0 : Hp) (D : Addr) (ι : List Addr) (H : Hp) (h : LH) (acc : List W) : Prop where
  st : Step ι0 H0 ι H
  rh : RH K H ι h
  nD : D ∉ ι
  hD : ∃ vs, H D = some (.lst vs) ∧ RWs K H ι vs acc
theorem Cs.step {ι0 : List Addr} {H0 : Hp} {D : Addr} {acc : List W} (c : Cs K ι0 H0 D ι H h acc) (s : Step ι H ι' H') (r : RH K H' ι' h') : Cs K ι0 H0 D ι' H' h' acc := by
  obtain ⟨vs, e, q⟩ := c.hD
  refine ⟨c.st.trans s, r, fun hm => ?_, vs, s.keep D _ e c.nD, q.mono s⟩
  rcases s.fresh D hm with z | z
  · exact c.nD z
  · rw [e] at z; cases z
theorem RWs.stab (s : Stab H H') : ∀ {vs : List V} {ws : List W}, RWs K H ι vs ws → RWs K H' ι vs ws
  | _, _, .nil => .nil
  | _, _, .cons (.d h) r => .cons (.d (h.mono s)) (RWs.stab s r)
  | _, _, .cons (.l h) r => .cons (.l h) (RWs.stab s r)
theorem RW.stab (s : Stab H H') {v : V} {w : W} (r : RW K H ι v w) : RW K H' ι v w := by
  cases r with
  | d h => exact .d (h.mono s)
  | l h => exact .l h
/-- an item more -/
theorem Cs.app {ι0 : List Addr} {H0 : Hp} {D : Addr} {acc : List W} {v : V} {w : W} (c : Cs K ι0 H0 D ι H h acc) (hf : H0 D = none) (rv : RW K H ι v w) : ∃ vs, H D = some (.lst vs) ∧ vs.length = acc.length ∧ Cs K ι0 H0 D ι (upd H D (.lst (vs ++ [v]))) h (acc ++ [w]) := by
  obtain ⟨vs, e, q⟩ := c.hD
  have sb : Stab H (upd H D (.lst (vs ++ [v]))) := fun p o hp hn => by
    by_cases z : p = D
    · subst z; rw [e] at hp; cases hp; exact absurd rfl (hn vs)
    · rw [upd_ne z]; exact hp
  refine ⟨vs, e, q.length, ⟨⟨c.st.pre, c.st.fresh, fun p o hp hn => ?_, c.st.stab.trans sb⟩, ⟨c.rh.len, c.rh.nd, fun a p ha => ?_⟩, c.nD, _, upd_same, (q.stab sb).append (.cons (rv.stab sb) .nil)⟩⟩
  · rw [upd_ne (fun z => by subst z; rw [hf] at hp; cases hp)]
    exact c.st.keep p o hp hn
  · obtain ⟨vs', ws', h1, h2, h3, h4⟩ := c.rh.cell a p ha
    exact ⟨vs', ws', by rw [upd_ne (fun z => c.nD (by rw [← z]; exact List.mem_of_getElem? ha))]; exact h1, h2, h3.stab sb, h4⟩
theorem Cs.start (r : RH K H ι h) {D : Addr} (hD : H D = none) : Cs K ι H D ι (upd H D (.lst [])) h [] := by
  obtain ⟨r', st⟩ := r.laid hD (.lst [])
  exact ⟨st, r', r.notin hD, [], upd_same, .nil⟩
/-- the whole comprehension's end -/
theorem Cs.fin {ι0 : List Addr} {H0 : Hp} {D : Addr} {acc : List W} {Q : VK} (c : Cs K ι0 H0 D ι H h acc) (hf : H0 D = none) (p : Post K ι0 H0 (.l h.length) (h ++ [acc]) Q) : Q (.ref D) H := by
  obtain ⟨vs, e, q⟩ := c.hD
  have r' := c.rh.adopt c.nD e q
  refine p _ _ (ι ++ [D]) ⟨?_, fun z hz => ?_, c.st.keep, c.st.stab⟩ r' (.l (by rw [← c.rh.len]; simp))
  · obtain ⟨t, et⟩ := c.st.pre
    exact ⟨t ++ [D], by rw [et, List.append_assoc]⟩
  · rcases List.mem_append.mp hz with y | y
    · exact c.st.fresh z y
    · rw [List.mem_singleton.mp y]; exact .inr hf

def evcJ (C : Ctx) (c : Option E) : Env → LH → Option (Bool × LH) := evc C c
theorem cond_red {C : Ctx} {c : Option E} {b : Bool} {Q : Bool → Hp → Prop} (r : Rs K σ H ρ ι h) (e : evc C c ρ h = some (b, h')) (q : ∀ H' ι', Step ι H ι' H' → RH K H' ι' h' → Q b H') : tC' C K c σ H Q := by
  cases c with
  | none =>
    unfold evc at e
    cases e
    exact q H ι (.refl _ _) r.rh
  | some c =>
    unfold evc asB at e
    split at e
    · cases e
      exact ⟨ρ, h, ι, b, h', r, by assumption, q⟩
    · cases e
theorem compItems_cons {f : W → List W → LH → Option (List W × LH)} {x : W} {xs acc : List W} {r : List W × LH} (e : compItems f (x :: xs) acc h = some r) : ∃ acc' h', f x acc h = some (acc', h') ∧ compItems f xs acc' h' = some r := by
  unfold compItems at e
  split at e
  · exact ⟨_, _, by assumption, e⟩
  · cases e
theorem compLive_succ {f : W → List W → LH → Option (List W × LH)} {a n i : Nat} {acc : List W} {r : List W × LH} (e : compLive f a (n + 1) i acc h = some r) :
    ∃ ws, h[a]? = some ws ∧ ((ws[i]? = none ∧ r = (acc, h)) ∨ ∃ x acc' h', ws[i]? = some x ∧ f x acc h = some (acc', h') ∧ compLive f a n (i + 1) acc' h' = some r) := by
  unfold compLive at e
  split at e
  · cases e
  · rename_i ws hws
    refine ⟨ws, hws, ?_⟩
    split at e
    · cases e; exact .inl ⟨by assumption, rfl⟩
    · split at e
      · exact .inr ⟨_, _, _, by assumption, by assumption, e⟩
      · cases e
/-- the turns of a source: given what one turn does (T), the loop's W. B x i H' Nx: what the reading asks of a turn -/
theorem turns_red {ι0 : List Addr} {H0 : Hp} {D : Addr} {src : Src} {J : L2.It} {f : W → List W → LH → Option (List W × LH)} {acc acc' : List W} {Qd : Hp → Prop} {B : V → Hp → (Hp → Prop) → Prop}
    (sj : SrcJ K H ι src J) (e : compSrc f src acc h = some (acc', h')) (c0 : Cs K ι0 H0 D ι H h acc)
    (turn : ∀ (x : W) (v : V) (accx accy : List W) (hx hy : LH) (ιx : List Addr) (Hx : Hp) (Nx : Hp → Prop), Cs K ι0 H0 D ιx Hx hx accx → (∃ t, ιx = ι ++ t) → Stab H Hx → RW K Hx ιx v x → f x accx hx = some (accy, hy) →
      (∀ H' ι', Cs K ι0 H0 D ι' H' hy accy → (∃ t, ι' = ι ++ t) → Stab H H' → Nx H') → B v Hx Nx)
    (fin : ∀ H' ι', Cs K ι0 H0 D ι' H' h' acc' → (∃ t, ι' = ι ++ t) → Stab H H' → Qd H') :
    ∃ W : Nat → Nat → Hp → Prop, (∃ m, W 0 m H) ∧ ∀ i m H, W i m H → (J.stop i H ∧ Qd H) ∨ (J.go i H ∧ ∃ Nx : Hp → Prop, (∀ H', Nx H' → ∃ m', m' < m ∧ W (i + 1) m' H') ∧ ∀ x H', J.yld i H x H' → B x H' Nx) := by
  cases src with
  | its ws =>
    obtain ⟨ds, rfl, sj⟩ := sj
    refine ⟨fun i m H1 => ∃ ι1 h1 acc1, Cs K ι0 H0 D ι1 H1 h1 acc1 ∧ (∃ t, ι1 = ι ++ t) ∧ Stab H H1 ∧ compItems f ((ds.map .d).drop i) acc1 h1 = some (acc', h') ∧ m = ds.length - i, ⟨_, ι, h, acc, c0, ⟨[], by simp⟩, .refl _, e, rfl⟩, ?_⟩
    rintro i m H1 ⟨ι1, h1, acc1, c1, pf, sb, e1, rfl⟩
    obtain ⟨jg, js, jy⟩ := sj i H1 sb
    by_cases hi : i < ds.length
    · refine .inr ⟨jg hi, _, fun H' hn => ⟨ds.length - (i + 1), by omega, hn⟩, fun x H' y => ?_⟩
      obtain ⟨rfl, d, hd, rd⟩ := jy x H' hi y
      rw [List.drop_eq_getElem_cons (by simpa using hi)] at e1
      have ex : (ds.map W.d)[i]'(by simpa using hi) = .d d := by
        rw [List.getElem_map]
        congr 1
        exact Option.some.inj ((List.getElem?_eq_getElem hi).symm.trans hd)
      rw [ex] at e1
      obtain ⟨acc2, h2, e2, e3⟩ := compItems_cons e1
      exact turn _ _ _ _ _ _ _ _ _ c1 pf sb (.d rd) e2 fun H' ι' c' pf' sb' => ⟨ι', h2, acc2, c', pf', sb', e3, rfl⟩
    · rw [List.drop_eq_nil_of_le (by simp; omega)] at e1
      cases e1
      exact .inl ⟨js (by omega), fin H1 ι1 c1 pf sb⟩
  | live a n =>
    obtain ⟨pa, ha, rfl⟩ := sj
    refine ⟨fun i m H1 => ∃ ι1 h1 acc1, Cs K ι0 H0 D ι1 H1 h1 acc1 ∧ (∃ t, ι1 = ι ++ t) ∧ Stab H H1 ∧ compLive f a m i acc1 h1 = some (acc', h'), ⟨n + 1, ι, h, acc, c0, ⟨[], by simp⟩, .refl _, e⟩, ?_⟩
    rintro i m H1 ⟨ι1, h1, acc1, c1, pf, sb, e1⟩
    cases m with
    | zero => cases e1
    | succ m =>
      obtain ⟨ws, hws, c⟩ := compLive_succ e1
      have ha1 : ι1[a]? = some pa := by
        obtain ⟨t, et⟩ := pf
        have hl : a < ι.length := by
          rcases Nat.lt_or_ge a ι.length with z | z
          · exact z
          · rw [List.getElem?_eq_none z] at ha; cases ha
        rw [et, List.getElem?_append_left hl]; exact ha
      obtain ⟨vs, g, q, _⟩ := c1.rh.of ha1 hws
      rcases c with ⟨hn, e2⟩ | ⟨x, acc2, h2, hx, e2, e3⟩
      · cases e2
        exact .inl ⟨⟨vs, SqL.of g, q.none hn⟩, fin H1 ι1 c1 pf sb⟩
      · obtain ⟨v, hv, rv⟩ := q.get hx
        refine .inr ⟨⟨vs, v, SqL.of g, hv⟩, _, fun H' hn => ⟨m, by omega, hn⟩, fun y H' z => ?_⟩
        obtain ⟨rfl, z⟩ := z
        have := z vs (SqL.of g)
        rw [hv] at this; cases this
        exact turn _ _ _ _ _ _ _ _ _ c1 pf sb rv e2 fun H' ι' c' pf' sb' => ⟨ι', h2, acc2, c', pf', sb', e3⟩
theorem Rs.wiped (r : Rs K σ H ρ ι h) (vs : List Nat) (st : Stab H H') (pf : ∃ t, ι' = ι ++ t) (r' : RH K H' ι' h') : Rs K (L2.wipe σ vs) H' (J.wipe ρ vs) ι' h' := by
  have r2 := r.wipe vs
  refine ⟨⟨r', fun i w e => ?_⟩, r2.len⟩
  obtain ⟨v, q, rw_⟩ := r2.rl.env i w e
  refine ⟨v, q, ?_⟩
  cases rw_ with
  | d z => exact .d (z.mono st)
  | @l a p z =>
    obtain ⟨t, et⟩ := pf
    have hl : a < ι.length := by
      rcases Nat.lt_or_ge a ι.length with y | y
      · exact y
      · rw [List.getElem?_eq_none y] at z; cases z
    exact .l (by rw [et, List.getElem?_append_left hl]; exact z)
/-- one turn of the innermost loop -/
theorem inner_red {C : Ctx} {tg : Tg} {elt : E} {c : Option E} {ι0 : List Addr} {H0 : Hp} {D : Addr} {x : W} {v : V} {acc acc' : List W} {ρ0 : Env} {σ0 : L2.St} {Nx : Hp → Prop} (cs : Cs K ι0 H0 D ι H h acc) (hf : H0 D = none)
    (r : Rs K σ0 H (J.wipe ρ0 tg.slots) ι h) (rv : RW K H ι v x) (e : turn tg ρ0 (evc C c) (ev C elt) x acc h = some (acc', h')) (hw : ∀ σ', SameOut σ' σ0 tg.slots → L2.wipe σ' tg.slots = L2.wipe σ tg.slots)
    (nx : ∀ H' ι', Cs K ι0 H0 D ι' H' h' acc' → (∃ t, ι' = ι ++ t) → Stab H H' → Nx H') :
    gT K tg v σ0 H fun σ2 H2 => L2.wipe σ2 tg.slots = L2.wipe σ tg.slots ∧ tC' C K c σ2 H2 fun b H3 => if b = true then tE C K elt σ2 H3 fun y H4 => ∃ acc, H4 D = some (.lst acc) ∧ acc.length < sizeLine ∧ Nx (upd H4 D (.lst (acc ++ [y]))) else Nx H3 := by
  unfold turn at e
  split at e
  · cases e
  · rename_i ρ1 hs
    refine gT_red rv r hs fun σ' r' so => ⟨hw σ' so, ?_⟩
    split at e
    · rename_i h1 hc
      refine cond_red r' hc fun H' ι' s r1 => ?_
      rw [if_pos rfl]
      split at e
      · rename_i w h2 he
        split at e
        · cases e
          rename_i hl
          refine ⟨ρ1, h1, ι', w, _, r'.mono s r1, he, fun y H'' ι'' s2 r2 rw_ => ?_⟩
          have cs2 := (cs.step s r1).step s2 r2
          obtain ⟨vs, e1, e2, cs3⟩ := cs2.app hf rw_
          refine ⟨vs, e1, by rw [szl, e2]; exact hl, nx _ ι'' cs3 ?_ ?_⟩
          · obtain ⟨t, et⟩ := (s.trans s2).pre
            exact ⟨t, et⟩
          · refine (s.trans s2).stab.trans fun p o hp hn => ?_
            by_cases z : p = D
            · subst z; rw [e1] at hp; cases hp; exact absurd rfl (hn vs)
            · rw [upd_ne z]; exact hp
        · cases e
      · cases e
    · cases e
      rename_i hc
      refine cond_red r' hc fun H' ι' s r1 => ?_
      rw [if_neg Bool.false_ne_true]
      exact nx H' ι' (cs.step s r1) s.pre s.stab
    · cases e
theorem comp_red {C : Ctx} {tg : Tg} {elt : E} {c : Option E} {src : Src} {J : L2.It} {acc : List W} {Q : VK} (r : Rs K σ H ρ ι h) (sj : SrcJ K H ι src J) (e : compSrc (turn tg ρ (evc C c) (ev C elt)) src [] h = some (acc, h')) (p : Post K ι H (.l h'.length) (h' ++ [acc]) Q) :
    ∀ D, H D = none → ∃ W : Nat → Nat → Hp → Prop, (∃ m, W 0 m (upd H D (.lst []))) ∧ ∀ i m H, W i m H →
      (J.stop i H ∧ Q (.ref D) H) ∨ (J.go i H ∧ ∃ Nx : Hp → Prop, (∀ H', Nx H' → ∃ m', m' < m ∧ W (i + 1) m' H') ∧ ∀ x H', J.yld i H x H' → gT K tg x (L2.wipe σ tg.slots) H' fun σ2 H2 => L2.wipe σ2 tg.slots = L2.wipe σ tg.slots ∧ tC' C K c σ2 H2 fun b H3 =>
        if b = true then tE C K elt σ2 H3 fun y H4 => ∃ acc, H4 D = some (.lst acc) ∧ acc.length < sizeLine ∧ Nx (upd H4 D (.lst (acc ++ [y]))) else Nx H3) := by
  intro D hD
  have c0 := Cs.start r.rh hD
  have sb0 : Stab H (upd H D (.lst [])) := c0.st.stab
  have sj' : SrcJ K (upd H D (.lst [])) ι src J := by
    cases src with
    | its ws => obtain ⟨ds, e1, s1⟩ := sj; exact ⟨ds, e1, fun i H' st => s1 i H' (sb0.trans st)⟩
    | live a n => exact sj
  refine turns_red (B := fun x H' Nx => gT K tg x (L2.wipe σ tg.slots) H' fun σ2 H2 => L2.wipe σ2 tg.slots = L2.wipe σ tg.slots ∧ tC' C K c σ2 H2 fun b H3 =>
        if b = true then tE C K elt σ2 H3 fun y H4 => ∃ acc, H4 D = some (.lst acc) ∧ acc.length < sizeLine ∧ Nx (upd H4 D (.lst (acc ++ [y]))) else Nx H3) (Qd := fun H => Q (.ref D) H) sj' e c0 (fun x v accx accy hx hy ιx Hx Nx cs pf sb rv ef nx => ?_) fun H' ι' cs pf sb => cs.fin hD p
  refine inner_red cs hD (r.wiped tg.slots (sb0.trans sb) pf cs.rh) rv ef (fun σ' so => ?_) fun H' ι' c' pf' sb' => nx H' ι' c' ?_ (sb.trans sb')
  · exact (so.trans (SameOut.wiped σ tg.slots)).wipe
  · obtain ⟨t, et⟩ := pf
    obtain ⟨t', et'⟩ := pf'
    exact ⟨t ++ t', by rw [et', et, List.append_assoc]⟩
end
end J
set_option maxRecDepth 100000
/-! The model's text read as J. -/
namespace J
open PySem L2 PyProof.Rows
structure Nm where
  f : List (Str × Nat)
  g : List (Str × Nat)
  t : List (Str × Nat)
  b : List Str
structure Sx where
  T : Nm
  N : List Str
  sc : Scope
  fb : Str → Bool
def slotOf : List Str → Str → Option Nat
  | [], _ => none
  | y :: r, x => if y = x then some 0 else (slotOf r x).map (· + 1)
theorem slotOf_get : ∀ {N : List Str} {x : Str} {i : Nat}, slotOf N x = some i → N[i]? = some x
  | [], _, _, h => by cases h
  | y :: r, x, i, h => by
    unfold slotOf at h
    split at h
    · cases h; subst_vars; rfl
    · obtain ⟨j, hj, rfl⟩ := Option.map_eq_some_iff.mp h
      simpa using slotOf_get hj
def visB (sc : Scope) (x : Str) : Bool := match sc.names.lookup x with
  | some .local => true
  | some .cell => true
  | some .free => true
  | _ => false
def glB (x : Sx) (y : Str) : Bool := match x.sc.names.lookup y with
  | some .globalImplicit => true
  | _ => false
def locB (x : Sx) (y : Str) : Bool := match x.sc.names.lookup y with
  | some .local => true
  | some .cell => x.fb y
  | _ => false
def dec (x : Str) : String := String.ofList (x.cps.toList.map Char.ofNat)
def okE : Expr → Bool
  | .Starred .. => false
  | .Set .. => false
  | .Slice .. => false
  | _ => true
def trC : Const → Option E
  | .int i => some (.c (.i i))
  | .bool b => some (.c (.b b))
  | .none => some (.c .none)
  | .str x => if x.cps.toList = (dec x).toList.map Char.toNat ∧ (dec x).length ≤ SZ then some (.c (.s (dec x))) else none
  | _ => none
def trName (x : Sx) (y : Str) : Option E :=
  if (y == ("__debug__" : Str)) = false ∧ (y == ("__classdict__" : Str)) = false then
    (if visB x.sc y = true then (slotOf x.N y).map .var else if glB x y = true then (x.T.g.lookup y).map .glob else none)
  else none
def bOp : Operator → Option BOp
  | .Add => some .add
  | .Sub => some .sub
  | .Mult => some .mul
  | .FloorDiv => some .fdiv
  | .Mod => some .mod
  | .Pow => some .pow
  | _ => none
def cOp : CmpOp → Option COp
  | .Lt => some .lt
  | .LtE => some .le
  | .Gt => some .gt
  | .GtE => some .ge
  | .Eq => some .eq
  | .NotEq => some .ne
  | .In => some .isin
  | .NotIn => some .nin
  | .Is => some .isb
  | .IsNot => some .nisb
def trs (f : Expr → Option E) : List Expr → Option (List E)
  | [] => some []
  | e :: r => match f e, trs f r with
    | some a, some b => some (a :: b)
    | _, _ => none
def trB (f : Expr → Option E) (mk : E → E → E) : List Expr → Option E
  | [] => none
  | a :: r => match r with
    | [] => f a
    | _ :: _ => match f a, trB f mk r with
      | some x, some y => some (mk x y)
      | _, _ => none
def isNone : Expr → Bool
  | .Constant .none _ _ => true
  | _ => false
def trC1 (f : Expr → Option E) (a : Expr) (o : CmpOp) (b : Expr) : Option E := match cOp o, f a, f b with
  | some o, some x, some y => some (.cmp o x y)
  | _, _, _ => none
def trCmp (f : Expr → Option E) (a : Expr) : List CmpOp → List Expr → Option E
  | [.Is], [b] => if isNone b then (f a).map .isN else trC1 f a .Is b
  | [.IsNot], [b] => if isNone b then (f a).map .isNN else trC1 f a .IsNot b
  | [o], [b] => trC1 f a o b
  | [o, o'], [b, c] => match cOp o, cOp o', f a, f b, f c with
    | some o, some o', some x, some y, some z => some (.chain o o' x y z)
    | _, _, _, _, _ => none
  | _, _ => none
def isM1 : Expr → Bool
  | .UnaryOp .USub (.Constant (.int 1) _ _) _ => true
  | _ => false
def trO (f : Expr → Option E) : Option Expr → Option (Option E)
  | none => some none
  | some e => (f e).map some
def trSub (f : Expr → Option E) (x : Sx) (v s : Expr) : Option E := match s with
  | .Slice lo hi none _ => match f v, trO f lo, trO f hi with
    | some a, some b, some c => some (.sl a b c)
    | _, _, _ => none
  | .Slice none none (some st) _ => if isM1 st then (f v).map .rev else none
  | s => match v with
    | .Name y _ => if glB x y = true ∧ (y == ("__debug__" : Str)) = false then (match x.T.t.lookup y, f s with
        | some g, some i => some (.dix g i)
        | _, _ => (match f v, f s with
          | some a, some b => some (.ix a b)
          | _, _ => none)) else (match f v, f s with
        | some a, some b => some (.ix a b)
        | _, _ => none)
    | v => match f v, f s with
      | some a, some b => some (.ix a b)
      | _, _ => none
def bltB (x : Sx) (y : Str) : Bool := glB x y && x.T.b.contains y
def biOf2 (y : Str) (n : Nat) : Option Bi :=
  if y = "sorted" ∧ n = 1 then some .sorted else if y = "sum" ∧ n = 1 then some .sum else if y = "max" ∧ n = 1 then some .maxL else none
/-- the built-ins of one name, by the number of arguments -/
def biOf (y : Str) (n : Nat) : Option Bi :=
  if y = "len" ∧ n = 1 then some .len else if y = "tuple" ∧ n = 1 then some .tuple else if y = "list" ∧ n = 1 then some .list else if y = "int" ∧ n = 1 then some .int else
  if y = "bool" ∧ n = 1 then some .bool else if y = "all" ∧ n = 1 then some .all else if y = "any" ∧ n = 1 then some .any else if y = "max" ∧ n = 2 then some .max2 else if y = "min" ∧ n = 2 then some .min2  else if y = "abs" ∧ n = 1 then some .abs else biOf2 y n
def isiOf (y : Str) : Option Bi := if y = "int" then some .isInt else if y = "bool" then some .isBool else if y = "str" then some .isStr else if y = "tuple" then some .isTuple else none
def meOf (y : Str) (n : Nat) : Option Me :=
  if y = "append" ∧ n = 1 then some .append else if y = "extend" ∧ n = 1 then some .extend else if y = "pop" ∧ n = 0 then some .pop else if y = "reverse" ∧ n = 0 then some .reverse else if y = "index" ∧ n = 1 then some .index else if y = "pop" ∧ n = 1 then some .popAt else none
def recv : Expr → Bool
  | .Name .. => true
  | .Subscript .. => true
  | .Call (.Name y _) [] [] _ => y != ("super" : Str)
  | _ => false
def nmOf : Expr → Option Str
  | .Name y _ => some y
  | _ => none
/-- list(range(..)), tuple(range(..)) -/
def trRng (f : Expr → Option E) (x : Sx) (y : Str) (args : List Expr) : Option E := match args with
  | [.Call fn ras kws _] => match nmOf fn with
    | some z => if (y = "list" ∨ y = "tuple") ∧ z = "range" ∧ kws.isEmpty = true ∧ bltB x z = true then (match ras with
        | [a] => (f a).map fun u => .ofIt (decide (y = "tuple")) (.r1 u)
        | [a, b] => (match f a, f b with
          | some u, some w => some (.ofIt (decide (y = "tuple")) (.r2 u w))
          | _, _ => none)
        | _ => none) else none
    | none => none
  | _ => none
def trCall (f : Expr → Option E) (x : Sx) (fn : Expr) (args : List Expr) (kws : List Keyword) (pos : Pos) : Option E :=
  if kws.isEmpty = true then
    match fn with
    | .Name y _ =>
      if (y == ("__debug__" : Str)) = false ∧ glB x y = true then
        match x.T.f.lookup y with
        | some g => (trs f args).map (.call g)
        | none =>
          if x.T.b.contains y = true then
            if y = "isinstance" then
              match args with
              | [a, t] => match nmOf t with
                | some c => if bltB x c = true then (match isiOf c, f a with
                    | some k, some u => some (.bi k [u])
                    | _, _ => none) else none
                | none => none
              | _ => none
            else match trRng f x y args with
              | some z => some z
              | none => match biOf y args.length, trs f args with
                | some k, some us => some (.bi k us)
                | _, _ => none
          else none
      else none
    | .Attribute o m apos => if recv o = true ∧ (apos.endLine == pos.line) = true then
        match meOf m args.length, f o, trs f args with
        | some k, some u, some us => some (.meth k u us)
        | _, _, _ => none
      else none
    | _ => none
  else none
def trTgs (x : Sx) : List Expr → Option (List Nat)
  | [] => some []
  | e :: r => match nmOf e with
    | some y => if locB x y = true then (match slotOf x.N y, trTgs x r with
      | some i, some is => some (i :: is)
      | _, _ => none) else none
    | none => none
def trTg (x : Sx) : Expr → Option Tg
  | .Name y _ => if locB x y = true then (slotOf x.N y).map .n else none
  | .Tuple es _ _ => (trTgs x es).map .t
  | _ => none
def trIt (f : Expr → Option E) (x : Sx) (e : Expr) : Option It := match e with
  | .Call fn args kws pos => match nmOf fn with
    | some y => if y = "range" ∧ kws.isEmpty = true ∧ bltB x y = true then (match args with
        | [a] => (f a).map .r1
        | [a, b] => (match f a, f b with
          | some u, some w => some (.r2 u w)
          | _, _ => none)
        | _ => none) else (f e).map .sq
    | none => (f e).map .sq
  | e => (f e).map .sq
def trIfs (f : Expr → Option E) : List Expr → Option (Option E)
  | [] => some none
  | [c] => (f c).map some
  | _ => none
def ownOf (N : List Str) : Expr → Option (List (Str × Nat))
  | .Name y _ => (slotOf N y).map fun i => [(y, i)]
  | .Tuple es _ _ => go es
  | _ => none
where go : List Expr → Option (List (Str × Nat))
  | [] => some []
  | e :: r => match nmOf e with
    | some y => (match slotOf N y, go r with
      | some i, some is => some ((y, i) :: is)
      | _, _ => none)
    | none => none
def blkS (x : Sx) (scope : Scope) : Sx := { x with sc := relS scope x.sc, fb := fun y => scope.names.lookup y == some .cell }
def trComp1 (f : Sx → Expr → Option E) (x : Sx) (elt : Expr) (scope : Scope) (tg iter : Expr) (ifs : List Expr) (a : Int) : Option E := if a = 0 ∧ okE iter = true then
      match ownOf x.N tg, trTg (blkS x scope) tg, trIt (f x) x iter, trIfs (f (blkS x scope)) ifs, f (blkS x scope) elt with
      | some own, some t, some i, some c, some e => if blkC x.N x.sc scope own = true ∧ own.map (·.2) = t.slots then some (.comp e t i c) else none
      | _, _, _, _, _ => none
    else none
def trComp2 (f : Sx → Expr → Option E) (x : Sx) (elt : Expr) (scope : Scope) (tg iter : Expr) (ifs : List Expr) (a : Int) (tg1 iter1 : Expr) (ifs1 : List Expr) (a1 : Int) : Option E := if a = 0 ∧ a1 = 0 ∧ okE iter = true ∧ okE iter1 = true ∧ ifs.isEmpty = true then
      match ownOf x.N tg, ownOf x.N tg1, trTg (blkS x scope) tg, trTg (blkS x scope) tg1, trIt (f x) x iter, trIt (f (blkS x scope)) (blkS x scope) iter1, trIfs (f (blkS x scope)) ifs1, f (blkS x scope) elt with
      | some own, some own1, some t, some t1, some i, some i1, some c, some e => if blkC x.N x.sc scope (own ++ own1) = true ∧ own.map (·.2) = t.slots ∧ own1.map (·.2) = t1.slots then some (.comp2 e t i t1 i1 c) else none
      | _, _, _, _, _, _, _, _ => none
    else none
def trComp (f : Sx → Expr → Option E) (x : Sx) (elt : Expr) (gs : List Comprehension) (scope : Scope) : Option E := match gs with
  | [⟨tg, iter, ifs, a⟩] => trComp1 f x elt scope tg iter ifs a
  | [⟨tg, iter, ifs, a⟩, ⟨tg1, iter1, ifs1, a1⟩] => trComp2 f x elt scope tg iter ifs a tg1 iter1 ifs1 a1
  | _ => none
def tr : Nat → Sx → Expr → Option E
  | 0, _, _ => none
  | n + 1, x, e => match e with
    | .Name y _ => trName x y
    | .Constant c _ _ => trC c
    | .Tuple es _ _ => (trs (tr n x) es).map .tup
    | .List es _ => (trs (tr n x) es).map .lst
    | .BinOp a op b _ => (match bOp op, tr n x a, tr n x b with
      | some o, some u, some w => some (.bin o u w)
      | _, _, _ => none)
    | .UnaryOp op a _ => (match op with
      | .Not => (tr n x a).map .not
      | .USub => (tr n x a).map .neg
      | _ => none)
    | .Compare a ops cs _ => trCmp (tr n x) a ops cs
    | .BoolOp op vs _ => (match op with
      | .And => trB (tr n x) .and vs
      | .Or => trB (tr n x) .or vs)
    | .IfExp c a b _ => (match tr n x c, tr n x a, tr n x b with
      | some k, some u, some w => some (.ite k u w)
      | _, _, _ => none)
    | .Subscript v s _ => trSub (tr n x) x v s
    | .Call fn args kws pos => trCall (tr n x) x fn args kws pos
    | .ListComp elt gs scope _ => trComp (tr n) x elt gs scope
    | _ => none

theorem tr_ok {n : Nat} {x : Sx} {e : Expr} {E : E} (h : tr n x e = some E) : okE e = true := by
  cases n with
  | zero => cases h
  | succ n => cases e <;> first | rfl | (unfold tr at h; cases h)
theorem ok_star {e : Expr} (h : okE e = true) (es : List Expr) (env : PySem.Env) : starEach (e :: es) env = (false, eval e env) :: starEach es env := by
  cases e <;> first | rfl | cases h
theorem ok_marks {e : Expr} (h : okE e = true) (op : CmpOp) : behindInMarks op e = false := by
  cases e <;> first | rfl | cases h
theorem ok_fold {e : Expr} (h : okE e = true) (env : PySem.Env) (x : Value) : foldedSetIterable e env x = pure x := by
  cases e <;> first | rfl | cases h
theorem ok_plain {e : Expr} (h : okE e = true) : PlainIx e := by
  cases e <;> first | exact fun _ _ => rfl | cases h
def isLc : Expr → Bool
  | .ListComp .. => true
  | .SetComp .. => true
  | .DictComp .. => true
  | _ => false
theorem noLc_swaps {e : Expr} (h : isLc e = false) (t : Option Expr) (l : Nat) (env : PySem.Env) : swapsWith e t l env = pure false := by
  cases e <;> first | rfl | cases h
theorem trs_all {f : Expr → Option E} : ∀ {es : List Expr} {Es : List E}, trs f es = some Es → ∀ {P : Expr → Prop}, (∀ e E, f e = some E → P e) → ∀ e ∈ es, P e
  | [], _, _, _, _, _, h => by cases h
  | e :: r, Es, h, P, hp, e', he => by
    unfold trs at h
    split at h
    · rename_i a b h1 h2
      rcases List.mem_cons.mp he with rfl | he
      · exact hp _ _ h1
      · exact trs_all h2 hp e' he
    · cases h
theorem star_plain : ∀ {es : List Expr} (h : ∀ e ∈ es, okE e = true) (pos : Pos) (env : PySem.Env), ((backTo pos (starEach es env)).any (·.1)) = false
  | [], _, _, _ => rfl
  | e :: r, h, pos, env => by
    rw [ok_star (h e List.mem_cons_self)]
    show (false || (backTo pos (starEach r env)).any (·.1)) = false
    rw [star_plain (fun e' he => h e' (List.mem_cons_of_mem _ he))]; rfl
end J
set_option maxRecDepth 100000
/-! What is read as J keeps J's promise: expressions. -/
namespace J
open PySem L2 PyProof.Rows
/-- what a call of the def f, at most k deep, promises -/
def spJ (K : Fg) (J : Prog) (k f : Nat) : Sp := fun vs H Q _ => ∃ ι h ws w h', RH K H ι h ∧ RWs K H ι vs ws ∧ call J k f ws h = some (w, h') ∧ Post K ι H w h' Q
structure Facts (P : Program) (w : World) (K : Fg) (mg : Str → Option Value) (base : Heap) (T : Nm) (J : Prog) (k : Nat) : Prop where
  fns : ∀ x f d, T.f.lookup x = some f → J.F f = some d → ∃ a fd ps, mg x = some (.ref a) ∧ PySem.W.keepIn K (.ref a) = true ∧ Binds K fd ps [] ∧ FnOk P w K mg base CX0 k a fd ps (spJ K J k f)
  gs : ∀ x g c, T.g.lookup x = some g → J.G g = some c → ∃ v u, mg x = some u ∧ RelV v u ∧ ∀ H, RD K H v c
  ts : ∀ x g s c, T.t.lookup x = some g → J.T g s = some c → ∃ a, mg x = some (.ref a) ∧ ∀ z, EncS s z → ∃ v, KDct K w a z v ∧ ∀ H, RD K H v c
  bs : ∀ x, T.b.contains x = true → mg x = none
abbrev cJ (J : Prog) (k : Nat) : Ctx := ⟨J.G, J.T, call J k, J.wf⟩
structure Good (x : Sx) (k : Nat) (X : Cx) : Prop where
  N : X.N = x.N
  nd : X.N.Nodup
  calm : X.calm = true
  room : Room k X.A
  sc : X.env.scope = x.sc
  fb : X.fn = x.fb
  xe : X.xe = fun _ _ => False
theorem Good.blk {x : Sx} {k : Nat} {X : Cx} (g : Good x k X) (scope : Scope) (s : Shared) (H : Hp) (C : Addr) (cl : List (Str × Addr)) (fp : List Addr) : Good (blkS x scope) k (X.blk s H scope (compEnvC scope cl C X.env) fp) :=
  ⟨g.N, g.nd, g.calm, g.room, by show relS scope X.env.scope = relS scope x.sc; rw [g.sc], rfl, rfl⟩
theorem _root_.L2.PE.monoJ {X : Cx} {e : Expr} {t t' : TE} (h : PE X e t) (m : ∀ σ H Q, t' σ H Q → t σ H Q) : PE X e t' := ⟨fun pins s σ H Q I q => h.run pins s σ H Q I (m _ _ _ q)⟩
theorem _root_.L2.PT.monoJ {X : Cx} {e : Expr} {t t' : TT} (h : PT X e t) (m : ∀ σ H Q, t' σ H Q → t σ H Q) : PT X e t' := ⟨fun pins s σ H Q I q => h.run pins s σ H Q I (m _ _ _ q)⟩
theorem _root_.L2.PA.monoJ {X : Cx} {e : List Expr} {t t' : TA} (h : PA X e t) (m : ∀ σ H Q, t' σ H Q → t σ H Q) : PA X e t' := ⟨fun pos pins s σ H Q I q => h.run pos pins s σ H Q I (m _ _ _ q)⟩
section
variable {X : Cx} {x : Sx} {J : Prog} {k : Nat}
theorem Good.vis (g : Good x k X) {y : Str} (h : visB x.sc y = true) : Vis X.env.scope y := by
  rw [g.sc]
  unfold visB at h
  unfold Vis
  split at h
  · exact .inl (by assumption)
  · exact .inr (.inl (by assumption))
  · exact .inr (.inr (by assumption))
  · cases h
theorem Good.gl (g : Good x k X) {y : Str} (h : glB x y = true) : Gl X y := by
  unfold Gl PySem.Env.kindOf
  rw [g.sc]
  unfold glB at h
  split at h
  · assumption
  · cases h
theorem Good.units (g : Good x k X) : X.A.units + 70 < cLine := by have := g.room.un; omega
/-- two values' results, one behind the other -/
theorem ev2 {C : Ctx} {a b : E} {ρ : Env} {h : LH} {α : Type} {f : W → W → LH → Option α} {r : α} (e : (match ev C a ρ h with
    | some (u, h1) => match ev C b ρ h1 with
      | some (w, h2) => f u w h2
      | none => none
    | none => none) = some r) : ∃ u h1 w h2, ev C a ρ h = some (u, h1) ∧ ev C b ρ h1 = some (w, h2) ∧ f u w h2 = some r := by
  split at e
  · split at e
    · exact ⟨_, _, _, _, by assumption, by assumption, e⟩
    · cases e
  · cases e
theorem evs_cons {C : Ctx} {a : E} {es : List E} {ρ : Env} {h h' : LH} {ws : List W} (e : evs C (a :: es) ρ h = some (ws, h')) : ∃ w h1 us, ev C a ρ h = some (w, h1) ∧ evs C es ρ h1 = some (us, h') ∧ ws = w :: us := by
  unfold evs at e
  split at e
  · split at e
    · cases e; exact ⟨_, _, _, by assumption, by assumption, rfl⟩
    · cases e
  · cases e
theorem snd_name (g : Good x k X) (F : Facts X.prog X.w X.K X.mg X.base x.T J k) {y : Str} {pos : Pos} {Z : E} (h : trName x y = some Z) : PE X (.Name y pos) (tE (cJ J k) X.K Z) := by
  unfold trName at h
  split at h
  · rename_i hd
    split at h
    · rename_i hv
      obtain ⟨i, hi, rfl⟩ := Option.map_eq_some_iff.mp h
      refine (pe_var (i := i) (by rw [g.N]; exact slotOf_get hi) (g.vis hv) hd.1 hd.2).monoJ ?_
      rintro σ H Q ⟨ρ, h, ι, w, h', r, e, p⟩
      unfold ev at e
      split at e
      · cases e
        obtain ⟨v, hv, rv⟩ := r.rl.env i _ (by assumption)
        exact ⟨v, hv, p.same r.rh rv⟩
      · cases e
    · split at h
      · rename_i hg
        obtain ⟨i, hi, rfl⟩ := Option.map_eq_some_iff.mp h
        cases hc : J.G i with
        | none =>
          refine ⟨fun pins s σ H Q I hq => ?_⟩
          obtain ⟨ρ, h, ι, w, h', r, e, p⟩ := hq
          unfold ev at e
          rw [show (cJ J k).G i = none from hc] at e
          cases e
        | some c =>
          obtain ⟨v, u, hm, rv, rd⟩ := F.gs y i c hi hc
          refine (pe_glob (g.gl hg) hm rv hd.1).monoJ ?_
          rintro σ H Q ⟨ρ, h, ι, w, h', r, e, p⟩
          unfold ev at e
          rw [show (cJ J k).G i = some c from hc] at e
          cases e
          exact p.dat r.rh (rd H)
      · cases h
  · cases h
theorem snd_const {c : Const} {j : Nat} {pos : Pos} {Z : E} (h : trC c = some Z) : PE X (.Constant c j pos) (tE (cJ J k) X.K Z) := by
  have key : ∀ {v : V} {d : D} {C : Ctx}, (∀ H, RD X.K H v d) → ∀ σ H Q, tE C X.K (.c d) σ H Q → tC v σ H Q := by
    rintro v d C rd σ H Q ⟨ρ, h, ι, w, h', r, e, p⟩
    unfold ev at e
    cases e
    exact p.dat r.rh (rd H)
  cases c with
  | none => cases h; exact pe_non.monoJ (key fun _ => .non)
  | bool b => cases h; exact pe_bl.monoJ (key fun _ => .b b)
  | int i => cases h; exact pe_int.monoJ (key fun _ => .i i)
  | str z =>
    replace h : (if z.cps.toList = (dec z).toList.map Char.toNat ∧ (dec z).length ≤ SZ then some (E.c (.s (dec z))) else none) = some Z := h
    split at h
    · cases h
      rename_i hz
      exact pe_str.monoJ (key fun _ => .s hz.1 hz.2)
    · cases h
  | float _ => cases h
  | complex _ _ => cases h
  | bytes _ => cases h
  | ellipsis => cases h
abbrev Snd (X : Cx) (J : Prog) (k : Nat) (f : Expr → Option E) : Prop := ∀ (e : Expr) (Z : E), f e = some Z → okE e = true ∧ PE X e (tE (cJ J k) X.K Z)
theorem snd_args {f : Expr → Option E} (hf : Snd X J k f) : ∀ {es : List Expr} {Es : List E}, trs f es = some Es → PA X es (tAs (cJ J k) X.K Es)
  | [], Es, h => by
    cases h
    refine pa_nil.monoJ ?_
    rintro σ H Q ⟨ρ, h, ι, ws, h', r, e, p⟩
    unfold evs at e
    cases e
    exact p [] H ι (.refl _ _) r.rh .nil
  | e :: es, Es, h => by
    unfold trs at h
    split at h
    · cases h
      rename_i a b h1 h2
      obtain ⟨ok, pe⟩ := hf _ _ h1
      refine (pa_cons pe (snd_args hf h2) (ok_star ok es X.env)).monoJ ?_
      rintro σ H Q ⟨ρ, h, ι, ws, h', r, e, p⟩
      obtain ⟨w, hx, us, e1, e2, rfl⟩ := evs_cons e
      refine ⟨ρ, h, ι, w, hx, r, e1, fun v H1 ι1 s1 r1 q1 => ⟨ρ, hx, ι1, us, _, r.mono s1 r1, e2, fun vs H2 ι2 s2 r2 q2 => ?_⟩⟩
      exact p _ _ _ (s1.trans s2) r2 (.cons (q1.mono s2) q2)
    · cases h
theorem trs_len {f : Expr → Option E} : ∀ {es : List Expr} {Es : List E}, trs f es = some Es → es.length = Es.length
  | [], Es, h => by cases h; rfl
  | e :: es, Es, h => by
    unfold trs at h
    split at h
    · cases h
      rename_i h1 h2
      show es.length + 1 = _ + 1
      rw [trs_len h2]
    · cases h
theorem snd_tuple {f : Expr → Option E} (hf : Snd X J k f) {es : List Expr} {j : Nat} {pos : Pos} {Z : E} (h : (trs f es).map E.tup = some Z) : PE X (.Tuple es j pos) (tE (cJ J k) X.K Z) := by
  obtain ⟨Es, hE, rfl⟩ := Option.map_eq_some_iff.mp h
  refine (pe_tupN (snd_args hf hE)).monoJ ?_
  rintro σ H Q ⟨ρ, h, ι, w, h', r, e, p⟩
  unfold ev at e
  split at e
  · rename_i ws h1 e1
    unfold mkT at e
    split at e
    · rename_i ds hd
      split at e
      · cases e
        refine ⟨ρ, h, ι, ws, _, r, e1, fun vs H1 ι1 s1 r1 q1 => ?_⟩
        have qd := q1.allD hd
        exact ⟨by rw [szl, qd.length]; assumption, (p.step s1).tup r1 qd⟩
      · cases e
    · cases e
  · cases e
theorem snd_list {f : Expr → Option E} (hf : Snd X J k f) {es : List Expr} {pos : Pos} {Z : E} (h : (trs f es).map E.lst = some Z) : PE X (.List es pos) (tE (cJ J k) X.K Z) := by
  obtain ⟨Es, hE, rfl⟩ := Option.map_eq_some_iff.mp h
  refine (pe_lst (snd_args hf hE)).monoJ ?_
  rintro σ H Q ⟨ρ, h, ι, w, h', r, e, p⟩
  unfold ev at e
  split at e
  · rename_i ws h1 e1
    unfold new at e
    split at e
    · cases e
      refine ⟨ρ, h, ι, ws, _, r, e1, fun vs H1 ι1 s1 r1 q1 => ?_⟩
      exact ⟨by rw [szl, q1.length]; assumption, (p.step s1).lst r1 q1⟩
    · cases e
  · cases e
theorem snd_bin {f : Expr → Option E} (hf : Snd X J k f) {a b : Expr} {op : Operator} {pos : Pos} {Z : E} (h : (match bOp op, f a, f b with
      | some o, some u, some w => some (E.bin o u w)
      | _, _, _ => none) = some Z) : PE X (.BinOp a op b pos) (tE (cJ J k) X.K Z) := by
  split at h
  · rename_i o u w ho ha hb
    cases h
    have hop : OpR X (binaryOp op) (rJ2 X.K fun h u w => binop h o u w) := by
      have := op_binJ (X := X) o
      cases op <;> cases ho <;> exact this
    refine (pe_op hop (hf _ _ ha).2 (hf _ _ hb).2).monoJ ?_
    rintro σ H Q ⟨ρ, h, ι, w, h', r, e, p⟩
    unfold ev at e
    obtain ⟨u', h1, w', h2, e1, e2, e3⟩ := ev2 e
    refine ⟨ρ, h, ι, u', h1, r, e1, fun v H1 ι1 s1 r1 q1 => ⟨ρ, h1, ι1, w', h2, r.mono s1 r1, e2, fun v' H2 ι2 s2 r2 q2 => ?_⟩⟩
    exact ⟨ι2, h2, u', w', _, _, r2, q1.mono s2, q2, e3, p.step (s1.trans s2)⟩
  · cases h
theorem snd_not {a : Expr} {A : E} {pos : Pos} (ha : PE X a (tE (cJ J k) X.K A)) : PE X (.UnaryOp .Not a pos) (tE (cJ J k) X.K (.not A)) := by
  refine (pe_not ha).monoJ ?_
  rintro σ H Q ⟨ρ, h, ι, w, h', r, e, p⟩
  unfold ev at e
  split at e
  · cases e
    rename_i b e1
    refine ⟨ρ, h, ι, _, _, r, e1, fun v H1 ι1 s1 r1 q1 => ?_⟩
    cases q1 with | d q1 => cases q1; exact ⟨b, rfl, (p.step s1).dat r1 (.b _)⟩
  · cases e
theorem snd_neg {a : Expr} {A : E} {pos : Pos} (ha : PE X a (tE (cJ J k) X.K A)) : PE X (.UnaryOp .USub a pos) (tE (cJ J k) X.K (.neg A)) := by
  refine (pe_un un_neg ha).monoJ ?_
  rintro σ H Q ⟨ρ, h, ι, w, h', r, e, p⟩
  unfold ev at e
  split at e
  · cases e
    rename_i b e1
    refine ⟨ρ, h, ι, _, _, r, e1, fun v H1 ι1 s1 r1 q1 => ?_⟩
    cases q1 with | d q1 => cases q1; exact ⟨b, rfl, (p.step s1).dat r1 (.i _)⟩
  · cases e
theorem cop_run (g : Good x k X) {op : CmpOp} {o : COp} (ho : cOp op = some o) : OpR X (compareOp op) (rJc X.K fun h u w => cmpop h o u w) := by
  have := op_cmpJ (X := X) g.units o
  cases op <;> cases ho <;> exact this
theorem isNone_eq {b : Expr} (h : isNone b = true) : ∃ j p, b = .Constant .none j p := by
  unfold isNone at h
  split at h
  · exact ⟨_, _, rfl⟩
  · cases h
/-- what a comparison's value is asked, of its test -/
theorem tB_fin {t : TE} {Z : E} (m : ∀ σ H Q, tE (cJ J k) X.K Z σ H Q → t σ H Q) : ∀ σ H Q, tB' (cJ J k) X.K Z σ H Q → t σ H (fun x H' => ∃ c, x = .bl c ∧ Q c H') := by
  rintro σ H Q ⟨ρ, h, ι, b, h', r, e, p⟩
  refine m σ H _ ⟨ρ, h, ι, _, h', r, e, fun v H' ι' s1 r1 q1 => ?_⟩
  cases q1 with | d q1 => cases q1; exact ⟨b, rfl, p H' ι' s1 r1⟩
theorem snd_c1 (g : Good x k X) {f : Expr → Option E} (hf : Snd X J k f) {a b : Expr} {o : CmpOp} {pos : Pos} {Z : E} (h : trC1 f a o b = some Z) :
    PE X (.Compare a [o] [b] pos) (tE (cJ J k) X.K Z) ∧ PT X (.Compare a [o] [b] pos) (tB' (cJ J k) X.K Z) := by
  unfold trC1 at h
  split at h
  · cases h
    rename_i o' u w ho ha hb
    have m : ∀ σ H Q, tE (cJ J k) X.K (.cmp o' u w) σ H Q → tOp (rJc X.K fun h u w => cmpop h o' u w) (tE (cJ J k) X.K u) (tE (cJ J k) X.K w) σ H Q := by
      rintro σ H Q ⟨ρ, h, ι, w, h', r, e, p⟩
      unfold ev at e
      obtain ⟨u', h1, w', h2, e1, e2, e3⟩ := ev2 e
      split at e3
      · cases e3
        refine ⟨ρ, h, ι, u', h1, r, e1, fun v H1 ι1 s1 r1 q1 => ⟨ρ, h1, ι1, w', _, r.mono s1 r1, e2, fun v' H2 ι2 s2 r2 q2 => ?_⟩⟩
        exact ⟨ι2, _, u', w', _, r2, q1.mono s2, q2, by assumption, (p.step (s1.trans s2)).dat r2 (.b _)⟩
      · cases e3
    have mk := ok_marks (hf _ _ hb).1 o
    exact ⟨(pe_cmpR (cop_run g ho) (hf _ _ ha).2 (hf _ _ hb).2 mk).monoJ m, (pt_cmpR (cop_run g ho) (hf _ _ ha).2 (hf _ _ hb).2 mk).monoJ (tB_fin m)⟩
  · cases h
/-- a comparison, as a value and as a test -/
theorem snd_cmp (g : Good x k X) {f : Expr → Option E} (hf : Snd X J k f) {a : Expr} {ops : List CmpOp} {cs : List Expr} {pos : Pos} {Z : E} (h : trCmp f a ops cs = some Z) :
    PE X (.Compare a ops cs pos) (tE (cJ J k) X.K Z) ∧ PT X (.Compare a ops cs pos) (tB' (cJ J k) X.K Z) := by
  have fin : ∀ {t : TE}, (∀ σ H Q, tE (cJ J k) X.K Z σ H Q → t σ H Q) → ∀ σ H Q, tB' (cJ J k) X.K Z σ H Q → t σ H (fun x H' => ∃ c, x = .bl c ∧ Q c H') := by
    rintro t m σ H Q ⟨ρ, h, ι, b, h', r, e, p⟩
    refine m σ H _ ⟨ρ, h, ι, _, h', r, e, fun v H' ι' s1 r1 q1 => ?_⟩
    cases q1 with | d q1 => cases q1; exact ⟨b, rfl, p H' ι' s1 r1⟩
  unfold trCmp at h
  split at h
  · rename_i b
    split at h
    · rename_i hn
      obtain ⟨j, p, rfl⟩ := isNone_eq hn
      obtain ⟨A, ha, rfl⟩ := Option.map_eq_some_iff.mp h
      have m : ∀ σ H Q, tE (cJ J k) X.K (.isN A) σ H Q → tIsN (tE (cJ J k) X.K A) σ H Q := by
        rintro σ H Q ⟨ρ, h, ι, w, h', r, e, p⟩
        unfold ev at e
        split at e
        · cases e
          refine ⟨ρ, h, ι, _, _, r, by assumption, fun v H1 ι1 s1 r1 q1 => ?_⟩
          cases q1 with | d q1 => cases q1; exact (p.step s1).dat r1 (.b _)
        · cases e
          rename_i w' hn e1
          refine ⟨ρ, h, ι, _, _, r, e1, fun v H1 ι1 s1 r1 q1 => ?_⟩
          have : decide (v = .non) = false := by
            refine decide_eq_false ?_
            rintro rfl
            cases q1 with | d q1 => cases q1; exact hn rfl
          show Q (V.bl (decide (v = .non))) H1
          rw [this]
          exact (p.step s1).dat r1 (.b _)
        · cases e
      have pc := pc_isN (j := j) (pos' := p) (hf _ _ ha).2
      exact ⟨(pe_cmp pc).monoJ m, (pt_cmp pc).monoJ (fin m)⟩
    · exact snd_c1 g hf h
  · rename_i b
    split at h
    · rename_i hn
      obtain ⟨j, p, rfl⟩ := isNone_eq hn
      obtain ⟨A, ha, rfl⟩ := Option.map_eq_some_iff.mp h
      have m : ∀ σ H Q, tE (cJ J k) X.K (.isNN A) σ H Q → tNotN (tE (cJ J k) X.K A) σ H Q := by
        rintro σ H Q ⟨ρ, h, ι, w, h', r, e, p⟩
        unfold ev at e
        split at e
        · cases e
          refine ⟨ρ, h, ι, _, _, r, by assumption, fun v H1 ι1 s1 r1 q1 => ?_⟩
          cases q1 with | d q1 => cases q1; exact (p.step s1).dat r1 (.b _)
        · cases e
          rename_i w' hn e1
          refine ⟨ρ, h, ι, _, _, r, e1, fun v H1 ι1 s1 r1 q1 => ?_⟩
          have : decide (v = .non) = false := by
            refine decide_eq_false ?_
            rintro rfl
            cases q1 with | d q1 => cases q1; exact hn rfl
          show Q (V.bl (!decide (v = .non))) H1
          rw [this]
          exact (p.step s1).dat r1 (.b _)
        · cases e
      have pc := pc_notN (j := j) (pos' := p) (hf _ _ ha).2
      exact ⟨(pe_cmp pc).monoJ m, (pt_cmp pc).monoJ (fin m)⟩
    · exact snd_c1 g hf h
  · exact snd_c1 g hf h
  · rename_i o o' b c
    split at h
    · cases h
      rename_i o1 o2 u w z ho ho' ha hb hc
      have m : ∀ σ H Q, tE (cJ J k) X.K (.chain o1 o2 u w z) σ H Q → tChain (rJc X.K fun h u w => cmpop h o1 u w) (rJc X.K fun h u w => cmpop h o2 u w) (tE (cJ J k) X.K u) (tE (cJ J k) X.K w) (tE (cJ J k) X.K z) σ H Q := by
        rintro σ H Q ⟨ρ, h, ι, w, h', r, e, p⟩
        unfold ev at e
        obtain ⟨u', h1, w', h2, e1, e2, e3⟩ := ev2 e
        refine ⟨ρ, h, ι, u', h1, r, e1, fun v H1 ι1 s1 r1 q1 => ⟨ρ, h1, ι1, w', h2, r.mono s1 r1, e2, fun v' H2 ι2 s2 r2 q2 => ?_⟩⟩
        split at e3
        · rename_i c1
          split at e3
          · rename_i z' h3 e4
            split at e3
            · cases e3
              refine ⟨ι2, _, u', w', _, r2, q1.mono s2, q2, c1, true, rfl, ?_⟩
              rw [if_pos rfl]
              refine ⟨ρ, h2, ι2, z', _, r.mono (s1.trans s2) r2, e4, fun v3 H3 ι3 s3 r3 q3 => ?_⟩
              exact ⟨ι3, _, w', z', _, r3, q2.mono s3, q3, by assumption, (p.step ((s1.trans s2).trans s3)).dat r3 (.b _)⟩
            · cases e3
          · cases e3
        · cases e3
          rename_i c1
          refine ⟨ι2, _, u', w', _, r2, q1.mono s2, q2, c1, false, rfl, ?_⟩
          rw [if_neg Bool.false_ne_true]
          exact (p.step (s1.trans s2)).dat r2 (.b _)
        · cases e3
      have mk : lastMarks [o, o'] [b, c] = false := ok_marks (hf _ _ hc).1 o'
      exact ⟨(pe_chain (cop_run g ho) (cop_run g ho') (hf _ _ ha).2 (hf _ _ hb).2 (hf _ _ hc).2 mk).monoJ m, (pt_chain (cop_run g ho) (cop_run g ho') (hf _ _ ha).2 (hf _ _ hb).2 (hf _ _ hc).2 mk).monoJ (fin m)⟩
    · cases h
  · cases h
end
end J
set_option maxRecDepth 100000
namespace J
open PySem L2 PyProof.Rows
section
variable {X : Cx} {x : Sx} {J : Prog} {k : Nat}
abbrev SndT (X : Cx) (J : Prog) (k : Nat) (f : Expr → Option E) : Prop := ∀ (e : Expr) (Z : E), f e = some Z → PT X e (tB' (cJ J k) X.K Z)
/-! ### and, or -/
theorem trB_cons {f : Expr → Option E} {mk : E → E → E} {a b : Expr} {r : List Expr} {Z : E} (h : trB f mk (a :: b :: r) = some Z) : ∃ A R, f a = some A ∧ trB f mk (b :: r) = some R ∧ Z = mk A R := by
  have h' : (match f a, trB f mk (b :: r) with
      | some x, some y => some (mk x y)
      | _, _ => none) = some Z := h
  split at h'
  · cases h'; exact ⟨_, _, by assumption, by assumption, rfl⟩
  · cases h'
theorem snd_and {f : Expr → Option E} (hf : Snd X J k f) {pos : Pos} : ∀ {vs : List Expr} {Z : E}, trB f .and vs = some Z → PE X (.BoolOp .And vs pos) (tE (cJ J k) X.K Z)
  | [], _, h => by cases h
  | [a], _, h => pe_one (hf _ _ h).2
  | a :: b :: r, Z, h => by
    obtain ⟨A, R, ha, hr, rfl⟩ := trB_cons h
    refine (pe_and (hf _ _ ha).2 (snd_and hf hr)).monoJ ?_
    rintro σ H Q ⟨ρ, h, ι, w, h', r, e, p⟩
    unfold ev at e
    split at e
    · rename_i h1 e1
      refine ⟨ρ, h, ι, _, h1, r, e1, fun v H1 ι1 s1 r1 q1 => ?_⟩
      cases q1 with | d q1 => cases q1; exact ⟨true, rfl, by exact iteT <| ⟨ρ, h1, ι1, w, h', r.mono s1 r1, e, p.step s1⟩⟩
    · cases e
      rename_i e1
      refine ⟨ρ, h, ι, _, _, r, e1, fun v H1 ι1 s1 r1 q1 => ?_⟩
      cases q1 with | d q1 => cases q1; exact ⟨false, rfl, by exact iteF <| (p.step s1).dat r1 (.b _)⟩
    · cases e
theorem snd_or {f : Expr → Option E} (hf : Snd X J k f) {pos : Pos} : ∀ {vs : List Expr} {Z : E}, trB f .or vs = some Z → PE X (.BoolOp .Or vs pos) (tE (cJ J k) X.K Z)
  | [], _, h => by cases h
  | [a], _, h => pe_one (hf _ _ h).2
  | a :: b :: r, Z, h => by
    obtain ⟨A, R, ha, hr, rfl⟩ := trB_cons h
    refine (pe_or (hf _ _ ha).2 (snd_or hf hr)).monoJ ?_
    rintro σ H Q ⟨ρ, h, ι, w, h', r, e, p⟩
    unfold ev at e
    split at e
    · cases e
      rename_i e1
      refine ⟨ρ, h, ι, _, _, r, e1, fun v H1 ι1 s1 r1 q1 => ?_⟩
      cases q1 with | d q1 => cases q1; exact ⟨true, rfl, by exact iteT <| (p.step s1).dat r1 (.b _)⟩
    · rename_i h1 e1
      refine ⟨ρ, h, ι, _, h1, r, e1, fun v H1 ι1 s1 r1 q1 => ?_⟩
      cases q1 with | d q1 => cases q1; exact ⟨false, rfl, by exact iteF <| ⟨ρ, h1, ι1, w, h', r.mono s1 r1, e, p.step s1⟩⟩
    · cases e
theorem PostB.step {K : Fg} {ι ι1 : List Addr} {H H1 : Hp} {b : Bool} {h' : LH} {Q : Bool → Hp → Prop} (p : PostB K ι H b h' Q) (st : Step ι H ι1 H1) : PostB K ι1 H1 b h' Q := fun H' ι' s r => p H' ι' (st.trans s) r
theorem sndT_and {f : Expr → Option E} (hf : SndT X J k f) {pos : Pos} : ∀ {vs : List Expr} {Z : E}, trB f .and vs = some Z → PW X (.BoolOp .And vs pos) (tB' (cJ J k) X.K Z)
  | [], _, h => by cases h
  | [a], _, h => pw_and1 (hf _ _ h)
  | a :: b :: r, Z, h => by
    obtain ⟨A, R, ha, hr, rfl⟩ := trB_cons h
    refine ⟨fun wh pins s σ H Q I hq => (pw_and (hf _ _ ha) (sndT_and hf hr)).run wh pins s σ H Q I ?_⟩
    obtain ⟨ρ, h, ι, bb, h', r, e, p⟩ := hq
    unfold ev at e
    split at e
    · rename_i h1 e1
      refine ⟨ρ, h, ι, _, h1, r, e1, fun H1 ι1 s1 r1 => ?_⟩
      exact iteT <| ⟨ρ, h1, ι1, bb, h', r.mono s1 r1, e, p.step s1⟩
    · cases e
      rename_i e1
      refine ⟨ρ, h, ι, _, _, r, e1, fun H1 ι1 s1 r1 => ?_⟩
      exact iteF <| p H1 ι1 s1 r1
    · cases e
theorem sndT_or {f : Expr → Option E} (hf : SndT X J k f) {pos : Pos} : ∀ {vs : List Expr} {Z : E}, trB f .or vs = some Z → PW X (.BoolOp .Or vs pos) (tB' (cJ J k) X.K Z)
  | [], _, h => by cases h
  | [a], _, h => pw_or1 (hf _ _ h)
  | a :: b :: r, Z, h => by
    obtain ⟨A, R, ha, hr, rfl⟩ := trB_cons h
    refine ⟨fun wh pins s σ H Q I hq => (pw_or (hf _ _ ha) (sndT_or hf hr)).run wh pins s σ H Q I ?_⟩
    obtain ⟨ρ, h, ι, bb, h', r, e, p⟩ := hq
    unfold ev at e
    split at e
    · cases e
      rename_i e1
      refine ⟨ρ, h, ι, _, _, r, e1, fun H1 ι1 s1 r1 => ?_⟩
      exact iteT <| p H1 ι1 s1 r1
    · rename_i h1 e1
      refine ⟨ρ, h, ι, _, h1, r, e1, fun H1 ι1 s1 r1 => ?_⟩
      exact iteF <| ⟨ρ, h1, ι1, bb, h', r.mono s1 r1, e, p.step s1⟩
    · cases e
theorem sndT_not {a : Expr} {A : E} {pos : Pos} (ha : PT X a (tB' (cJ J k) X.K A)) : PT X (.UnaryOp .Not a pos) (tB' (cJ J k) X.K (.not A)) := by
  refine (pt_not ha).monoJ ?_
  rintro σ H Q ⟨ρ, h, ι, b, h', r, e, p⟩
  unfold ev at e
  split at e
  · cases e
    rename_i b e1
    exact ⟨ρ, h, ι, _, _, r, e1, fun H1 ι1 s1 r1 => p H1 ι1 s1 r1⟩
  · cases e
/-- a test whose value is a bool -/
theorem sndT_val {e : Expr} {Z : E} (he : PE X e (tE (cJ J k) X.K Z)) (hw : ∀ whole, isTrue e X.env whole = (do let v ← whole; standAt e.pos; holding [v] (truthy v))) : PT X e (tB' (cJ J k) X.K Z) := by
  refine (pt_val he hw).monoJ ?_
  rintro σ H Q ⟨ρ, h, ι, b, h', r, e, p⟩
  refine ⟨ρ, h, ι, _, h', r, e, fun v H' ι' s1 r1 q1 => ?_⟩
  cases q1 with | d q1 => cases q1; exact ⟨b, rfl, p H' ι' s1 r1⟩
/-! ### a if c else b -/
theorem snd_ite {c a b : Expr} {C A B : E} {pos : Pos} (hc : PT X c (tB' (cJ J k) X.K C)) (ha : PE X a (tE (cJ J k) X.K A)) (hb : PE X b (tE (cJ J k) X.K B)) : PE X (.IfExp c a b pos) (tE (cJ J k) X.K (.ite C A B)) := by
  refine (pe_ifExp hc ha hb).monoJ ?_
  rintro σ H Q ⟨ρ, h, ι, w, h', r, e, p⟩
  unfold ev at e
  split at e
  · rename_i h1 e1
    refine ⟨ρ, h, ι, _, h1, r, e1, fun H1 ι1 s1 r1 => ?_⟩
    exact iteT <| ⟨ρ, h1, ι1, w, h', r.mono s1 r1, e, p.step s1⟩
  · rename_i h1 e1
    refine ⟨ρ, h, ι, _, h1, r, e1, fun H1 ι1 s1 r1 => ?_⟩
    exact iteF <| ⟨ρ, h1, ι1, w, h', r.mono s1 r1, e, p.step s1⟩
  · cases e
theorem sndT_ite {c a b : Expr} {C A B : E} {pos : Pos} (hc : PT X c (tB' (cJ J k) X.K C)) (ha : PT X a (tB' (cJ J k) X.K A)) (hb : PT X b (tB' (cJ J k) X.K B)) : PT X (.IfExp c a b pos) (tB' (cJ J k) X.K (.ite C A B)) := by
  refine ⟨fun pins s σ H Q I hq => ?_⟩
  obtain ⟨ρ, h, ι, bb, h', r, e, p⟩ := hq
  unfold ev at e
  show wpAny _ _ (isTrue c X.env (eval c X.env) >>= fun z => if z = true then isTrue a X.env (eval a X.env) else isTrue b X.env (eval b X.env)) _ _ s
  refine wpAny_bind ?_
  split at e
  · rename_i h1 e1
    refine thn (hc.run pins s σ H (fun b H' => b = true ∧ ∃ ι1, Step ι H ι1 H' ∧ RH X.K H' ι1 h1) I ⟨ρ, h, ι, true, h1, r, e1, fun H1 ι1 s1 r1 => ⟨rfl, ι1, s1, r1⟩⟩) fun z s1 ⟨H1, I1, hz, ι1, st, r1⟩ => ?_
    subst hz
    exact ha.run pins s1 σ H1 Q I1 ⟨ρ, h1, ι1, bb, h', r.mono st r1, e, p.step st⟩
  · rename_i h1 e1
    refine thn (hc.run pins s σ H (fun b H' => b = false ∧ ∃ ι1, Step ι H ι1 H' ∧ RH X.K H' ι1 h1) I ⟨ρ, h, ι, false, h1, r, e1, fun H1 ι1 s1 r1 => ⟨rfl, ι1, s1, r1⟩⟩) fun z s1 ⟨H1, I1, hz, ι1, st, r1⟩ => ?_
    subst hz
    exact hb.run pins s1 σ H1 Q I1 ⟨ρ, h1, ι1, bb, h', r.mono st r1, e, p.step st⟩
  · cases e
/-! ### subscripts -/
theorem snd_ix {v s : Expr} {A B : E} {pos : Pos} (ha : PE X v (tE (cJ J k) X.K A)) (hb : PE X s (tE (cJ J k) X.K B)) (ok : okE s = true) : PE X (.Subscript v s pos) (tE (cJ J k) X.K (.ix A B)) := by
  refine (pe_ix ix_J ha hb (ok_plain ok)).monoJ ?_
  rintro σ H Q ⟨ρ, h, ι, w, h', r, e, p⟩
  unfold ev at e
  obtain ⟨u', h1, w', h2, e1, e2, e3⟩ := ev2 e
  refine ⟨ρ, h, ι, u', h1, r, e1, fun v H1 ι1 s1 r1 q1 => ⟨ρ, h1, ι1, w', h2, r.mono s1 r1, e2, fun v' H2 ι2 s2 r2 q2 => ?_⟩⟩
  exact ⟨ι2, h2, u', w', _, _, r2, q1.mono s2, q2, e3, p.step (s1.trans s2)⟩
theorem snd_dix (g : Good x k X) (F : Facts X.prog X.w X.K X.mg X.base x.T J k) {y : Str} {s : Expr} {B : E} {d : Nat} {py pos : Pos} (hg : glB x y = true) (hd : (y == ("__debug__" : Str)) = false) (hl : x.T.t.lookup y = some d) (hb : PE X s (tE (cJ J k) X.K B)) (ok : okE s = true) : PE X (.Subscript (.Name y py) s pos) (tE (cJ J k) X.K (.dix d B)) := by
  by_cases he : ∃ z c, J.T d z = some c
  · obtain ⟨z0, c0, h0⟩ := he
    obtain ⟨a, hm, _⟩ := F.ts y d z0 c0 hl h0
    refine (pe_ix ix_kdict (pe_glob (v := .ref a) (g.gl hg) hm rfl hd) hb (ok_plain ok)).monoJ ?_
    rintro σ H Q ⟨ρ, h, ι, w, h', r, e, p⟩
    unfold ev at e
    split at e
    · rename_i z h1 e1
      split at e
      · cases e
        rename_i c hc
        obtain ⟨a', hm', hz⟩ := F.ts y d z c hl hc
        have : a = a' := by rw [hm] at hm'; cases hm'; rfl
        subst this
        refine ⟨ρ, h, ι, _, _, r, e1, fun v H1 ι1 s1 r1 q1 => ?_⟩
        cases q1 with | d q1 => cases q1 with
          | s ez lz =>
            obtain ⟨v, kd, rd⟩ := hz _ ez
            exact ⟨a, _, v, rfl, rfl, kd, (p.step s1).dat r1 (rd H1)⟩
      · cases e
    · cases e
  · refine ⟨fun pins s σ H Q I hq => ?_⟩
    obtain ⟨ρ, h, ι, w, h', r, e, p⟩ := hq
    unfold ev at e
    split at e
    · split at e
      · exact absurd ⟨_, _, by assumption⟩ he
      · cases e
    · cases e
def tOJ (C : Ctx) (K : Fg) (o : Option E) : TO := fun σ H Q => ∃ ρ h ι z h', Rs K σ H ρ ι h ∧ evo C o ρ h = some (z, h') ∧ ∀ H' ι', Step ι H ι' H' → RH K H' ι' h' → Q z H'
theorem snd_opt {f : Expr → Option E} (hf : Snd X J k f) {o : Option Expr} {O : Option E} (h : trO f o = some O) : PO X o (tOJ (cJ J k) X.K O) := by
  have mono : ∀ {t t' : TO}, PO X o t → (∀ σ H Q, t' σ H Q → t σ H Q) → PO X o t' := fun p m => ⟨fun pins s σ H Q I q => p.run pins s σ H Q I (m _ _ _ q)⟩
  cases o with
  | none =>
    cases h
    refine mono po_none ?_
    rintro σ H Q ⟨ρ, h, ι, z, h', r, e, p⟩
    unfold evo at e
    cases e
    exact p H ι (.refl _ _) r.rh
  | some e =>
    obtain ⟨Z, hz, rfl⟩ := Option.map_eq_some_iff.mp h
    refine mono (po_some (hf _ _ hz).2) ?_
    rintro σ H Q ⟨ρ, h, ι, z, h', r, e, p⟩
    unfold evo at e
    split at e
    · cases e
      rename_i i e1
      refine ⟨ρ, h, ι, _, _, r, e1, fun v H1 ι1 s1 r1 q1 => ?_⟩
      cases q1 with | d q1 => cases q1; exact ⟨_, rfl, p H1 ι1 s1 r1⟩
    · cases e
theorem snd_slice {f : Expr → Option E} (hf : Snd X J k f) {v : Expr} {lo hi : Option Expr} {A : E} {L U : Option E} {p2 pos : Pos} (ha : f v = some A) (hl : trO f lo = some L) (hu : trO f hi = some U) : PE X (.Subscript v (.Slice lo hi none p2) pos) (tE (cJ J k) X.K (.sl A L U)) := by
  refine (pe_slice sl_J (hf _ _ ha).2 (snd_opt hf hl) (snd_opt hf hu)).monoJ ?_
  rintro σ H Q ⟨ρ, h, ι, w, h', r, e, p⟩
  unfold ev at e
  split at e
  · rename_i u h1 e1
    split at e
    · rename_i a h2 e2
      split at e
      · rename_i z h3 e3
        refine ⟨ρ, h, ι, u, h1, r, e1, fun v H1 ι1 s1 r1 q1 => ⟨ρ, h1, ι1, a, h2, r.mono s1 r1, e2, fun H2 ι2 s2 r2 => ⟨ρ, h2, ι2, z, h3, r.mono (s1.trans s2) r2, e3, fun H3 ι3 s3 r3 => ?_⟩⟩⟩
        exact ⟨ι3, h3, u, w, h', r3, (q1.mono s2).mono s3, e, p.step ((s1.trans s2).trans s3)⟩
      · cases e
    · cases e
  · cases e
theorem snd_rev {v : Expr} {A : E} {j : Nat} {p1 p2 p3 pos : Pos} (ha : PE X v (tE (cJ J k) X.K A)) : PE X (.Subscript v (.Slice none none (some (.UnaryOp .USub (.Constant (.int 1) j p1) p2)) p3) pos) (tE (cJ J k) X.K (.rev A)) := by
  refine (pe_revL ha).monoJ ?_
  rintro σ H Q ⟨ρ, h, ι, w, h', r, e, p⟩
  unfold ev at e
  split at e
  · rename_i u h1 e1
    refine ⟨ρ, h, ι, u, h1, r, e1, fun v H1 ι1 s1 r1 q1 => ?_⟩
    unfold revW at e
    split at e
    · cases e
      cases q1 with | d q1 => cases q1 with | fl f1 q2 => exact ⟨_, _, rfl, f1.sq, (p.step s1).lst r1 (RWs.data q2).reverse⟩
    · split at e
      · cases e
        rename_i ws hws
        cases q1 with | l q1 =>
          obtain ⟨vs, g, q2, _⟩ := r1.of q1 hws
          exact ⟨_, _, rfl, SqL.of g, (p.step s1).lst r1 q2.reverse⟩
      · cases e
    · cases e
  · cases e
theorem isM1_eq {e : Expr} (h : isM1 e = true) : ∃ j p1 p2, e = .UnaryOp .USub (.Constant (.int 1) j p1) p2 := by
  unfold isM1 at h
  split at h
  · exact ⟨_, _, _, rfl⟩
  · cases h
theorem snd_sub (g : Good x k X) (F : Facts X.prog X.w X.K X.mg X.base x.T J k) {f : Expr → Option E} (hf : Snd X J k f) {v s : Expr} {pos : Pos} {Z : E} (h : trSub f x v s = some Z) : PE X (.Subscript v s pos) (tE (cJ J k) X.K Z) := by
  have two : ∀ {v s : Expr} {Z : E}, (match f v, f s with
        | some a, some b => some (E.ix a b)
        | _, _ => none) = some Z → PE X (.Subscript v s pos) (tE (cJ J k) X.K Z) := by
    intro v s Z h
    split at h
    · cases h
      rename_i h1 h2
      exact snd_ix (hf _ _ h1).2 (hf _ _ h2).2 (hf _ _ h2).1
    · cases h
  unfold trSub at h
  split at h
  · split at h
    · cases h
      exact snd_slice hf (by assumption) (by assumption) (by assumption)
    · cases h
  · split at h
    · rename_i hm
      obtain ⟨j, p1, p2, rfl⟩ := isM1_eq hm
      obtain ⟨A, ha, rfl⟩ := Option.map_eq_some_iff.mp h
      exact snd_rev (hf _ _ ha).2
    · cases h
  · split at h
    · rename_i y py
      split at h
      · rename_i hg
        split at h
        · cases h
          rename_i d i hl hi
          exact snd_dix g F hg.1 hg.2 hl (hf _ _ hi).2 (hf _ _ hi).1
        · exact two h
      · exact two h
    · exact two h
end
end J
set_option maxRecDepth 100000
namespace J
open PySem L2 PyProof.Rows
section
variable {X : Cx} {x : Sx} {J : Prog} {k : Nat}
/-! ### calls -/
theorem snd_call (g : Good x k X) (F : Facts X.prog X.w X.K X.mg X.base x.T J k) {f : Expr → Option E} (hf : Snd X J k f) {y : Str} {py pos : Pos} {args : List Expr} {us : List E} {i : Nat} (hd : (y == ("__debug__" : Str)) = false) (hg : glB x y = true) (hl : x.T.f.lookup y = some i) (ha : trs f args = some us) :
    PE X (.Call (.Name y py) args [] pos) (tE (cJ J k) X.K (.call i us)) := by
  cases hF : J.F i with
  | none =>
    refine ⟨fun pins s σ H Q I hq => ?_⟩
    obtain ⟨ρ, h, ι, w, h', r, e, p⟩ := hq
    unfold ev at e
    split at e
    · have e' : call J k i _ _ = some (w, h') := e
      cases k with
      | zero => cases e'
      | succ k =>
        unfold call at e'
        rw [hF] at e'
        cases e'
    · cases e
  | some d =>
    obtain ⟨a, fd, ps, hm, hk, hb, ok⟩ := F.fns y i d hl hF
    have m : ∀ σ H Q, tE (cJ J k) X.K (.call i us) σ H Q → tCall (spJ X.K J k i) [] E0 (tAs (cJ J k) X.K us) σ H Q := by
      rintro σ H Q ⟨ρ, h, ι, w, h', r, e, p⟩
      unfold ev at e
      split at e
      · rename_i ws h1 e1
        refine ⟨ρ, h, ι, ws, h1, r, e1, fun vs H1 ι1 s1 r1 q1 => ?_⟩
        show spJ X.K J k i (vs ++ []) H1 Q E0
        rw [List.append_nil]
        exact ⟨ι1, h1, ws, w, h', r1, q1, e, p.step s1⟩
      · cases e
    cases args with
    | nil =>
      cases ha
      refine (pe_call0 ok g.room (g.gl hg) hm hk hb .nil pass0 hd).monoJ ?_
      rintro σ H Q ⟨ρ, h, ι, w, h', r, e, p⟩
      unfold ev evs at e
      exact ⟨ι, h, [], w, h', r.rh, .nil, e, p⟩
    | cons a as =>
      have hall := trs_all ha (P := fun e => okE e = true) fun e Z h => (hf e Z h).1
      exact (pe_call ok g.room (g.gl hg) hm hk hb .nil pass0 (snd_args hf ha) hd (ok_star (hall a List.mem_cons_self) as X.env) (star_plain (fun e he => hall e (List.mem_cons_of_mem _ he)) pos X.env)).monoJ m
theorem bi_m {bi : Bi} {us : List E} : ∀ σ H Q, tE (cJ J k) X.K (.bi bi us) σ H Q → tCB (rJl X.K fun h ws => builtin h bi ws) (tAs (cJ J k) X.K us) σ H Q := by
  rintro σ H Q ⟨ρ, h, ι, w, h', r, e, p⟩
  unfold ev at e
  split at e
  · rename_i ws h1 e1
    exact ⟨ρ, h, ι, ws, h1, r, e1, fun vs H1 ι1 s1 r1 q1 => ⟨ι1, h1, ws, w, h', r1, q1, e, p.step s1⟩⟩
  · cases e
theorem snd_blt (g : Good x k X) {f : Expr → Option E} (hf : Snd X J k f) {y : Str} {py pos : Pos} {args : List Expr} {us : List E} {bi : Bi} {id : String} (hd : (y == ("__debug__" : Str)) = false) (hn : y ≠ "__name__") (hg : glB x y = true) (hm : X.mg y = none) (ha : trs f args = some us) (hne : args ≠ [])
    (hv : bootBuiltins y = some (.builtin id) ∧ CallR X (.builtin id) (rJl X.K fun h ws => builtin h bi ws) ∨ bootBuiltins y = some (.type id) ∧ CallR X (.type id) (rJl X.K fun h ws => builtin h bi ws)) :
    PE X (.Call (.Name y py) args [] pos) (tE (cJ J k) X.K (.bi bi us)) := by
  cases args with
  | nil => exact absurd rfl hne
  | cons a as =>
    have hall := trs_all ha (P := fun e => okE e = true) fun e Z h => (hf e Z h).1
    have st := ok_star (hall a List.mem_cons_self) as X.env
    have pl := star_plain (fun e he => hall e (List.mem_cons_of_mem _ he)) pos X.env
    rcases hv with ⟨hv, hc⟩ | ⟨hv, hc⟩
    · exact (pe_callB hc (g.gl hg) hm hv (snd_args hf ha) hn hd st pl).monoJ bi_m
    · exact (pe_callTy hc (g.gl hg) hm hv (snd_args hf ha) hn hd st pl).monoJ bi_m
theorem snd_isi (g : Good x k X) {a : Expr} {A : E} {c : Str} {T : String} {py pc pos : Pos} {bi : Bi} {fW : W → Bool} (ha : PE X a (tE (cJ J k) X.K A)) (ok : okE a = true) (hg : glB x "isinstance" = true) (hm : X.mg "isinstance" = none) (hgc : glB x c = true) (hmc : X.mg c = none) (hdc : (c == ("__debug__" : Str)) = false) (hnc : c ≠ "__name__")
    (hv : bootBuiltins c = some (.type T)) (hc : CallR X (.builtin "isinstance") (rIsJ X.K T fW)) (hb : ∀ h w, builtin h bi [w] = some (.d (.b (fW w)), h)) :
    PE X (.Call (.Name "isinstance" py) [a, .Name c pc] [] pos) (tE (cJ J k) X.K (.bi bi [A])) := by
  have pcn : PE X (.Name c pc) (tC (.ty T)) := pe_bltn (g.gl hgc) hmc hv rfl hnc hdc
  refine (pe_callB hc (g.gl hg) hm boot_isinstance (pa_cons ha (pa_cons pcn pa_nil) (ok_star ok _ X.env)) (by decide) (by decide) (ok_star ok _ X.env) rfl).monoJ ?_
  rintro σ H Q ⟨ρ, h, ι, w, h', r, e, p⟩
  unfold ev at e
  split at e
  · rename_i ws h1 e1
    obtain ⟨w1, h2, ws', e2, e3, rfl⟩ := evs_cons e1
    unfold evs at e3
    cases e3
    rw [hb] at e
    cases e
    refine ⟨ρ, h, ι, w1, _, r, e2, fun v H1 ι1 s1 r1 q1 => ?_⟩
    exact ⟨ι1, _, w1, v, r1, q1, rfl, (p.step s1).dat r1 (.b _)⟩
  · cases e
theorem trs_ne {args : List Expr} {n : Nat} (h : args.length = n + 1) : args ≠ [] := by
  rintro rfl; cases h
theorem _root_.L2.PE.orJ {X : Cx} {e : Expr} {t t' : TE} (h : PE X e t) (h' : PE X e t') : PE X e (fun σ H Q => t σ H Q ∨ t' σ H Q) :=
  ⟨fun pins s σ H Q I q => q.elim (h.run pins s σ H Q I) (h'.run pins s σ H Q I)⟩
theorem recv_base {o : Expr} {m : Str} {env : PySem.Env} (hr : recv o = true) : attributeBase o m env (eval o env) = eval o env := by
  unfold recv at hr
  split at hr
  · rfl
  · rfl
  · exact abase_call hr
  · cases hr
theorem snd_index (g : Good x k X) {f : Expr → Option E} (hf : Snd X J k f) {o a : Expr} {apos pos : Pos} {O : E} {us : List E} (hr : recv o = true) (hline : (apos.endLine == pos.line) = true) (ho : f o = some O) (ha : trs f [a] = some us) :
    PE X (.Call (.Attribute o "index" apos) [a] [] pos) (tE (cJ J k) X.K (.meth .index O us)) := by
  have base : attributeBase o "index" X.env (eval o X.env) = eval o X.env := recv_base hr
  have hok := (trs_all ha (P := fun e => okE e = true) fun e Z h => (hf e Z h).1) a List.mem_cons_self
  have pl := pe_bm PySem.F.plainAttrs_list PySem.F.slot_list_index PySem.F.type_list_index (mt_lindexJ g.units) (hf _ _ ho).2 (snd_args hf ha) base (by rw [ok_star hok]; rfl) hline (ok_star hok [] X.env) rfl
  have pt := pe_tm PySem.F.slot_tuple_index PySem.F.type_tuple_index (mt_tindexJ g.units) (hf _ _ ho).2 (snd_args hf ha) base hline (ok_star hok [] X.env)
  refine (pl.orJ pt).monoJ ?_
  rintro σ H Q ⟨ρ, h, ι, w, h', r, e, p⟩
  unfold ev at e
  split at e
  · rename_i u h1 e1
    split at e
    · rename_i ws h2 e2
      by_cases ht : ∃ zs, u = .d (.t zs)
      · obtain ⟨zs, rfl⟩ := ht
        refine .inr ⟨ρ, h, ι, _, h1, r, e1, fun v H1 ι1 s1 r1 q1 => ⟨?_, ρ, h1, ι1, ws, h2, r.mono s1 r1, e2, fun vs H2 ι2 s2 r2 q2 => ?_⟩⟩
        · cases q1 with | d q => cases q with | t sq q => exact ⟨_, _, rfl, sq⟩
        · exact ⟨ι2, h2, zs, ws, w, h', r2, q1.mono s2, q2, e, p.step (s1.trans s2)⟩
      · refine .inl ⟨ρ, h, ι, u, h1, r, e1, fun v H1 ι1 s1 r1 q1 => ⟨?_, ρ, h1, ι1, ws, h2, r.mono s1 r1, e2, fun vs H2 ι2 s2 r2 q2 => ?_⟩⟩
        · obtain ⟨us', ds, z, k, hi, _⟩ := method_index e
          cases q1 with
          | d q =>
            cases q with
            | t => exact absurd ⟨_, rfl⟩ ht
            | fl f1 q => exact .inl ⟨rfl, _, f1.sq⟩
            | _ => cases hi
          | l q =>
            obtain ⟨vs, g⟩ := r1.mem (List.mem_of_getElem? q)
            exact .inl ⟨rfl, vs, SqL.of g⟩
        · exact ⟨ι2, h2, u, ws, w, h', r2, fun zs hz => ht ⟨zs, hz⟩, q1.mono s2, q2, e, p.step (s1.trans s2)⟩
    · cases e
  · cases e
theorem snd_meth (g : Good x k X) {f : Expr → Option E} (hf : Snd X J k f) {o : Expr} {m : Str} {apos pos : Pos} {args : List Expr} {me : Me} {O : E} {us : List E} (hr : recv o = true) (hline : (apos.endLine == pos.line) = true) (hme : meOf m args.length = some me) (ho : f o = some O) (ha : trs f args = some us) :
    PE X (.Call (.Attribute o m apos) args [] pos) (tE (cJ J k) X.K (.meth me O us)) := by
  by_cases hx : me = .index
  · subst hx
    have hmi : m = "index" ∧ args.length = 1 := by
      unfold meOf at hme
      repeat' (split at hme)
      all_goals first | (cases hme; done) | assumption
    obtain ⟨rfl, hl⟩ := hmi
    cases args with
    | nil => cases hl
    | cons a as => cases as with
      | nil => exact snd_index g hf hr hline ho ha
      | cons _ _ => cases hl
  have base : attributeBase o m X.env (eval o X.env) = eval o X.env := recv_base hr
  have hall := trs_all ha (P := fun e => okE e = true) fun e Z h => (hf e Z h).1
  have islist : ∀ {H1 : Hp} {ι1 : List Addr} {h1 : LH} {v : V} {u : W} {r : W × LH} {ws : List W} {h2 : LH}, RH X.K H1 ι1 h1 → RW X.K H1 ι1 v u → method h2 me u ws = some r → tyV X.K "list" v H1 := by
    intro H1 ι1 h1 v u r ws h2 rh q e
    cases q with
    | d q => exfalso; unfold method at e; split at e <;> first | cases e | contradiction | exact absurd rfl hx
    | l q =>
      obtain ⟨vs, g⟩ := rh.mem (List.mem_of_getElem? q)
      exact .inl ⟨rfl, vs, SqL.of g⟩
  have mm : ∀ σ H Q, tE (cJ J k) X.K (.meth me O us) σ H Q → tBM X.K "list" (rJm X.K me) (tE (cJ J k) X.K O) (tAs (cJ J k) X.K us) σ H Q := by
    rintro σ H Q ⟨ρ, h, ι, w, h', r, e, p⟩
    unfold ev at e
    split at e
    · rename_i u h1 e1
      split at e
      · rename_i ws h2 e2
        refine ⟨ρ, h, ι, u, h1, r, e1, fun v H1 ι1 s1 r1 q1 => ⟨islist r1 q1 e, ρ, h1, ι1, ws, h2, r.mono s1 r1, e2, fun vs H2 ι2 s2 r2 q2 => ?_⟩⟩
        exact ⟨ι2, h2, u, ws, w, h', r2, q1.mono s2, q2, e, p.step (s1.trans s2)⟩
      · cases e
    · cases e
  have m0 : ∀ σ H Q, tE (cJ J k) X.K (.meth me O []) σ H Q → tBM0 X.K "list" (rJm X.K me) (tE (cJ J k) X.K O) σ H Q := by
    rintro σ H Q ⟨ρ, h, ι, w, h', r, e, p⟩
    unfold ev evs at e
    split at e
    · rename_i u h1 e1
      refine ⟨ρ, h, ι, u, h1, r, e1, fun v H1 ι1 s1 r1 q1 => ⟨?_, ι1, h1, u, [], w, h', r1, q1, .nil, e, p.step s1⟩⟩
      cases q1 with
      | d q => exfalso; replace e : method h1 me _ [] = some (w, h') := e; unfold method at e; split at e <;> first | cases e | contradiction | exact absurd rfl hx
      | l q =>
        obtain ⟨vs, g⟩ := r1.mem (List.mem_of_getElem? q)
        exact .inl ⟨rfl, vs, SqL.of g⟩
    · cases e
  unfold meOf at hme
  split at hme
  · cases hme; rename_i hc
    obtain ⟨rfl, hc⟩ := hc
    cases args with
    | nil => cases hc
    | cons a as =>
      cases as with
      | cons _ _ => cases hc
      | nil => exact (pe_bm PySem.F.plainAttrs_list PySem.F.slot_list_append PySem.F.type_list_append mt_appendJ (hf _ _ ho).2 (snd_args hf ha) base (by rw [ok_star (hall a List.mem_cons_self)]; rfl) hline (ok_star (hall a List.mem_cons_self) [] X.env) rfl).monoJ mm
  · split at hme
    · cases hme; rename_i hc
      obtain ⟨rfl, hc⟩ := hc
      cases args with
      | nil => cases hc
      | cons a as =>
        cases as with
        | cons _ _ => cases hc
        | nil => exact (pe_bm PySem.F.plainAttrs_list PySem.F.slot_list_extend PySem.F.type_list_extend mt_extendJ (hf _ _ ho).2 (snd_args hf ha) base (by rw [ok_star (hall a List.mem_cons_self)]; rfl) hline (ok_star (hall a List.mem_cons_self) [] X.env) rfl).monoJ mm
    · split at hme
      · cases hme; rename_i hc
        obtain ⟨rfl, hc⟩ := hc
        cases args with
        | cons _ _ => cases hc
        | nil =>
          cases ha
          exact (pe_bm0 PySem.F.plainAttrs_list PySem.F.slot_list_pop PySem.F.type_list_pop mt_popJ (hf _ _ ho).2 base hline).monoJ m0
      · split at hme
        · cases hme; rename_i hc
          obtain ⟨rfl, hc⟩ := hc
          cases args with
          | cons _ _ => cases hc
          | nil =>
            cases ha
            exact (pe_bm0 PySem.F.plainAttrs_list PySem.F.slot_list_reverse PySem.F.type_list_reverse mt_reverseJ (hf _ _ ho).2 base hline).monoJ m0
        · split at hme
          · cases hme; exact absurd rfl hx
          · split at hme
            · cases hme; rename_i hc
              obtain ⟨rfl, hc⟩ := hc
              cases args with
              | nil => cases hc
              | cons a as =>
                cases as with
                | cons _ _ => cases hc
                | nil => exact (pe_bm PySem.F.plainAttrs_list PySem.F.slot_list_pop PySem.F.type_list_pop mt_popAtJ (hf _ _ ho).2 (snd_args hf ha) base (by rw [ok_star (hall a List.mem_cons_self)]; rfl) hline (ok_star (hall a List.mem_cons_self) [] X.env) rfl).monoJ mm
            · cases hme
theorem nmOf_eq {e : Expr} {y : Str} (h : nmOf e = some y) : ∃ p, e = .Name y p := by
  unfold nmOf at h
  split at h
  · cases h; exact ⟨_, rfl⟩
  · cases h
theorem snd_builtins2 (g : Good x k X) (F : Facts X.prog X.w X.K X.mg X.base x.T J k) {f : Expr → Option E} (hf : Snd X J k f) {y : Str} {py pos : Pos} {args : List Expr} {us : List E} {bi : Bi} (hd : (y == ("__debug__" : Str)) = false) (hg : glB x y = true) (hc : x.T.b.contains y = true) (hb : biOf2 y args.length = some bi) (ha : trs f args = some us) :
    PE X (.Call (.Name y py) args [] pos) (tE (cJ J k) X.K (.bi bi us)) := by
  have hm := F.bs y hc
  unfold biOf2 at hb
  split at hb
  · cases hb; rename_i c; obtain ⟨rfl, c⟩ := c
    exact snd_blt g hf hd (by decide) hg hm ha (trs_ne c) (.inl ⟨by decide +kernel, sorted_J⟩)
  split at hb
  · cases hb; rename_i c; obtain ⟨rfl, c⟩ := c
    exact snd_blt g hf hd (by decide) hg hm ha (trs_ne c) (.inl ⟨by decide +kernel, sum_J g.calm⟩)
  split at hb
  · cases hb; rename_i c; obtain ⟨rfl, c⟩ := c
    exact snd_blt g hf hd (by decide) hg hm ha (trs_ne c) (.inl ⟨by decide +kernel, maxL_J g.calm⟩)
  cases hb
theorem snd_builtins (g : Good x k X) (F : Facts X.prog X.w X.K X.mg X.base x.T J k) {f : Expr → Option E} (hf : Snd X J k f) {y : Str} {py pos : Pos} {args : List Expr} {us : List E} {bi : Bi} (hd : (y == ("__debug__" : Str)) = false) (hg : glB x y = true) (hc : x.T.b.contains y = true) (hb : biOf y args.length = some bi) (ha : trs f args = some us) :
    PE X (.Call (.Name y py) args [] pos) (tE (cJ J k) X.K (.bi bi us)) := by
  have hm := F.bs y hc
  unfold biOf at hb
  split at hb
  · cases hb; rename_i c; obtain ⟨rfl, c⟩ := c
    exact snd_blt g hf hd (by decide) hg hm ha (trs_ne c) (.inl ⟨PySem.boot_len, len_J⟩)
  split at hb
  · cases hb; rename_i c; obtain ⟨rfl, c⟩ := c
    exact snd_blt g hf hd (by decide) hg hm ha (trs_ne c) (.inr ⟨by decide +kernel, tuple_J⟩)
  split at hb
  · cases hb; rename_i c; obtain ⟨rfl, c⟩ := c
    exact snd_blt g hf hd (by decide) hg hm ha (trs_ne c) (.inr ⟨by decide +kernel, list_J⟩)
  split at hb
  · cases hb; rename_i c; obtain ⟨rfl, c⟩ := c
    exact snd_blt g hf hd (by decide) hg hm ha (trs_ne c) (.inr ⟨by decide +kernel, int_J⟩)
  split at hb
  · cases hb; rename_i c; obtain ⟨rfl, c⟩ := c
    exact snd_blt g hf hd (by decide) hg hm ha (trs_ne c) (.inr ⟨by decide +kernel, bool_J⟩)
  split at hb
  · cases hb; rename_i c; obtain ⟨rfl, c⟩ := c
    exact snd_blt g hf hd (by decide) hg hm ha (trs_ne c) (.inl ⟨by decide +kernel, all_J g.calm⟩)
  split at hb
  · cases hb; rename_i c; obtain ⟨rfl, c⟩ := c
    exact snd_blt g hf hd (by decide) hg hm ha (trs_ne c) (.inl ⟨by decide +kernel, any_J g.calm⟩)
  split at hb
  · cases hb; rename_i c; obtain ⟨rfl, c⟩ := c
    exact snd_blt g hf hd (by decide) hg hm ha (trs_ne c) (.inl ⟨by decide +kernel, max2_J g.calm⟩)
  split at hb
  · cases hb; rename_i c; obtain ⟨rfl, c⟩ := c
    exact snd_blt g hf hd (by decide) hg hm ha (trs_ne c) (.inl ⟨by decide +kernel, min2_J g.calm⟩)
  split at hb
  · cases hb; rename_i c; obtain ⟨rfl, c⟩ := c
    exact snd_blt g hf hd (by decide) hg hm ha (trs_ne c) (.inl ⟨by decide +kernel, abs_J⟩)
  exact snd_builtins2 g F hf hd hg hc hb ha
theorem rg_rds {K : Fg} {H : Hp} (a b : Int) : RDs K H (rgV a b) ((List.range (b - a).toNat).map fun (k : Nat) => D.i (a + (k : Int))) := by
  unfold rgV
  generalize List.range (b - a).toNat = ks
  induction ks with
  | nil => exact .nil
  | cons k r ih => exact .cons (.i _) ih
theorem range_ds (a b : Int) : range a b = ((List.range (b - a).toNat).map fun (k : Nat) => D.i (a + (k : Int))).map .d := by
  unfold range; rw [List.map_map]; rfl
theorem rg_ok {a b : Int} (h1 : -(2 ^ 62) ≤ a) (h2 : a < 2 ^ 62) (h3 : -(2 ^ 62) ≤ b) (h4 : b < 2 ^ 62) (h5 : (range a b).length ≤ SZ) : RgOk a b := by
  refine ⟨h1, h2, h3, h4, ?_⟩
  have : (range a b).length = (b - a).toNat := by simp [range]
  rw [this] at h5
  exact h5
/-- a range's list or tuple, once its bounds are there -/
theorem of_src {Q : VK} {K : Fg} {ι : List Addr} {H : Hp} {h h' : LH} {a b : Int} {t : Bool} {w : W} (e : ofSrc h t (.its (range a b)) = some (w, h')) (p : Post K ι H w h' Q) (r : RH K H ι h) (b1 : -(2 ^ 62) ≤ a) (b2 : a < 2 ^ 62) (b3 : -(2 ^ 62) ≤ b) (b4 : b < 2 ^ 62) :
    RgOk a b ∧ (t = true → NewT Q H (rgV a b)) ∧ (t = false → ∀ q, H q = none → Q (.ref q) (upd H q (.lst (rgV a b)))) := by
  replace e : (if (range a b).length ≤ SZ then (if t = true then mkT h (range a b) else new h (range a b)) else none) = some (w, h') := e
  split at e
  · rename_i hz
    refine ⟨rg_ok b1 b2 b3 b4 hz, fun ht => ?_, fun ht => ?_⟩
    · subst ht
      rw [if_pos rfl] at e
      unfold mkT at e
      rw [range_ds] at e
      rw [allD_mapd] at e
      dsimp only at e
      split at e
      · cases e
        exact p.tup r (rg_rds a b)
      · cases e
    · subst ht
      rw [if_neg Bool.false_ne_true] at e
      unfold new at e
      rw [if_pos hz] at e
      cases e
      rw [range_ds] at p
      exact p.lst r (RWs.data (rg_rds a b))
  · cases e
theorem snd_rng (g : Good x k X) (F : Facts X.prog X.w X.K X.mg X.base x.T J k) {f : Expr → Option E} (hf : Snd X J k f) {y : Str} {py pos : Pos} {args : List Expr} {Z : E} (hg : glB x y = true) (hc : x.T.b.contains y = true) (h : trRng f x y args = some Z) :
    PE X (.Call (.Name y py) args [] pos) (tE (cJ J k) X.K Z) := by
  unfold trRng at h
  split at h
  · rename_i fn ras kws rpos
    split at h
    · rename_i z hz
      obtain ⟨zp, rfl⟩ := nmOf_eq hz
      split at h
      · rename_i cond
        obtain ⟨hy, rfl, hk, hb⟩ := cond
        have hk' : kws = [] := by cases kws with | nil => rfl | cons _ _ => cases hk
        subst hk'
        obtain ⟨hgr, hcr⟩ := Bool.and_eq_true_iff.mp hb
        have hmr := F.bs _ hcr
        have hm := F.bs _ hc
        have ok1 : starEach [Expr.Call (.Name "range" zp) ras [] rpos] X.env = (false, eval (Expr.Call (.Name "range" zp) ras [] rpos) X.env) :: starEach [] X.env := rfl
        -- what the two forms of range ask
        have key : ∀ (te : L2.St → Hp → (Int → Int → Hp → Prop) → Prop) (it : It), PRg X (Expr.Call (.Name "range" zp) ras [] rpos) te →
            (∀ σ H ρ h ι src h1, Rs X.K σ H ρ ι h → evi (cJ J k) it ρ h = some (src, h1) → ∃ a b, src = .its (range a b) ∧ (-(2 ^ 62) ≤ a ∧ a < 2 ^ 62 ∧ -(2 ^ 62) ≤ b ∧ b < 2 ^ 62) ∧ ∀ R : Int → Int → Hp → Prop, (∀ H' ι', Step ι H ι' H' → RH X.K H' ι' h1 → R a b H') → te σ H R) →
            PE X (.Call (.Name y py) [Expr.Call (.Name "range" zp) ras [] rpos] [] pos) (tE (cJ J k) X.K (.ofIt (decide (y = "tuple")) it)) := by
          intro te it pr m
          rcases hy with rfl | rfl
          · refine (pe_listRg g.calm (g.gl hg) hm pr ok1).monoJ ?_
            rintro σ H Q ⟨ρ, h, ι, w, h', r, e, p⟩
            unfold ev at e
            split at e
            · rename_i src h1 e1
              obtain ⟨a, b, rfl, bd, m⟩ := m _ _ _ _ _ _ _ r e1
              refine m _ fun H' ι' st rh => ?_
              obtain ⟨q1, q2, q3⟩ := of_src e (p.step st) rh bd.1 bd.2.1 bd.2.2.1 bd.2.2.2
              exact ⟨q1, q3 (by decide)⟩
            · cases e
          · refine (pe_tupRgN g.calm (g.gl hg) hm pr ok1).monoJ ?_
            rintro σ H Q ⟨ρ, h, ι, w, h', r, e, p⟩
            unfold ev at e
            split at e
            · rename_i src h1 e1
              obtain ⟨a, b, rfl, bd, m⟩ := m _ _ _ _ _ _ _ r e1
              refine m _ fun H' ι' st rh => ?_
              obtain ⟨q1, q2, q3⟩ := of_src e (p.step st) rh bd.1 bd.2.1 bd.2.2.1 bd.2.2.2
              exact ⟨q1, q2 (by decide)⟩
            · cases e
        split at h
        · rename_i a
          obtain ⟨u, hu, rfl⟩ := Option.map_eq_some_iff.mp h
          refine key _ _ (prg_1 (g.gl hgr) hmr (hf _ _ hu).2 (ok_star (hf _ _ hu).1 [] X.env)) ?_
          intro σ H ρ h ι src h1 r e
          unfold evi at e
          split at e
          · rename_i n h2 e2
            split at e
            · cases e
              rename_i hn
              refine ⟨0, n, rfl, ⟨by decide, by decide, hn.1, hn.2⟩, fun R q => ⟨ρ, h, ι, _, _, r, e2, fun v H1 ι1 s1 r1 q1 => ?_⟩⟩
              cases q1 with | d q1 => cases q1; exact ⟨n, rfl, q H1 ι1 s1 r1⟩
            · cases e
          · cases e
        · rename_i a b
          split at h
          · cases h
            rename_i u w hu hw
            refine key _ _ (prg_2 (g.gl hgr) hmr (hf _ _ hu).2 (hf _ _ hw).2 (ok_star (hf _ _ hu).1 [b] X.env) (ok_star (hf _ _ hw).1 [] X.env) (star_plain (fun e he => by simp at he; subst he; exact (hf _ _ hw).1) rpos X.env)) ?_
            intro σ H ρ h ι src h1 r e
            unfold evi at e
            split at e
            · rename_i m h2 e2
              split at e
              · rename_i n h3 e3
                split at e
                · cases e
                  rename_i hn
                  refine ⟨m, n, rfl, hn, fun R q => ⟨ρ, h, ι, _, _, r, e2, fun v H1 ι1 s1 r1 q1 => ⟨ρ, _, ι1, _, _, r.mono s1 r1, e3, fun v2 H2 ι2 s2 r2 q2 => ?_⟩⟩⟩
                  cases q1 with | d q1 => cases q1; cases q2 with | d q2 => cases q2; exact ⟨m, n, rfl, rfl, q H2 ι2 (s1.trans s2) r2⟩
                · cases e
              · cases e
            · cases e
          · cases h
        · cases h
      · cases h
    · cases h
  · cases h
theorem snd_trCall (g : Good x k X) (F : Facts X.prog X.w X.K X.mg X.base x.T J k) {f : Expr → Option E} (hf : Snd X J k f) {fn : Expr} {args : List Expr} {kws : List Keyword} {pos : Pos} {Z : E} (h : trCall f x fn args kws pos = some Z) :
    PE X (.Call fn args kws pos) (tE (cJ J k) X.K Z) := by
  unfold trCall at h
  split at h
  · rename_i hk
    have hk' : kws = [] := by cases kws with | nil => rfl | cons _ _ => cases hk
    subst hk'
    split at h
    · rename_i y py
      split at h
      · rename_i hdg
        obtain ⟨hd, hg⟩ := hdg
        split at h
        · rename_i i hl
          obtain ⟨us, ha, rfl⟩ := Option.map_eq_some_iff.mp h
          exact snd_call g F hf hd hg hl ha
        · split at h
          · rename_i hc
            split at h
            · rename_i hy
              subst hy
              split at h
              · rename_i a t
                split at h
                · rename_i c hn
                  obtain ⟨pc, rfl⟩ := nmOf_eq hn
                  split at h
                  · rename_i hb
                    split at h
                    · cases h
                      rename_i ki u hi hu
                      obtain ⟨hgc, hcc⟩ := Bool.and_eq_true_iff.mp hb
                      have hm := F.bs _ hc
                      have hmc := F.bs _ hcc
                      unfold isiOf at hi
                      split at hi
                      · cases hi; subst_vars
                        exact snd_isi g (hf _ _ hu).2 (hf _ _ hu).1 hg hm hgc hmc (by decide) (by decide) (by decide +kernel) isInt_J fun _ _ => rfl
                      split at hi
                      · cases hi; subst_vars
                        exact snd_isi g (hf _ _ hu).2 (hf _ _ hu).1 hg hm hgc hmc (by decide) (by decide) (by decide +kernel) isBool_J fun _ _ => rfl
                      split at hi
                      · cases hi; subst_vars
                        exact snd_isi g (hf _ _ hu).2 (hf _ _ hu).1 hg hm hgc hmc (by decide) (by decide) (by decide +kernel) isStr_J fun _ _ => rfl
                      split at hi
                      · cases hi; subst_vars
                        exact snd_isi g (hf _ _ hu).2 (hf _ _ hu).1 hg hm hgc hmc (by decide) (by decide) (by decide +kernel) isTuple_J fun _ _ => rfl
                      cases hi
                    · cases h
                  · cases h
                · cases h
              · cases h
            · split at h
              · cases h
                exact snd_rng g F hf hg hc (by assumption)
              · split at h
                · cases h
                  exact snd_builtins g F hf hd hg hc (by assumption) (by assumption)
                · cases h
          · cases h
      · cases h
    · split at h
      · rename_i hr
        split at h
        · cases h
          exact snd_meth g hf hr.1 hr.2 (by assumption) (by assumption) (by assumption)
        · cases h
      · cases h
    · cases h
  · cases h

/-! ### targets -/
theorem Good.loc (g : Good x k X) {y : Str} (h : locB x y = true) : L2.Loc X.env.scope y ∧ (X.fn y = true ∨ X.env.scope.names.lookup y = some .local) := by
  rw [g.sc, g.fb]
  unfold locB at h
  split at h
  · exact ⟨.inl (by assumption), .inr (by assumption)⟩
  · exact ⟨.inr (by assumption), .inl h⟩
  · cases h
theorem trTgs_nm : ∀ {es : List Expr} {is : List Nat}, trTgs x es = some is → (∀ env : PySem.Env, (assignEach es env).length = is.length ∧ (assignEach es env).findIdx? (·.1) = none)
  | [], is, h => by cases h; exact fun env => ⟨rfl, rfl⟩
  | e :: r, is, h => by
    unfold trTgs at h
    split at h
    · rename_i y hn
      obtain ⟨p, rfl⟩ := nmOf_eq hn
      split at h
      · split at h
        · cases h
          rename_i i is' hi hr
          intro env
          obtain ⟨h1, h2⟩ := trTgs_nm hr env
          refine ⟨congrArg (· + 1) h1, ?_⟩
          show List.findIdx? (·.1) ((false, assign (.Name y p) env) :: assignEach r env) = none
          rw [List.findIdx?_cons]
          simp [h2]
        · cases h
      · cases h
    · cases h
theorem snd_tgs (g : Good x k X) : ∀ {es : List Expr} {is : List Nat}, trTgs x es = some is → PGs X es (gNames is)
  | [], is, h => by cases h; exact pgs_nil
  | e :: r, is, h => by
    unfold trTgs at h
    split at h
    · rename_i y hn
      obtain ⟨p, rfl⟩ := nmOf_eq hn
      split at h
      · rename_i hl
        split at h
        · cases h
          rename_i i is' hi hr
          obtain ⟨l1, l2⟩ := g.loc hl
          exact pgs_cons (pg_name g.nd (by rw [g.N]; exact slotOf_get hi) l1 l2) (snd_tgs g hr)
        · cases h
      · cases h
    · cases h
theorem snd_tg (g : Good x k X) {e : Expr} {t : Tg} (h : trTg x e = some t) : PG X e (gT X.K t) := by
  unfold trTg at h
  split at h
  · rename_i y p
    split at h
    · rename_i hl
      obtain ⟨i, hi, rfl⟩ := Option.map_eq_some_iff.mp h
      obtain ⟨l1, l2⟩ := g.loc hl
      exact pg_name g.nd (by rw [g.N]; exact slotOf_get hi) l1 l2
    · cases h
  · rename_i es j p
    obtain ⟨is, hi, rfl⟩ := Option.map_eq_some_iff.mp h
    obtain ⟨h1, h2⟩ := trTgs_nm hi X.env
    exact pg_tup g.calm (snd_tgs g hi) h1 h2
  · cases h

/-! ### what is walked -/
def iSq (K : Fg) (tl : TE) : TI := fun σ H R => tl σ H fun v H1 => ∃ a, v = .ref a ∧ (((∃ xs, SqL K H1 a xs) ∧ R (Itl K a) H1) ∨ ((∃ xs, SqT K H1 a xs) ∧ R (Itt K a) H1))
theorem pi_sq {tg l : Expr} {tl : TE} (hl : PE X l tl) : PI X tg l (iSq X.K tl) := by
  refine ⟨fun pins s σ H R I h => ?_⟩
  refine thn (hl.run pins s σ H _ I h) fun v s1 ⟨y, H1, I1, r1, q1⟩ => ?_
  obtain ⟨a, e, c⟩ := q1
  subst e
  cases r1
  rcases c with ⟨⟨xs, hq⟩, q⟩ | ⟨⟨xs, hq⟩, q⟩
  · obtain ⟨its, rv, p, hz⟩ := I1.list hq
    refine wpAny_pyIter_list p.isList ?_
    refine ⟨s1.heap.objs.size, [s1.heap.objs.size], _, _, H1, rfl, I1.kept (t' := s1.toks) fun b o e => Heap.get?_push_of_some _ e, turn_list a _, ⟨_, Heap.get?_push_size _ rfl, rfl, rfl⟩, fun b hb => ?_, q⟩
    have e : b = s1.heap.objs.size := by simpa using hb
    subst e
    exact I1.fpOk (Nat.le_refl _) (I1.hok.fresh (Nat.le_refl _))
  · obtain ⟨its, rv, p, hz⟩ := I1.tuple hq
    refine wpAny_pyIter_tuple (show s1.heap.IsTuple a its.toArray from p) ?_
    refine ⟨s1.heap.objs.size, [s1.heap.objs.size], _, _, H1, rfl, I1.kept (t' := s1.toks) fun b o e => Heap.get?_push_of_some _ e, turn_tuple a _, ⟨_, Heap.get?_push_size _ rfl, rfl, rfl⟩, fun b hb => ?_, q⟩
    have e : b = s1.heap.objs.size := by simpa using hb
    subst e
    exact I1.fpOk (Nat.le_refl _) (I1.hok.fresh (Nat.le_refl _))
def tI (C : Ctx) (K : Fg) (i : It) : TI := fun σ H R => ∃ ρ h ι src h', Rs K σ H ρ ι h ∧ evi C i ρ h = some (src, h') ∧ ∀ J H' ι', Step ι H ι' H' → RH K H' ι' h' → SrcJ K H' ι' src J → R J H'
theorem piMono {tg e : Expr} {t t' : TI} (h : PI X tg e t) (m : ∀ σ H R, t' σ H R → t σ H R) : PI X tg e t' := ⟨fun pins s σ H R I q => h.run pins s σ H R I (m _ _ _ q)⟩
theorem snd_sq {tg e : Expr} {A : E} (ha : PE X e (tE (cJ J k) X.K A)) : PI X tg e (tI (cJ J k) X.K (.sq A)) := by
  refine piMono (pi_sq ha) ?_
  rintro σ H R ⟨ρ, h, ι, src, h', r, e, p⟩
  unfold evi at e
  split at e
  · rename_i u h1 e1
    split at e
    · cases e
      rename_i src hs
      refine ⟨ρ, h, ι, u, _, r, e1, fun v H1 ι1 s1 r1 q1 => ?_⟩
      unfold srcOf at hs
      split at hs
      · cases hs
        cases q1 with | d q1 => cases q1 with | t t1 q2 => exact ⟨_, rfl, .inr ⟨⟨_, t1.t⟩, p _ H1 ι1 s1 r1 (srcT t1.t q2)⟩⟩
      · cases hs
        cases q1 with | d q1 => cases q1 with | fl t1 q2 => exact ⟨_, rfl, .inl ⟨⟨_, t1.sq⟩, p _ H1 ι1 s1 r1 (srcF t1 q2)⟩⟩
      · split at hs
        · cases hs
          rename_i ws hws
          cases q1 with | l q1 =>
            obtain ⟨vs, g, q2, _⟩ := r1.of q1 hws
            exact ⟨_, rfl, .inl ⟨⟨vs, SqL.of g⟩, p _ H1 ι1 s1 r1 ⟨_, q1, rfl⟩⟩⟩
        · cases hs
      · cases hs
    · cases e
  · cases e
theorem evi_r1 {C : Ctx} {a : E} {ρ : Env} {h h' : LH} {src : Src} (e : evi C (.r1 a) ρ h = some (src, h')) : ∃ n, ev C a ρ h = some (.d (.i n), h') ∧ (-(2 ^ 62) ≤ n ∧ n < 2 ^ 62) ∧ src = .its (range 0 n) := by
  unfold evi at e
  split at e
  · split at e
    · cases e; exact ⟨_, by assumption, by assumption, rfl⟩
    · cases e
  · cases e
theorem snd_it (g : Good x k X) (F : Facts X.prog X.w X.K X.mg X.base x.T J k) {f : Expr → Option E} (hf : Snd X J k f) {tg e : Expr} {i : It} (h : trIt f x e = some i) : PI X tg e (tI (cJ J k) X.K i) := by
  have sq : ∀ {e : Expr} {i : It}, (f e).map It.sq = some i → PI X tg e (tI (cJ J k) X.K i) := by
    intro e i h
    obtain ⟨A, ha, rfl⟩ := Option.map_eq_some_iff.mp h
    exact snd_sq (hf _ _ ha).2
  unfold trIt at h
  split at h
  · rename_i fn args kws pos
    split at h
    · rename_i y hn
      split at h
      · rename_i hc
        obtain ⟨hy, hk, hb⟩ := hc
        subst hy
        obtain ⟨p, rfl⟩ := nmOf_eq hn
        have hk' : kws = [] := by cases kws with | nil => rfl | cons _ _ => cases hk
        subst hk'
        obtain ⟨hg, hc⟩ := Bool.and_eq_true_iff.mp hb
        have hm := F.bs _ hc
        split at h
        · rename_i a
          obtain ⟨A, ha, rfl⟩ := Option.map_eq_some_iff.mp h
          obtain ⟨ok, pa⟩ := hf _ _ ha
          refine piMono (pi_range1 (g.gl hg) hm (pa_cons pa pa_nil (ok_star ok [] X.env)) (ok_star ok [] X.env)) ?_
          rintro σ H R ⟨ρ, h, ι, src, h', r, e, p⟩
          obtain ⟨n, e1, hn, rfl⟩ := evi_r1 e
          refine ⟨ρ, h, ι, _, _, r, e1, fun v H1 ι1 s1 r1 q1 => ?_⟩
          cases q1 with | d q1 => cases q1; exact ⟨n, rfl, hn.1, hn.2, by have := p _ H1 ι1 s1 r1 (srcR 0 n); rw [Int.sub_zero] at this; exact this⟩
        · rename_i a b
          split at h
          · cases h
            rename_i A B ha hb'
            obtain ⟨oka, pa⟩ := hf _ _ ha
            obtain ⟨okb, pb⟩ := hf _ _ hb'
            refine piMono (pi_range2 (g.gl hg) hm (pa_cons pa (pa_cons pb pa_nil (ok_star okb [] X.env)) (ok_star oka [b] X.env)) (by rw [ok_star oka, ok_star okb]; rfl) (ok_star okb [] X.env)) ?_
            rintro σ H R ⟨ρ, h, ι, src, h', r, e, p⟩
            unfold evi at e
            split at e
            · rename_i a0 h1 e1
              split at e
              · rename_i n h2 e2
                split at e
                · cases e
                  rename_i hn
                  refine ⟨ρ, h, ι, _, _, r, e1, fun v H1 ι1 s1 r1 q1 => ⟨ρ, h1, ι1, _, _, r.mono s1 r1, e2, fun v' H2 ι2 s2 r2 q2 => ?_⟩⟩
                  cases q1 with | d q1 => cases q1; cases q2 with | d q2 => cases q2; exact ⟨a0, n, rfl, hn, p _ H2 ι2 (s1.trans s2) r2 (srcR a0 n)⟩
                · cases e
              · cases e
            · cases e
          · cases h
        · cases h
      · exact sq h
    · exact sq h
  · exact sq h
theorem snd_ifs {f : Expr → Option E} (hf : SndT X J k f) {ifs : List Expr} {c : Option E} (h : trIfs f ifs = some c) : PTs X ifs (tC' (cJ J k) X.K c) := by
  unfold trIfs at h
  split at h
  · cases h; exact pts_nil
  · obtain ⟨A, ha, rfl⟩ := Option.map_eq_some_iff.mp h
    exact pts_one (hf _ _ ha)
  · cases h
end
end J
set_option maxRecDepth 100000
namespace J
open PySem L2 PyProof.Rows
theorem ok_assign {o i : Expr} {pos : Pos} {env : PySem.Env} (h : okE i = true) (v : Value) : assign (.Subscript o i pos) env v = (do
      let ov ← holding [v] (eval o env)
      let iv ← holding [v, ov] (eval i env)
      standAt pos
      holding [v, ov, iv] (setItem ov iv v)
      release [v, ov, iv] []) := by
  cases i <;> first | rfl | cases h
section
variable {J : Prog} {k : Nat}
theorem ownOf_go {N : List Str} : ∀ {es : List Expr} {own : List (Str × Nat)}, ownOf.go N es = some own → True := fun _ => trivial
theorem ownOf_ix {N : List Str} {e : Expr} {own : List (Str × Nat)} (h : True) : True := trivial
theorem snd_comp {X : Cx} {x : Sx} (g : Good x k X) (F : Facts X.prog X.w X.K X.mg X.base x.T J k) {f : Sx → Expr → Option E}
    (hf : ∀ (x : Sx) (X : Cx), Good x k X → Facts X.prog X.w X.K X.mg X.base x.T J k → Snd X J k (f x) ∧ SndT X J k (f x)) {elt tg iter : Expr} {ifs : List Expr} {a : Int} {scope : Scope} {Z : E} (h : trComp1 f x elt scope tg iter ifs a = some Z) :
    ∃ (own : List (Str × Nat)) (t : Tg) (i : It) (c : Option E) (e : E), a = 0 ∧ okE iter = true ∧ Z = .comp e t i c ∧ BlkOk X.N X.env.scope scope own ∧ own.map (·.2) = t.slots ∧ PI X tg iter (tI (cJ J k) X.K i) ∧
      (∀ (s : Shared) (H : Hp) (C : Addr) (cl : List (Str × Addr)) (fp : List Addr), PG (X.blk s H scope (compEnvC scope cl C X.env) fp) tg (gT X.K t)) ∧
      (∀ (s : Shared) (H : Hp) (C : Addr) (cl : List (Str × Addr)) (fp : List Addr), PTs (X.blk s H scope (compEnvC scope cl C X.env) fp) ifs (tC' (cJ J k) X.K c)) ∧
      (∀ (s : Shared) (H : Hp) (C : Addr) (cl : List (Str × Addr)) (fp : List Addr), PE (X.blk s H scope (compEnvC scope cl C X.env) fp) elt (tE (cJ J k) X.K e)) := by
  unfold trComp1 at h
  split at h
  · rename_i ha
    obtain ⟨rfl, hok⟩ := ha
    split at h
    · rename_i own t i c e h1 h2 h3 h4 h5
      split at h
      · cases h
        rename_i hb
        refine ⟨own, t, i, c, e, rfl, hok, rfl, by rw [g.N, g.sc]; exact blkOk_by hb.1, hb.2, snd_it g F (hf x X g F).1 h3, fun s H C cl fp => ?_, fun s H C cl fp => ?_, fun s H C cl fp => ?_⟩
        · exact snd_tg (g.blk scope s H C cl fp) h2
        · exact snd_ifs (hf _ _ (g.blk scope s H C cl fp) F).2 h4
        · exact ((hf _ _ (g.blk scope s H C cl fp) F).1 _ _ h5).2
      · cases h
    · cases h
  · cases h
theorem snd_comp2 {X : Cx} {x : Sx} (g : Good x k X) (F : Facts X.prog X.w X.K X.mg X.base x.T J k) {f : Sx → Expr → Option E}
    (hf : ∀ (x : Sx) (X : Cx), Good x k X → Facts X.prog X.w X.K X.mg X.base x.T J k → Snd X J k (f x) ∧ SndT X J k (f x)) {elt tg iter tg1 iter1 : Expr} {ifs ifs1 : List Expr} {a a1 : Int} {scope : Scope} {Z : E} (h : trComp2 f x elt scope tg iter ifs a tg1 iter1 ifs1 a1 = some Z) :
    ∃ (own : List (Str × Nat)) (t t1 : Tg) (i i1 : It) (c : Option E) (e : E), (a = 0 ∧ ifs = []) ∧ a1 = 0 ∧ okE iter = true ∧ okE iter1 = true ∧ Z = .comp2 e t i t1 i1 c ∧ BlkOk X.N X.env.scope scope own ∧ own.map (·.2) = t.slots ++ t1.slots ∧ PI X tg iter (tI (cJ J k) X.K i) ∧
      (∀ (s : Shared) (H : Hp) (C : Addr) (cl : List (Str × Addr)) (fp : List Addr), PG (X.blk s H scope (compEnvC scope cl C X.env) fp) tg (gT X.K t)) ∧
      (∀ (s : Shared) (H : Hp) (C : Addr) (cl : List (Str × Addr)) (fp : List Addr), PI (X.blk s H scope (compEnvC scope cl C X.env) fp) tg1 iter1 (tI (cJ J k) X.K i1)) ∧
      (∀ (s : Shared) (H : Hp) (C : Addr) (cl : List (Str × Addr)) (fp : List Addr), PG (X.blk s H scope (compEnvC scope cl C X.env) fp) tg1 (gT X.K t1)) ∧
      (∀ (s : Shared) (H : Hp) (C : Addr) (cl : List (Str × Addr)) (fp : List Addr), PTs (X.blk s H scope (compEnvC scope cl C X.env) fp) ifs1 (tC' (cJ J k) X.K c)) ∧
      (∀ (s : Shared) (H : Hp) (C : Addr) (cl : List (Str × Addr)) (fp : List Addr), PE (X.blk s H scope (compEnvC scope cl C X.env) fp) elt (tE (cJ J k) X.K e)) := by
  unfold trComp2 at h
  split at h
  · rename_i ha
    obtain ⟨rfl, rfl, hok, hok1, hie⟩ := ha
    have : ifs = [] := List.isEmpty_iff.mp hie
    subst this
    split at h
    · rename_i own own1 t t1 i i1 c e h1 h1' h2 h2' h3 h3' h4 h5
      split at h
      · cases h
        rename_i hb
        refine ⟨own ++ own1, t, t1, i, i1, c, e, ⟨rfl, rfl⟩, rfl, hok, hok1, rfl, by rw [g.N, g.sc]; exact blkOk_by hb.1, by rw [List.map_append, hb.2.1, hb.2.2], snd_it g F (hf x X g F).1 h3, fun s H C cl fp => ?_, fun s H C cl fp => ?_, fun s H C cl fp => ?_, fun s H C cl fp => ?_, fun s H C cl fp => ?_⟩
        · exact snd_tg (g.blk scope s H C cl fp) h2
        · exact snd_it (g.blk scope s H C cl fp) F (hf _ _ (g.blk scope s H C cl fp) F).1 h3'
        · exact snd_tg (g.blk scope s H C cl fp) h2'
        · exact snd_ifs (hf _ _ (g.blk scope s H C cl fp) F).2 h4
        · exact ((hf _ _ (g.blk scope s H C cl fp) F).1 _ _ h5).2
      · cases h
    · cases h
  · cases h
theorem comp2_red {K : Fg} {σ : L2.St} {H : Hp} {ρ : Env} {ι : List Addr} {h h' : LH} {C : Ctx} {tg tg1 : Tg} {it1 : It} {elt : E} {c : Option E} {src : Src} {J : L2.It} {acc : List W} {Q : VK} (r : Rs K σ H ρ ι h) (sj : SrcJ K H ι src J)
    (e : compSrc (fun x acc h => match setT tg x (wipe ρ (tg.slots ++ tg1.slots)) with
        | none => none
        | some ρ' => match evi C it1 ρ' h with
          | some (src1, h1) => compSrc (turn tg1 ρ' (evc C c) (ev C elt)) src1 acc h1
          | none => none) src [] h = some (acc, h')) (p : Post K ι H (.l h'.length) (h' ++ [acc]) Q) :
    ∀ D, H D = none → ∃ W : Nat → Nat → Hp → Prop, (∃ m, W 0 m (upd H D (.lst []))) ∧ ∀ i m H, W i m H →
  (J.stop i H ∧ Q (.ref D) H) ∨ (J.go i H ∧ ∃ Nx : Hp → Prop, (∀ H', Nx H' → ∃ m', m' < m ∧ W (i + 1) m' H') ∧ ∀ x H', J.yld i H x H' → gT K tg x (L2.wipe σ (tg.slots ++ tg1.slots)) H' fun σ2 H2 => L2.wipe σ2 (tg.slots ++ tg1.slots) = L2.wipe σ (tg.slots ++ tg1.slots) ∧ tYes σ2 H2 fun b H3 =>
    if b = true then tI C K it1 σ2 H3 fun J1 H4 => ∃ W1 : Nat → Nat → Hp → Prop, (∃ m, W1 0 m H4) ∧ ∀ j k H, W1 j k H →
      (J1.stop j H ∧ Nx H) ∨ (J1.go j H ∧ ∃ Nx1 : Hp → Prop, (∀ H', Nx1 H' → ∃ k', k' < k ∧ W1 (j + 1) k' H') ∧ ∀ x H', J1.yld j H x H' → gT K tg1 x (L2.wipe σ2 tg1.slots) H' fun σ3 H5 => L2.wipe σ3 tg1.slots = L2.wipe σ2 tg1.slots ∧ tC' C K c σ3 H5 fun b H6 =>
        if b = true then tE C K elt σ3 H6 fun y H7 => ∃ acc, H7 D = some (.lst acc) ∧ acc.length < sizeLine ∧ Nx1 (upd H7 D (.lst (acc ++ [y]))) else Nx1 H6)
    else Nx H3) := by
  intro D hD
  have c0 := Cs.start r.rh hD
  have sb0 : Stab H (upd H D (.lst [])) := c0.st.stab
  have sj' : SrcJ K (upd H D (.lst [])) ι src J := by
    cases src with
    | its ws => obtain ⟨ds, e1, s1⟩ := sj; exact ⟨ds, e1, fun i H' st => s1 i H' (sb0.trans st)⟩
    | live a n => exact sj
  refine turns_red (B := fun x H' Nx => gT K tg x (L2.wipe σ (tg.slots ++ tg1.slots)) H' fun σ2 H2 => L2.wipe σ2 (tg.slots ++ tg1.slots) = L2.wipe σ (tg.slots ++ tg1.slots) ∧ tYes σ2 H2 fun b H3 =>
    if b = true then tI C K it1 σ2 H3 fun J1 H4 => ∃ W1 : Nat → Nat → Hp → Prop, (∃ m, W1 0 m H4) ∧ ∀ j k H, W1 j k H →
      (J1.stop j H ∧ Nx H) ∨ (J1.go j H ∧ ∃ Nx1 : Hp → Prop, (∀ H', Nx1 H' → ∃ k', k' < k ∧ W1 (j + 1) k' H') ∧ ∀ x H', J1.yld j H x H' → gT K tg1 x (L2.wipe σ2 tg1.slots) H' fun σ3 H5 => L2.wipe σ3 tg1.slots = L2.wipe σ2 tg1.slots ∧ tC' C K c σ3 H5 fun b H6 =>
        if b = true then tE C K elt σ3 H6 fun y H7 => ∃ acc, H7 D = some (.lst acc) ∧ acc.length < sizeLine ∧ Nx1 (upd H7 D (.lst (acc ++ [y]))) else Nx1 H6)
    else Nx H3) (Qd := fun H => Q (.ref D) H) sj' e c0 (fun x v accx accy hx hy ιx Hx Nx cs pf sb rv ef nx => ?_) fun H' ι' cs pf sb => cs.fin hD p
  split at ef
  · cases ef
  · rename_i ρ1 hs
    refine gT_red rv (r.wiped (tg.slots ++ tg1.slots) (sb0.trans sb) pf cs.rh) hs fun σ' r' so => ⟨?_, ?_⟩
    · exact ((so.sub fun i hi => List.mem_append_left _ hi).trans (SameOut.wiped σ (tg.slots ++ tg1.slots))).wipe
    · unfold tYes
      dsimp only
      rw [if_pos rfl]
      split at ef
      · rename_i src1 h1 hi
        refine ⟨ρ1, hx, ιx, src1, h1, r', hi, fun J1 H1 ι1 s1 r1 sj1 => ?_⟩
        have cs1 := cs.step s1 r1
        refine turns_red (B := fun x H' Nx1 => gT K tg1 x (L2.wipe σ' tg1.slots) H' fun σ3 H5 => L2.wipe σ3 tg1.slots = L2.wipe σ' tg1.slots ∧ tC' C K c σ3 H5 fun b H6 =>
          if b = true then tE C K elt σ3 H6 fun y H7 => ∃ acc, H7 D = some (.lst acc) ∧ acc.length < sizeLine ∧ Nx1 (upd H7 D (.lst (acc ++ [y]))) else Nx1 H6) (Qd := Nx) sj1 ef cs1 (fun x1 v1 accx1 accy1 hx1 hy1 ιx1 Hx1 Nx1 cs2 pf2 sb2 rv1 ef1 nx1 => ?_) fun H' ι' cs' pf' sb' => nx H' ι' cs' ?_ ?_
        · refine inner_red cs2 hD ((r'.mono s1 r1).wiped tg1.slots sb2 pf2 cs2.rh) rv1 ef1 (fun σ'' so' => ?_) fun H' ι' c' pf' sb' => nx1 H' ι' c' ?_ (sb2.trans sb')
          · exact (so'.trans (SameOut.wiped σ' tg1.slots)).wipe
          · obtain ⟨t, et⟩ := pf2
            obtain ⟨t', et'⟩ := pf'
            exact ⟨t ++ t', by rw [et', et, List.append_assoc]⟩
        · obtain ⟨t, et⟩ := pf
          obtain ⟨t1, et1⟩ := s1.pre
          obtain ⟨t2, et2⟩ := pf'
          exact ⟨t ++ (t1 ++ t2), by rw [et2, et1, et]; simp [List.append_assoc]⟩
        · exact (sb.trans s1.stab).trans sb'
      · cases ef
theorem comp2_m {X : Cx} {t t1 : Tg} {i i1 : It} {c : Option E} {e : E} : ∀ σ H Q, tE (cJ J k) X.K (.comp2 e t i t1 i1 c) σ H Q → tLc2 (tI (cJ J k) X.K i) (gT X.K t) tYes (tI (cJ J k) X.K i1) (gT X.K t1) (tC' (cJ J k) X.K c) (tE (cJ J k) X.K e) (t.slots ++ t1.slots) t1.slots σ H Q := by
  rintro σ H Q ⟨ρ, h, ι, w, h', r, e, p⟩
  unfold ev at e
  split at e
  · rename_i src h1 e1
    split at e
    · cases e
      rename_i acc h2 e2
      exact ⟨ρ, h, ι, src, h1, r, e1, fun J H1 ι1 s1 r1 sj => comp2_red (r.mono s1 r1) sj e2 (p.step s1)⟩
    · cases e
  · cases e
theorem comp_m {X : Cx} {t : Tg} {i : It} {c : Option E} {e : E} : ∀ σ H Q, tE (cJ J k) X.K (.comp e t i c) σ H Q → tLc (tI (cJ J k) X.K i) (gT X.K t) (tC' (cJ J k) X.K c) (tE (cJ J k) X.K e) t.slots σ H Q := by
  rintro σ H Q ⟨ρ, h, ι, w, h', r, e, p⟩
  unfold ev at e
  split at e
  · rename_i src h1 e1
    split at e
    · cases e
      rename_i acc h2 e2
      exact ⟨ρ, h, ι, src, h1, r, e1, fun J H1 ι1 s1 r1 sj => comp_red (r.mono s1 r1) sj e2 (p.step s1)⟩
    · cases e
  · cases e
theorem snd_all : ∀ (n : Nat) (x : Sx) (X : Cx), Good x k X → Facts X.prog X.w X.K X.mg X.base x.T J k → Snd X J k (tr n x) ∧ SndT X J k (tr n x)
  | 0, _, _, _, _ => ⟨(fun _ _ h => by cases h), (fun _ _ h => by cases h)⟩
  | n + 1, x, X, g, F => by
    have ih : ∀ (x : Sx) (X : Cx), Good x k X → Facts X.prog X.w X.K X.mg X.base x.T J k → Snd X J k (tr n x) ∧ SndT X J k (tr n x) := fun x X g F => snd_all n x X g F
    have hf := (ih x X g F).1
    have hT := (ih x X g F).2
    have main : ∀ (e : Expr) (Z : E), tr (n + 1) x e = some Z → PE X e (tE (cJ J k) X.K Z) ∧ PT X e (tB' (cJ J k) X.K Z) := by
      intro e Z h
      cases e with
      | Name y pos => have := snd_name (pos := pos) g F (show trName x y = some Z from h); exact ⟨this, sndT_val this fun _ => rfl⟩
      | Constant c j pos => have := snd_const (X := X) (J := J) (k := k) (j := j) (pos := pos) (show trC c = some Z from h); exact ⟨this, sndT_val this fun _ => rfl⟩
      | Tuple es j pos => have := snd_tuple (j := j) (pos := pos) hf h; exact ⟨this, sndT_val this fun _ => rfl⟩
      | List es pos => have := snd_list (pos := pos) hf h; exact ⟨this, sndT_val this fun _ => rfl⟩
      | BinOp a op b pos => have := snd_bin (pos := pos) hf h; exact ⟨this, sndT_val this fun _ => rfl⟩
      | UnaryOp op a pos =>
        cases op with
        | Not =>
          obtain ⟨A, ha, rfl⟩ := Option.map_eq_some_iff.mp (show (tr n x a).map E.not = some Z from h)
          exact ⟨snd_not (hf _ _ ha).2, sndT_not (hT _ _ ha)⟩
        | USub =>
          obtain ⟨A, ha, rfl⟩ := Option.map_eq_some_iff.mp (show (tr n x a).map E.neg = some Z from h)
          have := snd_neg (pos := pos) (hf _ _ ha).2
          exact ⟨this, sndT_val this fun _ => rfl⟩
        | Invert => cases h
        | UAdd => cases h
      | Compare a ops cs pos => exact snd_cmp g hf h
      | BoolOp op vs pos =>
        cases op with
        | And => exact ⟨snd_and hf h, (sndT_and hT h).pt⟩
        | Or => exact ⟨snd_or hf h, (sndT_or hT h).pt⟩
      | IfExp c a b pos =>
        replace h : (match tr n x c, tr n x a, tr n x b with
          | some k, some u, some w => some (E.ite k u w)
          | _, _, _ => none) = some Z := h
        split at h
        · cases h
          rename_i hc ha hb
          exact ⟨snd_ite (hT _ _ hc) (hf _ _ ha).2 (hf _ _ hb).2, sndT_ite (hT _ _ hc) (hT _ _ ha) (hT _ _ hb)⟩
        · cases h
      | Subscript v s pos => have := snd_sub (pos := pos) g F hf (show trSub (tr n x) x v s = some Z from h); exact ⟨this, sndT_val this fun _ => rfl⟩
      | Call fn args kws pos => have := snd_trCall (pos := pos) g F hf (show trCall (tr n x) x fn args kws pos = some Z from h); exact ⟨this, sndT_val this fun _ => rfl⟩
      | ListComp elt gs scope pos =>
        replace h : trComp (tr n) x elt gs scope = some Z := h
        unfold trComp at h
        split at h
        · obtain ⟨own, t, i, c, e, rfl, hok, rfl, hb, ho, hi, h1, h2, h3⟩ := snd_comp g F ih h
          have := pe_lc (pos := pos) g.calm g.nd hi hb h1 h2 h3 (ok_fold hok X.env)
          rw [ho] at this
          have := this.monoJ comp_m
          exact ⟨this, sndT_val this fun _ => rfl⟩
        · obtain ⟨own, t, t1, i, i1, c, e, ⟨rfl, rfl⟩, rfl, hok, hok1, rfl, hb, ho, hi, h1, hi1, h1', h2, h3⟩ := snd_comp2 g F ih h
          have := pe_lc2 (pos := pos) g.calm g.nd hi hb (vs1 := t1.slots) (by rw [ho]; exact fun i hi => List.mem_append_right _ hi) h1 (fun _ _ _ _ _ => pts_nil) hi1 h1' h2 h3 (ok_fold hok X.env) (fun env => ok_fold hok1 env)
          rw [ho] at this
          have := this.monoJ comp2_m
          exact ⟨this, sndT_val this fun _ => rfl⟩
        · cases h
      | _ => cases h
    exact ⟨fun e Z h => ⟨tr_ok h, (main e Z h).1⟩, fun e Z h => (main e Z h).2⟩
end

/-! ### statements -/
def isTupE : Expr → Bool
  | .Tuple .. => true
  | _ => false
def nmPos : Expr → Option (Str × Pos)
  | .Name y p => some (y, p)
  | _ => none
def trSs (f : Stmt → Option S) : List Stmt → Option (List S)
  | [] => some []
  | s :: r => match f s, trSs f r with
    | some a, some b => some (a :: b)
    | _, _ => none
/-- is the comprehension's value stored within it -/
def swapB (x : Sx) (y : Str) (py : Pos) : Expr → Bool
  | .ListComp _ _ scope pos => (match x.sc.names.lookup y with
      | some .local => true
      | _ => false) && (py.line == pos.line) && !(scope.names.any fun (n, k) => n == y && (k == .local || k == .cell))
  | _ => false
def lc1 : Expr → Bool
  | .ListComp .. => true
  | e => !isLc e
def locS (x : Sx) (y : Str) : Bool := match x.sc.names.lookup y with
  | some .local => true
  | _ => false
/-- a, b = e, f -/
def trPar (f : Expr → Option E) (x : Sx) (ts vs : List Expr) : Option S := match ts, vs with
  | [.Name a pa, .Name b pb], [u, w] =>
    if locS x a = true ∧ locS x b = true ∧ (pb.line == pa.line) = true ∧ a ≠ b ∧ okE u = true ∧ okE w = true then
      (match slotOf x.N a, slotOf x.N b, f u, f w with
      | some i, some j, some u', some w' =>
        if [u, w].all (foldedForSure 8) = true then some (.asg (.t [i, j]) (.tup [u', w']))
        else if [u, w].all (constantsAlone 8) = true then none else some (.par i j u' w')
      | _, _, _, _ => none) else none
  | [.Name a pa, .Name b pb, .Name c pc], [u, w, v] =>
    if locS x a = true ∧ locS x b = true ∧ locS x c = true ∧ (pb.line == pa.line) = true ∧ (pc.line == pa.line) = true ∧ a ≠ b ∧ a ≠ c ∧ b ≠ c ∧ okE u = true ∧ okE w = true ∧ okE v = true then
      (match slotOf x.N a, slotOf x.N b, slotOf x.N c, f u, f w, f v with
      | some i, some j, some l, some u', some w', some v' =>
        if [u, w, v].all (foldedForSure 8) = true then some (.asg (.t [i, j, l]) (.tup [u', w', v']))
        else if [u, w, v].all (constantsAlone 8) = true then none else some (.par3 i j l u' w' v')
      | _, _, _, _, _, _ => none) else none
  | _, _ => none
def trAsg (n : Nat) (x : Sx) (tg e : Expr) (pos : Pos) : Option S := match tg with
  | .Name y py => if locB x y = true ∧ lc1 e = true then (match slotOf x.N y, tr n x e with
      | some i, some z => some (.asg (.n i) z)
      | _, _ => none) else none
  | .Tuple es j p => match e with
    | .Tuple vs _ _ => trPar (tr n x) x es vs
    | e => if isTupE e = false ∧ isLc e = false then (match trTgs x es, tr n x e with
      | some is, some z => some (.asg (.t is) z)
      | _, _ => none) else none
  | .Subscript o i p => if isLc e = false then (match tr n x o, tr n x i, tr n x e with
      | some a, some b, some z => some (.setix a b z)
      | _, _, _ => none) else none
  | _ => none
def trS : Nat → Sx → Stmt → Option S
  | 0, _, _ => none
  | n + 1, x, s => match s with
    | .Assign [tg] e pos => trAsg n x tg e pos
    | .AugAssign tg op e _ => (match tg with
      | .Name y _ => if locB x y = true then (match op, slotOf x.N y, tr n x e with
        | .Add, some i, some z => some (.aug .add i z)
        | .Sub, some i, some z => some (.aug .sub i z)
        | _, _, _ => none) else none
      | _ => none)
    | .If c a b _ => (match tr n x c, trSs (trS n x) a, trSs (trS n x) b with
      | some c, some a, some b => some (.ife c a b)
      | _, _, _ => none)
    | .For tg iter body orelse _ => if orelse.isEmpty = true ∧ okE iter = true then (match trTg x tg, trIt (tr n x) x iter, trSs (trS n x) body with
      | some t, some i, some b => some (.for t i b)
      | _, _, _ => none) else none
    | .While c body orelse _ => if orelse.isEmpty = true then (match tr n x c, trSs (trS n x) body with
      | some c, some b => some (.whl c b)
      | _, _ => none) else none
    | .Return v _ => (match v with
      | some e => (tr n x e).map .ret
      | none => some .retN)
    | .Expr e _ => if isLc e = false then (tr n x e).map .ex else none
    | .Pass _ => some .pass
    | .Break _ => some .brk
    | .Continue _ => some .cnt
    | .Raise _ _ _ => some .never
    | _ => none
section
variable {X : Cx} {x : Sx} {J : Prog} {k : Nat}
theorem _root_.L2.PS.monoJ {X : Cx} {e : Stmt} {t t' : TS} (h : PS X e t) (m : ∀ D σ H, t' D σ H → t D σ H) : PS X e t' := ⟨fun pins s σ H D I q => h.run pins s σ H D I (m _ _ _ q)⟩
theorem _root_.L2.PSs.monoJ {X : Cx} {e : List Stmt} {t t' : TS} (h : PSs X e t) (m : ∀ D σ H, t' D σ H → t D σ H) : PSs X e t' := ⟨fun pins s σ H D I q => h.run pins s σ H D I (m _ _ _ q)⟩
theorem sse_cons {C : Ctx} {s : S} {r : List S} {ρ : Env} {h : LH} {res : Fl × Env × LH} (e : execs C (s :: r) ρ h = some res) : ∃ f ρ1 h1, exec C s ρ h = some (f, ρ1, h1) ∧ match f with
    | .nxt => execs C r ρ1 h1 = some res
    | f => res = (f, ρ1, h1) := by
  unfold execs at e
  split at e
  · exact ⟨_, _, _, by assumption, e⟩
  · cases e; exact ⟨_, _, _, by assumption, rfl⟩
  · cases e; exact ⟨_, _, _, by assumption, rfl⟩
  · cases e; exact ⟨_, _, _, by assumption, rfl⟩
  · cases e
theorem snd_ss {f : Stmt → Option S} (hf : ∀ (s : Stmt) (Z : S), f s = some Z → PS X s (tSt (cJ J k) X.K Z)) : ∀ {ss : List Stmt} {Zs : List S}, trSs f ss = some Zs → PSs X ss (tSs (cJ J k) X.K Zs)
  | [], Zs, h => by
    cases h
    refine pss_nil.monoJ ?_
    rintro D σ H ⟨ρ, h, ι, fl, ρ', h', r, e, p⟩
    unfold execs at e
    cases e
    exact p σ H ι (.refl _ _) r
  | s :: ss, Zs, h => by
    unfold trSs at h
    split at h
    · cases h
      rename_i h1 h2
      refine (pss_cons (hf _ _ h1) (snd_ss hf h2)).monoJ ?_
      rintro D σ H ⟨ρ, h, ι, fl, ρ', h', r, e, p⟩
      obtain ⟨f1, ρ1, h1, e1, e2⟩ := sse_cons e
      refine ⟨ρ, h, ι, f1, ρ1, h1, r, e1, ?_⟩
      cases f1 with
      | nxt => exact fun σ' H' ι' s1 r1 => ⟨ρ1, h1, ι', fl, ρ', h', r1, e2, p.step s1⟩
      | brk => cases e2; exact p
      | cnt => cases e2; exact p
      | ret w => cases e2; exact p
    · cases h
theorem swap_eq (g : Good x k X) (hk : X.env.scope.kind = .function) {y : Str} {py : Pos} {e : Expr} {l : Nat} (he : lc1 e = true) : swapsWith e (some (.Name y py)) l X.env = pure (swapB x y py e) := by
  cases e with
  | ListComp elt gs scope pos =>
    have hb : X.env.blockKind = .function := by unfold PySem.Env.blockKind; rw [hk]; rfl
    have hkd : X.env.kindOf y = x.sc.names.lookup y := by unfold PySem.Env.kindOf; rw [g.sc]
    unfold swapsWith swapB
    simp only [hb, hkd, Expr.pos]
    cases x.sc.names.lookup y with
    | none => rfl
    | some kd => cases kd <;> rfl
  | SetComp _ _ _ _ => cases he
  | DictComp _ _ _ _ _ => cases he
  | _ => rfl
theorem locS_eq {y : Str} (h : locS x y = true) : x.sc.names.lookup y = some .local := by
  unfold locS at h
  split at h
  · assumption
  · cases h
theorem locS_loc {y : Str} (h : locS x y = true) : locB x y = true := by
  have := locS_eq h
  unfold locB; rw [this]
theorem stores2 (g : Good x k X) (hk : X.env.scope.kind = .function) {a b : Str} {pa pb p1 p2 : Pos} {u w : Expr} {j1 j2 : Nat} (ka : X.env.kindOf a = some .local) (kb : X.env.kindOf b = some .local) (ln : pb.line = pa.line) (ne : a ≠ b) (ou : okE u = true) (ow : okE w = true) :
    swappedStores [.Tuple [.Name a pa, .Name b pb] j1 p1] (.Tuple [u, w] j2 p2) X.env = if [u, w].all (foldedForSure 8) = true then pure none else if [u, w].all (constantsAlone 8) = true then (do unsupported "assign.tuple-of-constant-expressions:order-of-the-stores"; return some [a, b]) else pure (some [a, b]) := by
  have hb : X.env.blockKind = .function := by unfold PySem.Env.blockKind; rw [hk]; rfl
  unfold swappedStores
  simp only [hb, List.length_cons, List.length_nil, pure_bind]
  have n1 : (match Expr.Name a pa with | .Name id pos => if (X.env.kindOf id == some .local && pos.line == pa.line) = true then some id else none | _ => none) = some a := by simp [ka]
  split
  · rename_i z
    cases z
  split
  · rename_i z
    exfalso
    obtain ⟨v, hv', y⟩ := List.any_eq_true.mp z
    clear z
    have hv2 := (show v = u ∨ v = w by simpa using hv')
    clear hv'
    rcases hv2 with rfl | rfl
    · cases v <;> first | (cases y; done) | (cases ou; done)
    · cases v <;> first | (cases y; done) | (cases ow; done)
  have l1 : (Expr.Name a pa).pos.line = pa.line := rfl
  split
  · rename_i z
    exfalso
    revert z
    simp [ka, kb, ln, l1, List.eraseDups_cons, Ne.symm ne]
  · have e : (List.filterMap (fun t => match t with
        | .Name id pos => if (X.env.kindOf id == some .local && pos.line == (Option.map (fun x => x.pos.line) [Expr.Name a pa, Expr.Name b pb].head?).getD 0) = true then some id else none
        | _ => none) [Expr.Name a pa, Expr.Name b pb]) = [a, b] := by simp [ka, kb, ln, l1]
    by_cases q1 : [u, w].all (foldedForSure 8) = true
    · rw [if_pos q1, if_pos q1]
    · rw [if_neg q1, if_neg q1]
      by_cases q2 : [u, w].all (constantsAlone 8) = true
      · rw [if_pos q2, if_pos q2]
        exact congrArg (fun l => (do unsupported "assign.tuple-of-constant-expressions:order-of-the-stores"; return some l : Sem (Option (List Str)))) e
      · rw [if_neg q2, if_neg q2]
        exact congrArg (fun l => (pure (some l) : Sem (Option (List Str)))) e
theorem stores3 (g : Good x k X) (hk : X.env.scope.kind = .function) {a b c : Str} {pa pb pc p1 p2 : Pos} {u w v0 : Expr} {j1 j2 : Nat} (ka : X.env.kindOf a = some .local) (kb : X.env.kindOf b = some .local) (kc : X.env.kindOf c = some .local) (ln : pb.line = pa.line) (lm : pc.line = pa.line) (n1 : a ≠ b) (n2 : a ≠ c) (n3 : b ≠ c) (ou : okE u = true) (ow : okE w = true) (ov : okE v0 = true) :
    swappedStores [.Tuple [.Name a pa, .Name b pb, .Name c pc] j1 p1] (.Tuple [u, w, v0] j2 p2) X.env = if [u, w, v0].all (foldedForSure 8) = true then pure none else if [u, w, v0].all (constantsAlone 8) = true then (do unsupported "assign.tuple-of-constant-expressions:order-of-the-stores"; return some [a, b, c]) else pure (some [a, b, c]) := by
  have hb : X.env.blockKind = .function := by unfold PySem.Env.blockKind; rw [hk]; rfl
  unfold swappedStores
  simp only [hb, List.length_cons, List.length_nil, pure_bind]
  split
  · rename_i z
    cases z
  split
  · rename_i z
    exfalso
    obtain ⟨v, hv', y⟩ := List.any_eq_true.mp z
    clear z
    have hv2 := (show v = u ∨ v = w ∨ v = v0 by simpa using hv')
    clear hv'
    rcases hv2 with rfl | rfl | rfl
    · cases v <;> first | (cases y; done) | (cases ou; done)
    · cases v <;> first | (cases y; done) | (cases ow; done)
    · cases v <;> first | (cases y; done) | (cases ov; done)
  have l1 : (Expr.Name a pa).pos.line = pa.line := rfl
  split
  · rename_i z
    exfalso
    revert z
    simp [ka, kb, kc, ln, lm, l1, List.eraseDups_cons, Ne.symm n1, Ne.symm n2, Ne.symm n3]
  · have e : (List.filterMap (fun t => match t with
        | .Name id pos => if (X.env.kindOf id == some .local && pos.line == (Option.map (fun x => x.pos.line) [Expr.Name a pa, Expr.Name b pb, Expr.Name c pc].head?).getD 0) = true then some id else none
        | _ => none) [Expr.Name a pa, Expr.Name b pb, Expr.Name c pc]) = [a, b, c] := by simp [ka, kb, kc, ln, lm, l1]
    by_cases q1 : [u, w, v0].all (foldedForSure 8) = true
    · rw [if_pos q1, if_pos q1]
    · rw [if_neg q1, if_neg q1]
      by_cases q2 : [u, w, v0].all (constantsAlone 8) = true
      · rw [if_pos q2, if_pos q2]
        exact congrArg (fun l => (do unsupported "assign.tuple-of-constant-expressions:order-of-the-stores"; return some l : Sem (Option (List Str)))) e
      · rw [if_neg q2, if_neg q2]
        exact congrArg (fun l => (pure (some l) : Sem (Option (List Str)))) e
theorem snd_par (g : Good x k X) (F : Facts X.prog X.w X.K X.mg X.base x.T J k) (hk : X.env.scope.kind = .function) {f : Expr → Option E} (hf : Snd X J k f) {ts vs : List Expr} {j1 j2 : Nat} {p1 p2 pos : Pos} {Z : S} (h : trPar f x ts vs = some Z) : PS X (.Assign [.Tuple ts j1 p1] (.Tuple vs j2 p2) pos) (tSt (cJ J k) X.K Z) := by
  have plain : ∀ {is : List Nat} {zs : List E}, trTgs x ts = some is → trs f vs = some zs → swappedStores [.Tuple ts j1 p1] (.Tuple vs j2 p2) X.env = pure none → PS X (.Assign [.Tuple ts j1 p1] (.Tuple vs j2 p2) pos) (tSt (cJ J k) X.K (.asg (.t is) (.tup zs))) := by
    intro is zs hi hz st
    obtain ⟨a1, a2⟩ := trTgs_nm hi X.env
    have pg := pg_tup (X := X) (k := j1) (pos := p1) g.calm (snd_tgs g hi) a1 a2
    have sw : swapsWithSole [.Tuple ts j1 p1] (.Tuple vs j2 p2) pos.line X.env = pure false := noLc_swaps (e := .Tuple vs j2 p2) rfl (some (.Tuple ts j1 p1)) pos.line X.env
    refine (ps_asg (snd_tuple hf (by rw [hz]; rfl)) pg sw st rfl).monoJ ?_
    rintro D σ H ⟨ρ, h, ι, fl, ρ', h', r, e, p⟩
    unfold exec at e
    split at e
    · rename_i w h1 e1
      split at e
      · cases e
        rename_i ρ1 hs
        refine ⟨ρ, h, ι, w, _, r, e1, fun v H1 ι1 s1 r1 q1 => ?_⟩
        exact gT_red (tg := .t is) q1 (r.mono s1 r1) hs fun σ' r' _ => p σ' H1 ι1 s1 r'
      · cases e
    · cases e
  unfold trPar at h
  split at h
  · rename_i a pa b pb u w
    split at h
    · rename_i cond
      obtain ⟨la, lb, ln, ne, ou, ow⟩ := cond
      have ea := locS_eq la
      have eb := locS_eq lb
      split at h
      · rename_i i j u' w' hi hj hu hw
        have hN1 : X.N[i]? = some a := by rw [g.N]; exact slotOf_get hi
        have hN2 : X.N[j]? = some b := by rw [g.N]; exact slotOf_get hj
        have hij : i ≠ j := by
          rintro rfl
          rw [hN1] at hN2
          exact ne (Option.some.inj hN2)
        have ka : X.env.kindOf a = some .local := by unfold PySem.Env.kindOf; rw [g.sc]; exact ea
        have kb : X.env.kindOf b = some .local := by unfold PySem.Env.kindOf; rw [g.sc]; exact eb
        have st := stores2 (j1 := j1) (j2 := j2) (p1 := p1) (p2 := p2) g hk ka kb (eq_of_beq ln) ne ou ow
        split at h
        · cases h
          rename_i hf1
          rw [if_pos hf1] at st
          refine plain ?_ ?_ st
          · simp [trTgs, nmOf, locS_loc la, locS_loc lb, hi, hj]
          · simp [trs, hu, hw]
        · rename_i hf1
          rw [if_neg hf1] at st
          split at h
          · cases h
          · cases h
            rename_i hf2
            rw [if_neg hf2] at st
            have pa2 := snd_args hf (es := [u, w]) (Es := [u', w']) (by simp [trs, hu, hw])
            refine (ps_par g.calm g.nd hN1 hN2 hij (by rw [g.sc]; exact ea) (by rw [g.sc]; exact eb) pa2 st (noLc_swaps (e := .Tuple [u, w] j2 p2) rfl (some (.Tuple [.Name a pa, .Name b pb] j1 p1)) pos.line X.env)).monoJ ?_
            rintro D σ H ⟨ρ, h, ι, fl, ρ', h', r, e, p⟩
            unfold exec at e
            split at e
            · rename_i v1 h1 e1
              split at e
              · rename_i v2 h2 e2
                cases e
                refine ⟨ρ, h, ι, [v1, v2], h', r, by simp [evs, e1, e2], fun vs H1 ι1 s1 r1 q1 => ?_⟩
                cases q1 with | cons c1 q1 => cases q1 with | cons c2 q1 =>
                  cases q1
                  exact ⟨_, _, rfl, p _ H1 ι1 s1 (((r.mono s1 r1).set c1).set c2)⟩
              · cases e
            · cases e
      · cases h
    · cases h
  · rename_i a pa b pb c pc u w v
    split at h
    · rename_i cond
      obtain ⟨la, lb, lc, ln, lm, n1, n2, n3, ou, ow, ov⟩ := cond
      have ea := locS_eq la
      have eb := locS_eq lb
      have ec := locS_eq lc
      split at h
      · rename_i i j l u' w' v' hi hj hl hu hw hv
        have hN1 : X.N[i]? = some a := by rw [g.N]; exact slotOf_get hi
        have hN2 : X.N[j]? = some b := by rw [g.N]; exact slotOf_get hj
        have hN3 : X.N[l]? = some c := by rw [g.N]; exact slotOf_get hl
        have hij : i ≠ j := by
          rintro rfl
          rw [hN1] at hN2
          exact n1 (Option.some.inj hN2)
        have hil : i ≠ l := by
          rintro rfl
          rw [hN1] at hN3
          exact n2 (Option.some.inj hN3)
        have hjl : j ≠ l := by
          rintro rfl
          rw [hN2] at hN3
          exact n3 (Option.some.inj hN3)
        have ka : X.env.kindOf a = some .local := by unfold PySem.Env.kindOf; rw [g.sc]; exact ea
        have kb : X.env.kindOf b = some .local := by unfold PySem.Env.kindOf; rw [g.sc]; exact eb
        have kc : X.env.kindOf c = some .local := by unfold PySem.Env.kindOf; rw [g.sc]; exact ec
        have st := stores3 (j1 := j1) (j2 := j2) (p1 := p1) (p2 := p2) g hk ka kb kc (eq_of_beq ln) (eq_of_beq lm) n1 n2 n3 ou ow ov
        split at h
        · cases h
          rename_i hf1
          rw [if_pos hf1] at st
          refine plain ?_ ?_ st
          · simp [trTgs, nmOf, locS_loc la, locS_loc lb, locS_loc lc, hi, hj, hl]
          · simp [trs, hu, hw, hv]
        · rename_i hf1
          rw [if_neg hf1] at st
          split at h
          · cases h
          · cases h
            rename_i hf2
            rw [if_neg hf2] at st
            have pa2 := snd_args hf (es := [u, w, v]) (Es := [u', w', v']) (by simp [trs, hu, hw, hv])
            refine (ps_par3 g.calm g.nd hN1 hN2 hN3 hij hil hjl (by rw [g.sc]; exact ea) (by rw [g.sc]; exact eb) (by rw [g.sc]; exact ec) pa2 st (noLc_swaps (e := .Tuple [u, w, v] j2 p2) rfl (some (.Tuple [.Name a pa, .Name b pb, .Name c pc] j1 p1)) pos.line X.env)).monoJ ?_
            rintro D σ H ⟨ρ, h, ι, fl, ρ', h', r, e, p⟩
            unfold exec at e
            split at e
            · rename_i v1 h1 e1
              split at e
              · rename_i v2 h2 e2
                split at e
                · rename_i v3 h3 e3
                  cases e
                  refine ⟨ρ, h, ι, [v1, v2, v3], h', r, by simp [evs, e1, e2, e3], fun vs H1 ι1 s1 r1 q1 => ?_⟩
                  cases q1 with | cons c1 q1 => cases q1 with | cons c2 q1 => cases q1 with | cons c3 q1 =>
                    cases q1
                    exact ⟨_, _, _, rfl, p _ H1 ι1 s1 ((((r.mono s1 r1).set c1).set c2).set c3)⟩
                · cases e
              · cases e
            · cases e
      · cases h
    · cases h
  · cases h
theorem snd_asg (g : Good x k X) (F : Facts X.prog X.w X.K X.mg X.base x.T J k) (hk : X.env.scope.kind = .function) {n : Nat} {tg e : Expr} {pos : Pos} {Z : S} (h : trAsg n x tg e pos = some Z) : PS X (.Assign [tg] e pos) (tSt (cJ J k) X.K Z) := by
  have hf := (snd_all (J := J) n x X g F).1
  have mset : ∀ {i : Nat} {z : E} {te : TE}, (∀ σ H Q, tE (cJ J k) X.K z σ H Q → te σ H Q) → ∀ D σ H, tSt (cJ J k) X.K (.asg (.n i) z) D σ H → tAsg te (gName i) D σ H := by
    rintro i z te m D σ H ⟨ρ, h, ι, fl, ρ', h', r, e, p⟩
    unfold exec at e
    split at e
    · rename_i w h1 e1
      cases e
      refine m σ H _ ⟨ρ, h, ι, w, h', r, e1, fun v H1 ι1 s1 r1 q1 => ?_⟩
      exact p _ H1 ι1 s1 ((r.mono s1 r1).set q1)
    · cases e
  unfold trAsg at h
  split at h
  · rename_i y py
    split at h
    · rename_i hl
      split at h
      · cases h
        rename_i i z hi hz
        obtain ⟨l1, l2⟩ := g.loc hl.1
        have hN : X.N[i]? = some y := by rw [g.N]; exact slotOf_get hi
        have hs := swap_eq (py := py) (l := pos.line) g hk hl.2 (y := y)
        cases hsw : swapB x y py e with
        | false =>
          rw [hsw] at hs
          exact (ps_set g.nd hN l1 (hf _ _ hz).2 hs l2).monoJ (mset fun _ _ _ q => q)
        | true =>
          rw [hsw] at hs
          cases e with
          | ListComp elt gs scope lpos =>
            cases n with
            | zero => cases hz
            | succ n =>
              have hyl : X.env.scope.names.lookup y = some .local := by
                rw [g.sc]
                unfold swapB at hsw
                cases q : x.sc.names.lookup y with
                | none => rw [q] at hsw; cases hsw
                | some kd => cases kd <;> first | rfl | (rw [q] at hsw; cases hsw)
              replace hz : trComp (tr n) x elt gs scope = some z := hz
              unfold trComp at hz
              split at hz
              · obtain ⟨own, t, it, c, e, rfl, hok, rfl, hb, ho, hi', h1, h2, h3⟩ := snd_comp (J := J) g F (snd_all n) hz
                have := ps_setLc g.calm g.nd hN hyl hs hi' hb h1 h2 h3 (ok_fold hok X.env)
                rw [ho] at this
                exact this.monoJ (mset comp_m)
              · obtain ⟨own, t, t1, i, i1, c, e, ⟨rfl, rfl⟩, rfl, hok, hok1, rfl, hb, ho, hi', h1, hi1, h1', h2, h3⟩ := snd_comp2 (J := J) g F (snd_all n) hz
                have := ps_setLc2 g.calm g.nd hN hyl hs hi' hb (vs1 := t1.slots) (by rw [ho]; exact fun i hi => List.mem_append_right _ hi) h1 (fun _ _ _ _ _ => pts_nil) hi1 h1' h2 h3 (ok_fold hok X.env) (fun env => ok_fold hok1 env)
                rw [ho] at this
                exact this.monoJ (mset comp2_m)
              · cases hz
          | _ => cases hsw
      · cases h
    · cases h
  · rename_i es j p
    split at h
    · exact snd_par g F hk hf h
    split at h
    · rename_i hl
      split at h
      · cases h
        rename_i is z hi hz
        obtain ⟨a1, a2⟩ := trTgs_nm hi X.env
        have pg := pg_tup (X := X) (k := j) (pos := p) g.calm (snd_tgs g hi) a1 a2
        have sw : swapsWithSole [.Tuple es j p] e pos.line X.env = pure false := noLc_swaps hl.2 (some (.Tuple es j p)) pos.line X.env
        have st : swappedStores [.Tuple es j p] e X.env = pure none := by
          have := hl.1
          cases e <;> first | rfl | cases this
        refine (ps_asg (hf _ _ hz).2 pg sw st rfl).monoJ ?_
        rintro D σ H ⟨ρ, h, ι, fl, ρ', h', r, e, p⟩
        unfold exec at e
        split at e
        · rename_i w h1 e1
          split at e
          · cases e
            rename_i ρ1 hs
            refine ⟨ρ, h, ι, w, _, r, e1, fun v H1 ι1 s1 r1 q1 => ?_⟩
            exact gT_red (tg := .t is) q1 (r.mono s1 r1) hs fun σ' r' _ => p σ' H1 ι1 s1 r'
          · cases e
        · cases e
      · cases h
    · cases h
  · rename_i o i p
    split at h
    · rename_i hl
      split at h
      · cases h
        rename_i a b z ha hb hz
        have sw : swapsWithSole [.Subscript o i p] e pos.line X.env = pure false := noLc_swaps hl (some (.Subscript o i p)) pos.line X.env
        refine (ps_asg (hf _ _ hz).2 (pg_sub (hf _ _ ha).2 (hf _ _ hb).2 set_J (ok_assign (hf _ _ hb).1)) sw (by cases e <;> rfl) rfl).monoJ ?_
        rintro D σ H ⟨ρ, h, ι, fl, ρ', h', r, e, p⟩
        unfold exec at e
        split at e
        · rename_i w h1 e1
          split at e
          · rename_i u h2 e2
            split at e
            · rename_i kk h3 e3
              split at e
              · cases e
                rename_i h4 e4
                refine ⟨ρ, h, ι, w, h1, r, e1, fun v H1 ι1 s1 r1 q1 => ⟨ρ, h1, ι1, u, h2, r.mono s1 r1, e2, fun v2 H2 ι2 s2 r2 q2 => ⟨ρ, h2, ι2, kk, h3, r.mono (s1.trans s2) r2, e3, fun v3 H3 ι3 s3 r3 q3 => ?_⟩⟩⟩
                refine ⟨ι3, h3, u, kk, w, h', r3, q2.mono s3, q3, (q1.mono s2).mono s3, e4, fun H4 ι4 s4 r4 => ?_⟩
                exact p σ H4 ι4 (((s1.trans s2).trans s3).trans s4) (r.mono (((s1.trans s2).trans s3).trans s4) r4)
              · cases e
            · cases e
          · cases e
        · cases e
      · cases h
    · cases h
  · cases h
theorem snd_aug (g : Good x k X) {y : Str} {py pos : Pos} {e : Expr} {z : E} {i : Nat} {op : Operator} {bo : BOp} (ho : OpR X (inplaceOp op) (rJ2 X.K fun h u w => augop h bo u w)) (hl : locB x y = true) (hi : slotOf x.N y = some i) (he : PE X e (tE (cJ J k) X.K z)) :
    PS X (.AugAssign (.Name y py) op e pos) (tSt (cJ J k) X.K (.aug bo i z)) := by
  obtain ⟨l1, l2⟩ := g.loc hl
  refine (ps_aug g.nd (by rw [g.N]; exact slotOf_get hi) l1 he (fun pins s σ H x y v u Q I rx ry q => ho pins s σ H x y v u Q I rx ry q) l2).monoJ ?_
  rintro D σ H ⟨ρ, h, ι, fl, ρ', h', r, e, p⟩
  unfold exec at e
  split at e
  · rename_i u hu
    split at e
    · rename_i w h1 e1
      split at e
      · rename_i v h2 e2
        cases e
        obtain ⟨xv, hx, rx⟩ := r.rl.env i u hu
        refine ⟨xv, hx, ρ, h, ι, w, h1, r, e1, fun yv H1 ι1 s1 r1 q1 => ?_⟩
        exact ⟨ι1, h1, u, w, v, h', r1, rx.mono s1, q1, e2, fun zv H2 ι2 s2 r2 q2 => p _ H2 ι2 (s1.trans s2) ((r.mono (s1.trans s2) r2).set q2)⟩
      · cases e
    · cases e
  · cases e
theorem snd_stmt (g : Good x k X) (F : Facts X.prog X.w X.K X.mg X.base x.T J k) (hk : X.env.scope.kind = .function) : ∀ (n : Nat) (s : Stmt) (Z : S), trS n x s = some Z → PS X s (tSt (cJ J k) X.K Z)
  | 0, _, _, h => by cases h
  | n + 1, s, Z, h => by
    have hf := (snd_all (J := J) n x X g F).1
    have hT := (snd_all (J := J) n x X g F).2
    have ih := snd_stmt g F hk n
    have hp : PassesOwn (model X.prog X.w) X.A X.env X.xe := by rw [g.xe]; exact PassesOwn.never
    cases s with
    | Assign tgs e pos =>
      cases tgs with
      | nil => cases h
      | cons tg r =>
        cases r with
        | nil => exact snd_asg g F hk h
        | cons _ _ => cases h
    | AugAssign tg op e pos =>
      cases tg with
      | Name y py =>
        replace h : (if locB x y = true then (match op, slotOf x.N y, tr n x e with
          | .Add, some i, some z => some (S.aug .add i z)
          | .Sub, some i, some z => some (S.aug .sub i z)
          | _, _, _ => none) else none) = some Z := h
        split at h
        · rename_i hl
          split at h
          · cases h; exact snd_aug g iop_addJ hl (by assumption) (hf _ _ (by assumption)).2
          · cases h; exact snd_aug g iop_subJ hl (by assumption) (hf _ _ (by assumption)).2
          · cases h
        · cases h
      | _ => cases h
    | If c a b pos =>
      replace h : (match tr n x c, trSs (trS n x) a, trSs (trS n x) b with
        | some c, some a, some b => some (S.ife c a b)
        | _, _, _ => none) = some Z := h
      split at h
      · cases h
        rename_i c' a' b' hc ha hb
        refine (ps_if (hT _ _ hc) (snd_ss ih ha) (snd_ss ih hb)).monoJ ?_
        rintro D σ H ⟨ρ, h, ι, fl, ρ', h', r, e, p⟩
        unfold exec at e
        split at e
        · rename_i h1 e1
          refine ⟨ρ, h, ι, true, h1, r, e1, fun H1 ι1 s1 r1 => iteT ⟨ρ, h1, ι1, fl, ρ', h', r.mono s1 r1, e, p.step s1⟩⟩
        · rename_i h1 e1
          refine ⟨ρ, h, ι, false, h1, r, e1, fun H1 ι1 s1 r1 => iteF ⟨ρ, h1, ι1, fl, ρ', h', r.mono s1 r1, e, p.step s1⟩⟩
        · cases e
      · cases h
    | For tg iter body orelse pos =>
      replace h : (if orelse.isEmpty = true ∧ okE iter = true then (match trTg x tg, trIt (tr n x) x iter, trSs (trS n x) body with
        | some t, some i, some b => some (S.for t i b)
        | _, _, _ => none) else none) = some Z := h
      split at h
      · rename_i hoe
        split at h
        · cases h
          rename_i t i b ht hi hb
          have ho : orelse = [] := by
            have := hoe.1
            cases orelse with
            | nil => rfl
            | cons _ _ => cases this
          subst ho
          refine (ps_for hp g.calm (snd_it g F hf hi) (snd_tg g ht) (snd_ss ih hb) (ok_fold hoe.2 X.env)).monoJ ?_
          rintro D σ H ⟨ρ, h, ι, fl, ρ', h', r, e, p⟩
          unfold exec at e
          split at e
          · rename_i src h1 e1
            exact ⟨ρ, h, ι, src, h1, r, e1, fun J H1 ι1 s1 r1 sj => for_red (r.mono s1 r1) sj e (p.step s1)⟩
          · cases e
        · cases h
      · cases h
    | While c body orelse pos =>
      replace h : (if orelse.isEmpty = true then (match tr n x c, trSs (trS n x) body with
        | some c, some b => some (S.whl c b)
        | _, _ => none) else none) = some Z := h
      split at h
      · rename_i hoe
        split at h
        · cases h
          rename_i c' b hc hb
          have ho : orelse = [] := by
            cases orelse with
            | nil => rfl
            | cons _ _ => cases hoe
          subst ho
          refine (ps_while hp (hT _ _ hc) (snd_ss ih hb)).monoJ ?_
          rintro D σ H ⟨ρ, h, ι, fl, ρ', h', r, e, p⟩
          unfold exec at e
          exact while_red r e p
        · cases h
      · cases h
    | Return v pos =>
      cases v with
      | none =>
        cases h
        refine ps_retN.monoJ ?_
        rintro D σ H ⟨ρ, h, ι, fl, ρ', h', r, e, p⟩
        unfold exec at e
        cases e
        exact Post.dat p r.rh .non
      | some e =>
        obtain ⟨z, hz, rfl⟩ := Option.map_eq_some_iff.mp (show (tr n x e).map S.ret = some Z from h)
        refine (ps_ret (hf _ _ hz).2).monoJ ?_
        rintro D σ H ⟨ρ, h, ι, fl, ρ', h', r, e, p⟩
        unfold exec at e
        split at e
        · cases e
          exact ⟨ρ, h, ι, _, _, r, by assumption, p⟩
        · cases e
    | Expr e pos =>
      replace h : (if isLc e = false then (tr n x e).map S.ex else none) = some Z := h
      split at h
      · rename_i hl
        obtain ⟨z, hz, rfl⟩ := Option.map_eq_some_iff.mp h
        refine (ps_expr (hf _ _ hz).2 (noLc_swaps hl _ _ _)).monoJ ?_
        rintro D σ H ⟨ρ, h, ι, fl, ρ', h', r, e, p⟩
        unfold exec at e
        split at e
        · cases e
          exact ⟨ρ, h, ι, _, _, r, by assumption, fun v H1 ι1 s1 r1 _ => p σ H1 ι1 s1 (r.mono s1 r1)⟩
        · cases e
      · cases h
    | Pass pos =>
      cases h
      refine ps_pass.monoJ ?_
      rintro D σ H ⟨ρ, h, ι, fl, ρ', h', r, e, p⟩
      unfold exec at e
      cases e
      exact p σ H ι (.refl _ _) r
    | Break pos =>
      cases h
      refine ps_break.monoJ ?_
      rintro D σ H ⟨ρ, h, ι, fl, ρ', h', r, e, p⟩
      unfold exec at e
      cases e
      exact p σ H ι (.refl _ _) r
    | Continue pos =>
      cases h
      refine ps_continue.monoJ ?_
      rintro D σ H ⟨ρ, h, ι, fl, ρ', h', r, e, p⟩
      unfold exec at e
      cases e
      exact p σ H ι (.refl _ _) r
    | Raise _ _ _ =>
      cases h
      refine ps_never.monoJ ?_
      rintro D σ H ⟨ρ, h, ι, fl, ρ', h', r, e, p⟩
      unfold exec at e
      cases e
    | _ => cases h
end
end J
set_option maxRecDepth 100000
/-! Defs: what is read as J keeps J's promise, to any depth that there is room for. -/
namespace J
open PySem L2 PyProof.Rows
theorem zip_look : ∀ {ns : List Str} {us : List Value} {n : Str}, ns.length = us.length → n ∈ ns → ∃ u, (ns.zip us).lookup n = some u
  | [], _, _, _, h => by cases h
  | a :: ns, [], _, e, _ => by cases e
  | a :: ns, u :: us, n, e, h => by
    rw [List.zip_cons_cons, List.lookup_cons]
    by_cases q : n == a
    · rw [q]; exact ⟨u, rfl⟩
    · have q' : (n == a) = false := by simpa using q
      rw [q']
      refine zip_look (by simpa using e) ?_
      rcases List.mem_cons.mp h with rfl | h
      · simp at q
      · exact h
theorem fm_congr {α β : Type} {f g : α → Option β} : ∀ {l : List α}, (∀ x ∈ l, f x = g x) → l.filterMap f = l.filterMap g
  | [], _ => rfl
  | a :: r, h => by
    rw [List.filterMap_cons, List.filterMap_cons, h a List.mem_cons_self, fm_congr fun x hx => h x (List.mem_cons_of_mem _ hx)]
theorem zip_fm : ∀ {ns : List Str} {us : List Value}, ns.Nodup → ns.length = us.length → ns.filterMap (fun n => ((ns.zip us).lookup n).map fun u => (n, u)) = ns.zip us
  | [], _, _, _ => rfl
  | a :: ns, [], _, e => by cases e
  | a :: ns, u :: us, nd, e => by
    rw [List.nodup_cons] at nd
    rw [List.zip_cons_cons, List.filterMap_cons, List.lookup_cons, beq_self_eq_true]
    have : ns.filterMap (fun n => (((a, u) :: ns.zip us).lookup n).map fun u => (n, u)) = ns.filterMap (fun n => ((ns.zip us).lookup n).map fun u => (n, u)) := by
      refine fm_congr fun n hn => ?_
      rw [List.lookup_cons]
      have : (n == a) = false := beq_eq_false_iff_ne.mpr fun z => nd.1 (by rw [← z]; exact hn)
      rw [this]
    show (a, u) :: ns.filterMap (fun n => (((a, u) :: ns.zip us).lookup n).map fun u => (n, u)) = _
    rw [this, zip_fm nd.2 (by simpa using e)]
theorem bind_plain {x q : Str} {body : List Stmt} {scope : Scope} {kV doc pm cdv ct : Value} {an : Option Addr} (as : List Arg) (us : List Value) (nd : (as.map (·.arg)).Nodup) (hl : us.length = (as.map (·.arg)).length) :
    bindArgs (PySem.W.fnOf x q ⟨[], as, none, [], [], none, []⟩ body scope .none kV doc pm an cdv ct) ⟨us, []⟩ = pure ((as.map (·.arg)).zip us) := by
  unfold bindArgs
  have h0 : seqItems? Value.none = pure none := rfl
  have hm : (as.map (·.arg)).filter (fun n => (((as.map (·.arg)).zip us).lookup n).isNone) = [] := by
    rw [List.filter_eq_nil_iff]
    intro n hn
    obtain ⟨u, e⟩ := zip_look hl.symm hn
    rw [e]; simp
  simp only [PySem.W.fnOf, h0, pure_bind, List.map_nil, List.nil_append]
  have hz := zip_fm nd hl.symm
  generalize as.map (·.arg) = ns at *
  have ht : ∀ l : List Value, l = [] → ns.take (ns.length - l.length) = ns := by rintro l rfl; simp
  simp only [List.forIn_nil, pure_bind, hl, gt_iff_lt, Nat.lt_irrefl, decide_false, Bool.false_and, Bool.false_eq_true, if_false, List.append_nil, Option.getD_none, List.drop_nil, List.length_nil, Nat.sub_zero, List.take_length, hm, List.isEmpty_nil, Bool.not_true, List.zip_nil_right, List.zip_nil_left, hz, Array.toList_empty, ht [] rfl]

theorem Step.take {ι ι' : List Addr} {H H' : Hp} (s : Step ι H ι' H') : Step ι H ι H' := ⟨⟨[], by simp⟩, fun _ h => .inl h, s.keep, s.stab⟩
theorem Step.pre_take {ι ι' : List Addr} {H H' : Hp} (s : Step ι H ι' H') : ι'.take ι.length = ι := by
  obtain ⟨t, e⟩ := s.pre
  rw [e, List.take_left]
theorem allD_eq : ∀ {ws : List W} {ds : List D}, allD ws = some ds → ws = ds.map .d
  | [], ds, hd => by simp [allD] at hd; subst hd; rfl
  | .l _ :: xs, ds, hd => by simp [allD] at hd
  | .d x :: xs, ds, hd => by
    unfold allD at hd
    split at hd
    · cases hd
      rename_i hx
      rw [allD_eq hx]; rfl
    · cases hd
theorem fin_post {K : Fg} {ι : List Addr} {H : Hp} {w w' : W} {h1 h' : LH} {Q : VK} (e : fin ι.length w h1 = some (w', h')) (p : Post K ι H w' h' Q) : Post K ι H w h1 Q := by
  intro v H' ι' s r q
  have rt := r.take ι.length
  rw [s.pre_take] at rt
  unfold fin at e
  split at e
  · cases e
    cases q with | d q => exact p v H' ι s.take rt (.d q)
  · rename_i a h
    cases q with | l q =>
      split at e
      · cases e
        rename_i hl
        refine p _ H' ι s.take rt (.l ?_)
        obtain ⟨t, et⟩ := s.pre
        rw [et, List.getElem?_append_left hl] at q
        exact q
      · rename_i hl
        split at e
        · rename_i ws hws
          split at e
          · cases e
            rename_i ds hd
            obtain ⟨vs, g, q2, _⟩ := r.of q hws
            have qd := q2.allD hd
            have hmem : _ ∈ ι' := List.mem_of_getElem? q
            have hn : _ ∉ ι := fun hm => by
              obtain ⟨c, hc⟩ := List.mem_iff_getElem?.mp hm
              have hc' := s.at hc
              have hlc : c < ι'.length := by
                rcases Nat.lt_or_ge c ι'.length with z | z
                · exact z
                · rw [List.getElem?_eq_none z] at hc'; cases hc'
              have e1 := (List.getElem?_inj hlc r.nd).mp (hc'.trans q.symm)
              have : c < ι.length := by
                rcases Nat.lt_or_ge c ι.length with z | z
                · exact z
                · rw [List.getElem?_eq_none z] at hc; cases hc
              omega
            have ews : ws = ds.map .d := allD_eq hd
            rw [ews] at p
            have ra := rt.adopt hn g (RWs.data qd)
            refine p _ H' (ι ++ [_]) ⟨⟨[_], rfl⟩, fun z hz => ?_, s.keep, s.stab⟩ ra (.l (by simp))
            rcases List.mem_append.mp hz with y | y
            · exact .inl y
            · rw [List.mem_singleton.mp y]
              rcases s.fresh _ hmem with z1 | z1
              · exact absurd z1 hn
              · exact .inr z1
          · cases e
            exact p _ H' ι' s r (.l q)
        · cases e

/-- a def of the text, and its number -/
structure FRow where
  x : Str
  name : Str
  qual : Str
  i : Nat
  as : List Arg
  body : List Stmt
  scope : Scope
  N : List Str
def FRow.ps (r : FRow) : List Str := r.as.map (·.arg)
def FRow.sx (r : FRow) (T : Nm) : Sx := ⟨T, r.N, r.scope, fun _ => true⟩
def scopeB (r : FRow) : Bool := (match r.scope.kind with
    | .function => true
    | _ => false) && !r.scope.isCoroutine && !r.scope.isGenerator && decide r.N.Nodup && decide (r.N.take r.ps.length = r.ps) && (r.ps.all fun x => match r.scope.names.lookup x with
    | some .local => true
    | some .cell => true
    | _ => false) && r.scope.names.all fun y => match y.2 with
    | .free => false
    | _ => true
theorem scope_ok {r : FRow} (h : scopeB r = true) : FnScope r.N r.ps r.scope := by
  unfold scopeB at h
  simp only [Bool.and_eq_true, decide_eq_true_eq, List.all_eq_true, Bool.not_eq_true'] at h
  obtain ⟨⟨⟨⟨⟨⟨h1, h2⟩, h3⟩, h4⟩, h5⟩, h6⟩, h7⟩ := h
  refine ⟨?_, h2, h3, h4, h5, fun x hx => ?_, fun y hy e => ?_⟩
  · split at h1
    · assumption
    · cases h1
  · have := h6 x hx
    split at this
    · exact .inl (by assumption)
    · exact .inr (by assumption)
    · cases this
  · have := h7 y hy
    rw [e] at this
    cases this
section
variable {P : Program} {w : World} {K : Fg} {mg : Str → Option Value} {base : Heap} {T : Nm} {J : Prog}
theorem rws_env {H : Hp} {ι : List Addr} : ∀ {vs : List V} {ws : List W}, RWs K H ι vs ws → ∀ (n : Nat) (i : Nat) (w : W), (ws.map some ++ List.replicate n none)[i]? = some (some w) → ∃ v, (vs.map some ++ List.replicate n none)[i]? = some (some v) ∧ RW K H ι v w
  | _, _, .nil, n, i, w, e => by
    simp [List.getElem?_replicate] at e
  | _, _, .cons r t, n, 0, w, e => by
    simp at e; subst e
    exact ⟨_, rfl, r⟩
  | _, _, .cons _ t, n, i + 1, w, e => by
    obtain ⟨v, h1, h2⟩ := rws_env t n i w (by simpa using e)
    exact ⟨v, by simpa using h1, h2⟩
theorem fn_ok {r : FRow} {k : Nat} {f : Addr} {fd : FuncData} {d : Def} (F : FunD K r.name r.qual ⟨[], r.as, none, [], [], none, []⟩ r.body r.scope [] [] f fd) (S : scopeB r = true) {n : Nat} (ht : trSs (trS n (r.sx T)) r.body = some d.body) (hF : J.F r.i = some d) (np : d.np = r.as.length) (ns : d.ns = r.N.length)
    (fa : Facts P w K mg base T J k) : FnOk P w K mg base CX0 (k + 1) f fd r.ps (spJ K J (k + 1) r.i) := by
  have S' := scope_ok S
  have hlen : ∀ {ws : List W} {h : LH} {res : W × LH}, call J (k + 1) r.i ws h = some res → ws.length = r.ps.length ∧ ∃ fl ρ' h1, execs (cJ J k) d.body (ws.map some ++ List.replicate (d.ns - d.np) none) h = some (fl, ρ', h1) ∧ ((∃ w, fl = .ret w ∧ fin h.length w h1 = some res) ∨ (fl = .nxt ∧ fin h.length (.d .none) h1 = some res)) := by
    intro ws h res e
    unfold call at e
    rw [hF] at e
    dsimp only at e
    split at e
    · rename_i hl
      refine ⟨by rw [hl, np]; simp [FRow.ps], ?_⟩
      split at e
      · exact ⟨_, _, _, by assumption, .inl ⟨_, rfl, e⟩⟩
      · exact ⟨_, _, _, by assumption, .inr ⟨rfl, e⟩⟩
      · cases e
    · cases e
  refine F.ok S' (fun vs H Q E h => ?_) (fun cdv A outer s H vs Q E hr hsp => ?_)
  · obtain ⟨ι, h, ws, w, h', rh, q, e, p⟩ := h
    rw [q.length]
    exact (hlen e).1
  · obtain ⟨ι, h, ws, w', h', rh, q, e, p⟩ := hsp
    obtain ⟨hl, fl, ρ', h1, e1, e2⟩ := hlen e
    have g : Good (r.sx T) k (cxOf CX0 P w K mg base r.N r.qual r.scope f cdv A outer s H E).nox := ⟨rfl, S'.nd, rfl, hr, rfl, rfl, rfl⟩
    refine ⟨tSs (cJ J k) K d.body, (snd_ss (X := (cxOf CX0 P w K mg base r.N r.qual r.scope f cdv A outer s H E).nox) (snd_stmt g fa S'.kind n) ht).nox, ?_⟩
    have hst : L2.start r.N vs = vs.map some ++ List.replicate (d.ns - d.np) none := by
      unfold L2.start
      rw [ns, np, q.length, hl]
      simp [FRow.ps]
    refine ⟨_, h, ι, fl, ρ', h1, ⟨⟨rh, fun i w e => ?_⟩, ?_⟩, e1, ?_⟩
    · rw [hst]
      exact rws_env q _ i w e
    · rw [hst]; simp [q.length]
    · rw [← rh.len] at e2
      rcases e2 with ⟨w0, rfl, e2⟩ | ⟨rfl, e2⟩
      · exact fin_post e2 p
      · intro σ' H' ι' s' r'
        exact fin_post e2 p .non H' ι' s' r'.rh (.d .non)
theorem fn_none {k f : Nat} {fa : Addr} {fd : FuncData} {ps : List Str} : FnOk P w K mg base CX0 0 fa fd ps (spJ K J 0 f) := by
  have no : ∀ vs H Q E, ¬ spJ K J 0 f vs H Q E := fun vs H Q E h => by
    obtain ⟨ι, h, ws, w, h', rh, q, e, p⟩ := h
    cases e
  exact ⟨fun vs H Q E h => absurd h (no vs H Q E), fun A outer s H args us vs Q E _ _ _ _ h => absurd h (no vs H Q E)⟩
/-- all defs, to any depth -/
theorem facts_all {rows : List FRow} {n : Nat} (hT : T.f = rows.map fun r => (r.x, r.i)) (hS : ∀ r ∈ rows, scopeB r = true)
    (ht : ∀ r ∈ rows, ∀ d, J.F r.i = some d → trSs (trS n (r.sx T)) r.body = some d.body ∧ d.np = r.as.length ∧ d.ns = r.N.length)
    (hd : ∀ r ∈ rows, ∃ a fd, mg r.x = some (.ref a) ∧ FunD K r.name r.qual ⟨[], r.as, none, [], [], none, []⟩ r.body r.scope [] [] a fd)
    (gs : ∀ x g c, T.g.lookup x = some g → J.G g = some c → ∃ v u, mg x = some u ∧ RelV v u ∧ ∀ H, RD K H v c)
    (ts : ∀ x g s c, T.t.lookup x = some g → J.T g s = some c → ∃ a, mg x = some (.ref a) ∧ ∀ z, EncS s z → ∃ v, KDct K w a z v ∧ ∀ H, RD K H v c)
    (bs : ∀ x, T.b.contains x = true → mg x = none) : ∀ k, Facts P w K mg base T J k := by
  have look : ∀ {x : Str} {f : Nat}, T.f.lookup x = some f → ∃ r ∈ rows, r.x = x ∧ r.i = f := by
    intro x f h
    rw [hT] at h
    clear hT hS ht hd
    induction rows with
    | nil => cases h
    | cons r rs ih =>
      rw [List.map_cons, List.lookup_cons] at h
      by_cases q : x == r.x
      · rw [q] at h
        cases h
        exact ⟨r, List.mem_cons_self, (eq_of_beq q).symm, rfl⟩
      · have q' : (x == r.x) = false := by simpa using q
        rw [q'] at h
        obtain ⟨r', h1, h2⟩ := ih h
        exact ⟨r', List.mem_cons_of_mem _ h1, h2⟩
  intro k
  induction k with
  | zero =>
    refine ⟨fun x f d hx hf => ?_, gs, ts, bs⟩
    obtain ⟨r, hr, rfl, rfl⟩ := look hx
    obtain ⟨a, fd, hm, F⟩ := hd r hr
    refine ⟨a, fd, r.ps, hm, F.kp, F.bindsN fun kV doc pm an cdv ct us hl => bind_plain r.as us ?_ hl, fn_none (k := 0)⟩
    have S' := scope_ok (hS r hr)
    have := S'.nd.sublist (List.take_sublist r.ps.length r.N)
    rw [S'.pre] at this
    exact this
  | succ k ih =>
    refine ⟨fun x f d hx hf => ?_, gs, ts, bs⟩
    obtain ⟨r, hr, rfl, rfl⟩ := look hx
    obtain ⟨a, fd, hm, F⟩ := hd r hr
    obtain ⟨h1, h2, h3⟩ := ht r hr d hf
    refine ⟨a, fd, r.ps, hm, F.kp, F.bindsN fun kV doc pm an cdv ct us hl => bind_plain r.as us ?_ hl, fn_ok F (hS r hr) h1 hf h2 h3 ih⟩
    have S' := scope_ok (hS r hr)
    have := S'.nd.sublist (List.take_sublist r.ps.length r.N)
    rw [S'.pre] at this
    exact this
end
end J
set_option maxRecDepth 100000
/-! The head's facts for J, and a law's end. -/
namespace J
open PySem L2 PyProof.Rows
/-- what a law's text has: its defs, its constants, its tables, the built-ins it uses -/
structure Lay where
  rows : List FRow
  gs : List (Str × Nat × D)
  ts : List (Str × Nat × List (String × Int))
  bs : List Str
def Lay.T (l : Lay) : Nm := ⟨l.rows.map fun r => (r.x, r.i), l.gs.map fun g => (g.1, g.2.1), l.ts.map fun g => (g.1, g.2.1), l.bs⟩
def flatD : D → Bool
  | .i _ => true
  | .b _ => true
  | .s z => decide (z.length ≤ SZ)
  | _ => false
def dvD : D → He.Dv
  | .i k => .int k
  | .b b => .bl b
  | .s z => .str (cpS z)
  | _ => .non
def bareB (K : Fg) (x : Str) : Bool := match K.lookup (He.ga K x) with
  | some o => o.dict.isNone
  | none => false
theorem bareB_ok {K : Fg} {x : Str} {xs : List V} (h : bareB K x = true) (t : ∀ H, SqT K H (He.ga K x) xs) (H : Hp) : SqN K H (He.ga K x) xs := by
  rcases t (fun _ => none) with (z | ⟨o, z⟩) | ⟨o, its, n, h1, h2, h3⟩
  · cases z
  · cases z
  · unfold bareB at h
    rw [h1] at h
    exact .inr ⟨o, its, n, h1, h2, by simpa using h, h3⟩
def cstB (K : Fg) (g : Str × Nat × D) : Bool := match g.2.2 with
  | .t ds => ds.all flatD && (He.tupB K g.1 (ds.map dvD) && bareB K g.1)
  | .i k => (match PySem.W.nsIn K mainGlobals g.1 with
    | some (some u) => He.relB (.int k) u
    | _ => false)
  | .s z => decide (z.length ≤ SZ) && (match PySem.W.nsIn K mainGlobals g.1 with
    | some (some u) => He.relB (.str (cpS z)) u
    | _ => false)
  | _ => false
def tabB (K : Fg) (t : Str × Nat × List (String × Int)) : Bool := He.valsB K (He.ga K t.1) (t.2.2.map fun q => (cpS q.1, He.Dv.int q.2))
def Lay.fa (l : Lay) : List He.Fa := l.rows.map (fun r => .glo r.x) ++ ((l.gs.filter fun g => match g.2.2 with
    | .t _ => true
    | _ => false).map (fun g => .glo g.1) ++ (l.ts.map (fun t => .glo t.1) ++ l.bs.map fun b => .free b))
def Lay.fn (l : Lay) : List He.DefD := l.rows.map fun r => ⟨(r.x, none), r.name, r.qual, ⟨[], r.as, none, [], [], none, []⟩, r.body, r.scope, [], []⟩
def Lay.tabs (l : Lay) : List He.Tab := l.ts.map fun t => (fun K => He.ga K t.1, t.2.2.map fun q => cpS q.1)
abbrev AlJ : Type := He.AlT × Bool
def obsJ (l : Lay) (K : Fg) : AlJ := (He.obsT l.fa l.fn l.tabs K, l.gs.all (cstB K) && l.ts.all (tabB K))
def valJ (l : Lay) (w : World) : AlJ := (He.valT l.fn l.tabs w, true)
def SaysJ (l : Lay) (w : World) (K : Fg) : Prop := obsJ l K = valJ l w
def obsJG (n : Nat) (l : Lay) (g : Addr → Option Obj) : AlJ := obsJ l (He.frG g (He.asD g n))
def hookJ (n : Nat) (l : Lay) : PySem.W.Hook where
  α := AlJ
  obs := fun s => obsJG n l s.heap.get?
  val := fun w => valJ l w
  says := fun w h => ∃ K : Fg, K.In h ∧ SaysJ l w K
  of := fun _ _ e => ⟨_, He.frG_in, e⟩
  keeps := fun _ _ _ ⟨K, hK, c⟩ k => ⟨K, PySem.W.Frag.In.keeps hK k, c⟩
theorem obsJG_eq {n : Nat} {l : Lay} {g : Addr → Option Obj} {s : Shared} (h : ∀ a, g a = s.heap.get? a) : obsJG n l g = (hookJ n l).obs s := by
  have e : g = s.heap.get? := funext h
  rw [e] <;> rfl
theorem flat_rd {K : Fg} {H : Hp} : ∀ {ds : List D}, ds.all flatD = true → RDs K H ((ds.map dvD).map (He.Dv.v K)) ds
  | [], _ => .nil
  | d :: r, h => by
    rw [List.all_cons, Bool.and_eq_true] at h
    refine .cons ?_ (flat_rd h.2)
    have h1 := h.1
    cases d with
    | i k => exact .i k
    | b b => exact .b b
    | s z => exact .s (encS z) (of_decide_eq_true h1)
    | _ => cases h1
theorem look_map {α β : Type} {f : α → β} {n : α → Str} : ∀ {l : List α} {x : Str} {b : β}, (l.map fun a => (n a, f a)).lookup x = some b → ∃ a ∈ l, n a = x ∧ f a = b
  | [], _, _, h => by cases h
  | a :: r, x, b, h => by
    rw [List.map_cons, List.lookup_cons] at h
    by_cases q : x == n a
    · rw [q] at h
      cases h
      exact ⟨a, List.mem_cons_self, (eq_of_beq q).symm, rfl⟩
    · have q' : (x == n a) = false := by simpa using q
      rw [q'] at h
      obtain ⟨a', h1, h2⟩ := look_map h
      exact ⟨a', List.mem_cons_of_mem _ h1, h2⟩
/-- the program of a layout: its constants and tables off the lists -/
structure Fits (l : Lay) (J : Prog) (n : Nat) : Prop where
  sc : l.rows.all scopeB = true
  tr : l.rows.map (fun r => (trSs (trS n (r.sx l.T)) r.body, r.as.length, r.N.length)) = l.rows.map fun r => (match J.F r.i with
    | some d => (some d.body, d.np, d.ns)
    | none => (trSs (trS n (r.sx l.T)) r.body, r.as.length, r.N.length))
  g : ∀ g ∈ l.gs, ∀ c, J.G g.2.1 = some c → g.2.2 = c
  t : ∀ t ∈ l.ts, ∀ s c, J.T t.2.1 s = some c → ∃ k, (s, k) ∈ t.2.2 ∧ c = .i k
theorem facts_of {l : Lay} {J : Prog} {n : Nat} (ft : Fits l J n) {P : Program} {w : World} {K : Fg} {mg : Str → Option Value} {base h : Heap} (X : K.In h) (G : h.Ns mainGlobals mg) (c : SaysJ l w K) : ∀ k, Facts P w K mg base l.T J k := by
  have cT : He.SaysT l.fa l.fn l.tabs w K := congrArg (fun z : AlJ => z.1) c
  have cD := cT.d
  have cB : (l.gs.all (cstB K) && l.ts.all (tabB K)) = true := congrArg (fun z : AlJ => z.2) c
  obtain ⟨cg, ct⟩ := Bool.and_eq_true_iff.mp cB
  have fact : ∀ f ∈ l.fa, f.ok K = true := fun f hf => by
    obtain ⟨i, hi⟩ := List.mem_iff_getElem?.mp hf
    exact cD.fact i hi
  have trk := List.map_inj_left.mp ft.tr
  refine facts_all (n := n) rfl (List.all_eq_true.mp ft.sc) (fun r hr d hd => ?_) (fun r hr => ?_) (fun x g c hx hg => ?_) (fun x g s c hx hg => ?_) (fun x hx => ?_)
  · have := trk r hr
    rw [hd] at this
    simp only [Prod.mk.injEq] at this
    exact ⟨this.1, this.2.1.symm, this.2.2.symm⟩
  · have hg : He.Fa.glo r.x ∈ l.fa := List.mem_append_left _ (List.mem_map.mpr ⟨r, hr, rfl⟩)
    obtain ⟨i, hi⟩ := List.mem_iff_getElem?.mp hr
    obtain ⟨fd, F⟩ := cD.def_ i (d := ⟨(r.x, none), r.name, r.qual, ⟨[], r.as, none, [], [], none, []⟩, r.body, r.scope, [], []⟩) (by unfold Lay.fn; rw [List.getElem?_map, hi]; rfl)
    exact ⟨_, fd, He.glo_ok X G (fact _ hg), F⟩
  · obtain ⟨q, hq, rfl, rfl⟩ := look_map hx
    have hc := ft.g q hq c hg
    have ok := List.all_eq_true.mp cg q hq
    obtain ⟨x, g, cc⟩ := q
    simp only at hc
    subst hc
    cases cc with
    | t ds =>
      obtain ⟨h1, h2⟩ := Bool.and_eq_true_iff.mp (show (ds.all flatD && (He.tupB K x (ds.map dvD) && bareB K x)) = true from ok)
      obtain ⟨h2, h3⟩ := Bool.and_eq_true_iff.mp h2
      have hgl : He.Fa.glo x ∈ l.fa := List.mem_append_right _ (List.mem_append_left _ (List.mem_map.mpr ⟨_, List.mem_filter.mpr ⟨hq, rfl⟩, rfl⟩))
      exact ⟨.ref (He.ga K x), _, He.glo_ok X G (fact _ hgl), rfl, fun H => .t (bareB_ok h3 (He.tupB_ok h2) H) (flat_rd h1)⟩
    | i k =>
      have ok' : (match PySem.W.nsIn K mainGlobals x with
        | some (some u) => He.relB (.int k) u
        | _ => false) = true := ok
      split at ok'
      · rename_i u hu
        exact ⟨.int k, u, PySem.W.mg_of X G hu, He.relB_ok ok', fun H => .i k⟩
      · cases ok'
    | s z =>
      obtain ⟨h1, ok'⟩ := Bool.and_eq_true_iff.mp (show (decide (z.length ≤ SZ) && (match PySem.W.nsIn K mainGlobals x with
        | some (some u) => He.relB (.str (cpS z)) u
        | _ => false)) = true from ok)
      split at ok'
      · rename_i u hu
        exact ⟨.str (cpS z), u, PySem.W.mg_of X G hu, He.relB_ok ok', fun H => .s (encS z) (of_decide_eq_true h1)⟩
      · cases ok'
    | none => cases ok
    | b _ => cases ok
    | fl _ => cases ok
  · obtain ⟨q, hq, rfl, rfl⟩ := look_map hx
    obtain ⟨kk, hk, rfl⟩ := ft.t q hq s c hg
    have hgl : He.Fa.glo q.1 ∈ l.fa := List.mem_append_right _ (List.mem_append_right _ (List.mem_append_left _ (List.mem_map.mpr ⟨q, hq, rfl⟩)))
    refine ⟨_, He.glo_ok X G (fact _ hgl), fun z hz => ⟨.int kk, ?_, fun H => .i kk⟩⟩
    obtain ⟨i, hi⟩ := List.mem_iff_getElem?.mp hq
    obtain ⟨es, n, kd⟩ := cT.tab i (t := (fun K => He.ga K q.1, q.2.2.map fun q => cpS q.1)) (by unfold Lay.tabs; rw [List.getElem?_map, hi]; rfl)
    have ok := List.all_eq_true.mp ct q hq
    have ez : z = cpS s := hz.fn (encS s)
    subst ez
    obtain ⟨u, hu, ru⟩ := He.valsB_ok ok (q := (cpS s, He.Dv.int kk)) (List.mem_map.mpr ⟨(s, kk), hk, rfl⟩)
    exact ⟨es, n, u, kd.at_, kd.lit, hu, ru⟩
  · have hb : He.Fa.free x ∈ l.fa := List.mem_append_right _ (List.mem_append_right _ (List.mem_append_right _ (List.mem_map.mpr ⟨x, List.contains_iff_mem.mp hx, rfl⟩)))
    exact He.free_ok X G (fact _ hb)
/-- the law: its def is a row; called with the script it gives True -/
theorem law_end {lw : PySem.W.OpenLaw} {q : Program} {loose : List Str} {XP : (Str → Option Value) → Heap → Prop} {d : DefRec} {m : Nat} {l : Lay} {J : Prog} {n k i : Nat} {px : Arg} (ft : Fits l J n)
    (hn : lw.most = some 63) (hdf : d.params.defaults = []) (hr : Room (k + 1) callerA) (hd : d.name = "law") (r : FRow) (hrow : r ∈ l.rows) (hx : r.x = "law") (hi : r.i = i) (has : r.ps = [("script" : Str)]) (hF : ∃ dd, J.F i = some dd)
    (hlaw : ∀ ns : List Int, ns.length ≤ 63 → ∃ h', call J (k + 1) i [.d (.fl (ns.map .i))] [] = some (.d (.b true), h')) :
    PySem.W.WalkO q loose XP (hookJ m l).says lw.row.toRowW d [] (fun f vs => PySem.call f vs) := by
  refine L2.walk_ofE (l := lw) (n := 63) (k := k + 1) (x := "script") (CX := L2.CX0) hn (by decide) hdf hr (fun w mg fa h Y G hmg => ?_) (fun _ _ _ _ z => z)
  obtain ⟨K, KX, c⟩ := Y
  rw [hd] at hmg
  have cT : He.SaysT l.fa l.fn l.tabs w K := congrArg (fun z : AlJ => z.1) c
  obtain ⟨j, hj⟩ := List.mem_iff_getElem?.mp hrow
  obtain ⟨fd, F⟩ := cT.d.def_ j (d := ⟨(r.x, none), r.name, r.qual, ⟨[], r.as, none, [], [], none, []⟩, r.body, r.scope, [], []⟩) (by unfold Lay.fn; rw [List.getElem?_map, hj]; rfl)
  have hgl : He.Fa.glo r.x ∈ l.fa := List.mem_append_left _ (List.mem_map.mpr ⟨r, hrow, rfl⟩)
  have hm : mg r.x = some (.ref (He.ga K r.x)) := by
    obtain ⟨i, hi⟩ := List.mem_iff_getElem?.mp hgl
    exact He.glo_ok KX G (cT.d.fact i hi)
  have efa : fa = He.ga K r.x := by
    rw [hx] at hm ⊢
    rw [hmg] at hm
    cases hm; rfl
  subst hi
  refine ⟨K, fd, spJ K J (k + 1) r.i, KX, fun s u => ?_, fun H a ns hl hO hS => ?_, fun base hb hg => ?_⟩
  · have nd : r.ps.Nodup := by rw [has]; decide
    have := F.bindsA (ps := r.ps) (fun kV doc pm an cdv ct us hl => bind_plain r.as us nd hl) s [u] (by rw [has]; rfl)
    rw [has] at this
    exact this
  · obtain ⟨h', e⟩ := hlaw ns hl
    have hnl : H a ≠ some (.lst (ns.map V.int)) := fun z => by
      rcases hO a with y | ⟨o, xs, y⟩
      · rw [y] at z; cases z
      · rw [y] at z; cases z
    have rds : ∀ ns : List Int, RDs K H (ns.map V.int) (ns.map D.i) := fun ns => by
      induction ns with
      | nil => exact .nil
      | cons a r ih => exact .cons (.i a) ih
    refine ⟨[], [], _, _, h', ⟨rfl, .nil, fun a p z => by simp at z⟩, .cons (.d (.fl (Frz.of hS hnl) (rds ns))) .nil, e, fun v H' ι' _ _ q => ?_⟩
    cases q with | d q => cases q; rfl
  · obtain ⟨dd, hF⟩ := hF
    have := List.map_inj_left.mp ft.tr r hrow
    rw [hF] at this
    simp only [Prod.mk.injEq] at this
    have ok := fn_ok F (List.all_eq_true.mp ft.sc r hrow) this.1 hF this.2.1.symm this.2.2.symm (facts_of ft (P := lw.prog) (w := w) (base := base) hb hg c k)
    rw [has] at ok
    rw [efa]
    exact ok
end J
/-! The evaluator's equations, for simp. -/
namespace J
variable {α β : Type}
def bnd0 (r : Option (α × LH)) (f : α → LH → Option β) : Option β := match r with
  | some (a, h) => f a h
  | none => none
@[simp] theorem bnd0_some (a : α) (h : LH) (f : α → LH → Option β) : bnd0 (some (a, h)) f = f a h := (rfl)
@[simp] theorem bnd0_none (f : α → LH → Option β) : bnd0 none f = none := (rfl)
@[simp] theorem bnd0_ite (p : Prop) [Decidable p] (x y : Option (α × LH)) (f : α → LH → Option β) : bnd0 (if p then x else y) f = if p then bnd0 x f else bnd0 y f := by split <;> rfl
def cnd0 (r : Option (W × LH)) (A B : LH → Option α) : Option α := match r with
  | some (.d (.b true), h) => A h
  | some (.d (.b false), h) => B h
  | _ => none
@[simp] theorem cnd0_b (b : Bool) (h : LH) (A B : LH → Option α) : cnd0 (some (.d (.b b), h)) A B = if b = true then A h else B h := by cases b <;> rfl
@[simp] theorem cnd0_none (A B : LH → Option α) : cnd0 none A B = none := (rfl)
@[simp] theorem cnd0_ite (p : Prop) [Decidable p] (x y : Option (W × LH)) (A B : LH → Option α) : cnd0 (if p then x else y) A B = if p then cnd0 x A B else cnd0 y A B := by split <;> rfl
def asI0 (r : Option (W × LH)) (f : Int → LH → Option α) : Option α := match r with
  | some (.d (.i k), h) => f k h
  | _ => none
@[simp] theorem asI0_i (k : Int) (h : LH) (f : Int → LH → Option α) : asI0 (some (.d (.i k), h)) f = f k h := (rfl)
@[simp] theorem asI0_ite (p : Prop) [Decidable p] (x y : Option (W × LH)) (f : Int → LH → Option α) : asI0 (if p then x else y) f = if p then asI0 x f else asI0 y f := by split <;> rfl
def asBl0 (r : Option (W × LH)) (f : Bool → LH → Option α) : Option α := match r with
  | some (.d (.b k), h) => f k h
  | _ => none
@[simp] theorem asBl0_b (k : Bool) (h : LH) (f : Bool → LH → Option α) : asBl0 (some (.d (.b k), h)) f = f k h := (rfl)
@[simp] theorem asBl0_ite (p : Prop) [Decidable p] (x y : Option (W × LH)) (f : Bool → LH → Option α) : asBl0 (if p then x else y) f = if p then asBl0 x f else asBl0 y f := by split <;> rfl
def asS0 (r : Option (W × LH)) (f : String → LH → Option α) : Option α := match r with
  | some (.d (.s k), h) => f k h
  | _ => none
@[simp] theorem asS0_s (k : String) (h : LH) (f : String → LH → Option α) : asS0 (some (.d (.s k), h)) f = f k h := (rfl)
def seqF0 (r : Option (Fl × Env × LH)) (f : Env → LH → Option (Fl × Env × LH)) : Option (Fl × Env × LH) := match r with
  | some (.nxt, ρ, h) => f ρ h
  | r => r
@[simp] theorem seqF0_nxt (ρ : Env) (h : LH) (f) : seqF0 (some (.nxt, ρ, h)) f = f ρ h := (rfl)
@[simp] theorem seqF0_ret (w : W) (ρ : Env) (h : LH) (f) : seqF0 (some (.ret w, ρ, h)) f = some (.ret w, ρ, h) := (rfl)
@[simp] theorem seqF0_brk (ρ : Env) (h : LH) (f) : seqF0 (some (.brk, ρ, h)) f = some (.brk, ρ, h) := (rfl)
@[simp] theorem seqF0_cnt (ρ : Env) (h : LH) (f) : seqF0 (some (.cnt, ρ, h)) f = some (.cnt, ρ, h) := (rfl)
@[simp] theorem seqF0_none (f) : seqF0 none f = none := (rfl)
@[simp] theorem seqF0_ite (p : Prop) [Decidable p] (x y : Option (Fl × Env × LH)) (f) : seqF0 (if p then x else y) f = if p then seqF0 x f else seqF0 y f := by split <;> rfl
def ret (n : Nat) : Option (Fl × Env × LH) → Option (W × LH)
  | some (.ret w, _, h') => fin n w h'
  | some (.nxt, _, h') => fin n (.d .none) h'
  | _ => none
@[simp] theorem fin_d (n : Nat) (x : D) (h : LH) : fin n (.d x) h = some (.d x, h.take n) := (rfl)
@[simp] theorem ret_ret (n : Nat) (w : W) (ρ : Env) (h : LH) : ret n (some (.ret w, ρ, h)) = fin n w h := (rfl)
@[simp] theorem ret_nxt (n : Nat) (ρ : Env) (h : LH) : ret n (some (.nxt, ρ, h)) = fin n (.d .none) h := (rfl)
@[simp] theorem ret_none (n : Nat) : ret n none = none := (rfl)
@[simp] theorem ret_ite (n : Nat) (p : Prop) [Decidable p] (x y : Option (Fl × Env × LH)) : ret n (if p then x else y) = if p then ret n x else ret n y := by split <;> rfl
theorem call_def {P : Prog} {k f : Nat} {d : Def} {ws : List W} {h : LH} (hF : P.F f = some d) (hl : ws.length = d.np) :
    call P (k + 1) f ws h = ret h.length (execs ⟨P.G, P.T, call P k, P.wf⟩ d.body (ws.map some ++ List.replicate (d.ns - d.np) none) h) := by
  unfold call
  rw [hF]
  dsimp only
  rw [if_pos hl]
  unfold ret
  rfl
variable (C : Ctx) (ρ : Env) (h : LH)
@[simp] theorem ev_var (i : Nat) : ev C (.var i) ρ h = (match ρ[i]? with
    | some (some w) => some (w, h)
    | _ => none) := by rw [ev]; try ((repeat' split) <;> simp_all)
@[simp] theorem ev_c (x : D) : ev C (.c x) ρ h = some (.d x, h) := by rw [ev]
@[simp] theorem ev_glob (g : Nat) : ev C (.glob g) ρ h = (match C.G g with
    | some x => some (.d x, h)
    | none => none) := by rw [ev]; try ((repeat' split) <;> simp_all)
theorem z_ev_tup (es : List E) : ev C (.tup es) ρ h = bnd0 (evs C es ρ h) fun ws h1 => mkT h1 ws := by rw [ev]; unfold bnd0; (repeat' split) <;> simp_all
theorem z_ev_lst (es : List E) : ev C (.lst es) ρ h = bnd0 (evs C es ρ h) fun ws h1 => new h1 ws := by rw [ev]; unfold bnd0; (repeat' split) <;> simp_all
theorem z_ev_bin (op : BOp) (x y : E) : ev C (.bin op x y) ρ h = bnd0 (ev C x ρ h) fun u h1 => bnd0 (ev C y ρ h1) fun w h2 => binop h2 op u w := by rw [ev]; unfold bnd0; (repeat' split) <;> simp_all
theorem z_ev_neg (x : E) : ev C (.neg x) ρ h = asI0 (ev C x ρ h) fun k h1 => some (.d (.i (-k)), h1) := by rw [ev]; unfold asI0; (repeat' split) <;> simp_all
theorem z_ev_not (x : E) : ev C (.not x) ρ h = asBl0 (ev C x ρ h) fun k h1 => some (.d (.b (!k)), h1) := by rw [ev]; unfold asBl0; (repeat' split) <;> simp_all
theorem z_ev_cmp (op : COp) (x y : E) : ev C (.cmp op x y) ρ h = bnd0 (ev C x ρ h) fun u h1 => bnd0 (ev C y ρ h1) fun w h2 => (cmpop h2 op u w).map fun k => (.d (.b k), h2) := by
  rw [ev]; rcases ev C x ρ h with _ | ⟨u, h1⟩
  · rfl
  · dsimp only [bnd0]; rcases ev C y ρ h1 with _ | ⟨w, h2⟩
    · rfl
    · dsimp only; cases cmpop h2 op u w <;> rfl
theorem z_ev_chain (o1 o2 : COp) (x y z : E) : ev C (.chain o1 o2 x y z) ρ h = bnd0 (ev C x ρ h) fun u h1 => bnd0 (ev C y ρ h1) fun w h2 => cnd0 ((cmpop h2 o1 u w).map fun k => (.d (.b k), h2)) (fun h2 => bnd0 (ev C z ρ h2) fun v h3 => (cmpop h3 o2 w v).map fun k => (.d (.b k), h3)) (fun h2 => some (.d (.b false), h2)) := by
  rw [ev]; rcases ev C x ρ h with _ | ⟨u, h1⟩
  · rfl
  · dsimp only [bnd0]; rcases ev C y ρ h1 with _ | ⟨w, h2⟩
    · rfl
    · dsimp only; rcases cmpop h2 o1 u w with _ | b
      · rfl
      · cases b
        · rfl
        · dsimp only [cnd0, Option.map_some]; rcases ev C z ρ h2 with _ | ⟨v, h3⟩
          · rfl
          · dsimp only; cases cmpop h3 o2 w v <;> rfl
def isNW : W → Bool
  | .d .none => true
  | _ => false
@[simp] theorem isNW_none : isNW (.d .none) = true := (rfl)
@[simp] theorem isNW_b (x : Bool) : isNW (.d (.b x)) = false := (rfl)
@[simp] theorem isNW_i (x : Int) : isNW (.d (.i x)) = false := (rfl)
@[simp] theorem isNW_s (x : String) : isNW (.d (.s x)) = false := (rfl)
@[simp] theorem isNW_t (x : List D) : isNW (.d (.t x)) = false := (rfl)
@[simp] theorem isNW_l (x : Nat) : isNW (.l x) = false := (rfl)
theorem z_ev_isN (x : E) : ev C (.isN x) ρ h = bnd0 (ev C x ρ h) fun u h1 => some (.d (.b (isNW u)), h1) := by
  rw [ev]; rcases ev C x ρ h with _ | ⟨u, h1⟩
  · rfl
  · dsimp only [bnd0]; rcases u with d | a
    · cases d <;> rfl
    · rfl
theorem z_ev_isNN (x : E) : ev C (.isNN x) ρ h = bnd0 (ev C x ρ h) fun u h1 => some (.d (.b (!isNW u)), h1) := by
  rw [ev]; rcases ev C x ρ h with _ | ⟨u, h1⟩
  · rfl
  · dsimp only [bnd0]; rcases u with d | a
    · cases d <;> rfl
    · rfl
theorem z_ev_and (x y : E) : ev C (.and x y) ρ h = cnd0 (ev C x ρ h) (fun h1 => ev C y ρ h1) (fun h1 => some (.d (.b false), h1)) := by rw [ev]; unfold cnd0; (repeat' split) <;> simp_all
theorem z_ev_or (x y : E) : ev C (.or x y) ρ h = cnd0 (ev C x ρ h) (fun h1 => some (.d (.b true), h1)) (fun h1 => ev C y ρ h1) := by rw [ev]; unfold cnd0; (repeat' split) <;> simp_all
theorem z_ev_ite (c x y : E) : ev C (.ite c x y) ρ h = cnd0 (ev C c ρ h) (fun h1 => ev C x ρ h1) (fun h1 => ev C y ρ h1) := by rw [ev]; unfold cnd0; (repeat' split) <;> simp_all
theorem z_ev_ix (x i : E) : ev C (.ix x i) ρ h = bnd0 (ev C x ρ h) fun u h1 => bnd0 (ev C i ρ h1) fun k h2 => index h2 u k := by rw [ev]; unfold bnd0; (repeat' split) <;> simp_all
theorem z_ev_dix (g : Nat) (i : E) : ev C (.dix g i) ρ h = asS0 (ev C i ρ h) fun k h1 => (C.T g k).map fun x => (.d x, h1) := by
  rw [ev]; rcases ev C i ρ h with _ | ⟨u, h1⟩
  · rfl
  · rcases u with d | a
    · cases d <;> first | rfl | (dsimp only [asS0]; rename_i k; cases C.T g k <;> rfl)
    · rfl
theorem z_ev_sl (x : E) (lo hi : Option E) : ev C (.sl x lo hi) ρ h = bnd0 (ev C x ρ h) fun u h1 => bnd0 (evo C lo ρ h1) fun a h2 => bnd0 (evo C hi ρ h2) fun z h3 => slice h3 u a z := by rw [ev]; unfold bnd0; (repeat' split) <;> simp_all
theorem z_ev_rev (x : E) : ev C (.rev x) ρ h = bnd0 (ev C x ρ h) fun u h1 => revW h1 u := by rw [ev]; unfold bnd0; (repeat' split) <;> simp_all
theorem z_ev_call (f : Nat) (es : List E) : ev C (.call f es) ρ h = bnd0 (evs C es ρ h) fun ws h1 => C.cl f ws h1 := by rw [ev]; unfold bnd0; (repeat' split) <;> simp_all
theorem z_ev_bi (f : Bi) (es : List E) : ev C (.bi f es) ρ h = bnd0 (evs C es ρ h) fun ws h1 => builtin h1 f ws := by rw [ev]; unfold bnd0; (repeat' split) <;> simp_all
theorem z_ev_meth (m : Me) (x : E) (es : List E) : ev C (.meth m x es) ρ h = bnd0 (ev C x ρ h) fun u h1 => bnd0 (evs C es ρ h1) fun ws h2 => method h2 m u ws := by rw [ev]; unfold bnd0; (repeat' split) <;> simp_all
theorem z_ev_comp (elt : E) (tg : Tg) (it : It) (c : Option E) : ev C (.comp elt tg it c) ρ h = bnd0 (evi C it ρ h) fun src h1 => bnd0 (compSrc (turn tg ρ (evc C c) (ev C elt)) src [] h1) fun acc h2 => some (.l h2.length, h2 ++ [acc]) := by rw [ev]; unfold bnd0; (repeat' split) <;> simp_all
theorem z_ev_ofIt (t : Bool) (it : It) : ev C (.ofIt t it) ρ h = bnd0 (evi C it ρ h) fun src h1 => ofSrc h1 t src := by rw [ev]; unfold bnd0; (repeat' split) <;> simp_all
@[simp] theorem ofSrc_l (ws : List W) : ofSrc h false (.its ws) = if ws.length ≤ SZ then new h ws else none := (rfl)
@[simp] theorem ofSrc_t (ws : List W) : ofSrc h true (.its ws) = if ws.length ≤ SZ then mkT h ws else none := (rfl)
@[simp] theorem evs_nil : evs C [] ρ h = some ([], h) := by rw [evs]
theorem z_evs_cons' (e : E) (es : List E) : evs C (e :: es) ρ h = bnd0 (ev C e ρ h) fun w h1 => bnd0 (evs C es ρ h1) fun ws h2 => some (w :: ws, h2) := by rw [evs]; unfold bnd0; (repeat' split) <;> simp_all
@[simp] theorem evo_none : evo C none ρ h = some (none, h) := by rw [evo]
theorem z_evo_some (e : E) : evo C (some e) ρ h = asI0 (ev C e ρ h) fun k h1 => some (some k, h1) := by rw [evo]; unfold asI0; (repeat' split) <;> simp_all
@[simp] theorem evc_none : evc C none ρ h = some (true, h) := by rw [evc]
theorem z_evc_some (e : E) : evc C (some e) ρ h = asBl0 (ev C e ρ h) fun k h1 => some (k, h1) := by
  rw [evc]; rcases ev C e ρ h with _ | ⟨u, h1⟩
  · rfl
  · rcases u with d | a
    · cases d <;> rfl
    · rfl
/-- a range's end, as a thing that the kernel does not look into -/
def inR (n : Int) : Prop := -(2 ^ 62) ≤ n ∧ n < 2 ^ 62
noncomputable instance (n : Int) : Decidable (inR n) := Classical.propDecidable _
theorem inR_of {n : Int} (h1 : -1000000000 ≤ n) (h2 : n ≤ 1000000000) : inR n := by
  have e : (2 : Int) ^ 62 = 4611686018427387904 := by decide
  unfold inR
  rw [e]
  omega
@[simp] theorem inR_0 : inR 0 := inR_of (by decide) (by decide)
@[simp] theorem inR_1 : inR 1 := inR_of (by decide) (by decide)
@[simp] theorem inR_2 : inR 2 := inR_of (by decide) (by decide)
@[simp] theorem inR_3 : inR 3 := inR_of (by decide) (by decide)
@[simp] theorem inR_4 : inR 4 := inR_of (by decide) (by decide)
@[simp] theorem inR_320 : inR 320 := inR_of (by decide) (by decide)
theorem z_evi_r1' (x : E) : evi C (.r1 x) ρ h = asI0 (ev C x ρ h) fun n h1 => if inR n then some (.its (range 0 n), h1) else none := by
  rw [evi]
  rcases ev C x ρ h with _ | ⟨u, h1⟩
  · rfl
  · rcases u with d | a
    · cases d <;> first | rfl | skip
      rename_i n
      rw [asI0_i]
      by_cases hn : inR n
      · rw [if_pos hn]; exact if_pos hn
      · rw [if_neg hn]; exact if_neg hn
    · rfl
theorem z_evi_r2' (x y : E) : evi C (.r2 x y) ρ h = asI0 (ev C x ρ h) fun a h1 => asI0 (ev C y ρ h1) fun n h2 => if inR a then (if inR n then some (.its (range a n), h2) else none) else none := by
  rw [evi]
  rcases ev C x ρ h with _ | ⟨u, h1⟩
  · rfl
  · rcases u with d | a
    · cases d <;> first | rfl | skip
      rename_i m
      rw [asI0_i]
      dsimp only
      rcases ev C y ρ h1 with _ | ⟨u, h2⟩
      · rfl
      · rcases u with d | a
        · cases d <;> first | rfl | skip
          rename_i n
          rw [asI0_i]
          by_cases hm : inR m
          · rw [if_pos hm]
            by_cases hn : inR n
            · rw [if_pos hn]; exact if_pos ⟨hm.1, hm.2, hn.1, hn.2⟩
            · rw [if_neg hn]; exact if_neg (fun h => hn ⟨h.2.2.1, h.2.2.2⟩)
          · rw [if_neg hm]; exact if_neg (fun h => hm ⟨h.1, h.2.1⟩)
        · rfl
    · rfl
theorem z_evi_sq' (x : E) : evi C (.sq x) ρ h = bnd0 (ev C x ρ h) fun u h1 => (srcOf h1 u).map fun s => (s, h1) := by
  rw [evi]; rcases ev C x ρ h with _ | ⟨u, h1⟩
  · rfl
  · dsimp only [bnd0]; cases srcOf h1 u <;> rfl
theorem z_ex_asg (tg : Tg) (e : E) : exec C (.asg tg e) ρ h = bnd0 (ev C e ρ h) fun w h1 => (setT tg w ρ).map fun ρ' => (.nxt, ρ', h1) := by
  rw [exec]; rcases ev C e ρ h with _ | ⟨u, h1⟩
  · rfl
  · dsimp only [bnd0]; cases setT tg u ρ <;> rfl
theorem z_ex_par (i j : Nat) (x y : E) : exec C (.par i j x y) ρ h = bnd0 (ev C x ρ h) fun u h1 => bnd0 (ev C y ρ h1) fun w h2 => some (.nxt, (ρ.set i (some u)).set j (some w), h2) := by rw [exec]; unfold bnd0; (repeat' split) <;> simp_all
theorem z_ex_par3 (i j l : Nat) (x y z : E) : exec C (.par3 i j l x y z) ρ h = bnd0 (ev C x ρ h) fun u h1 => bnd0 (ev C y ρ h1) fun w h2 => bnd0 (ev C z ρ h2) fun v h3 => some (.nxt, ((ρ.set i (some u)).set j (some w)).set l (some v), h3) := by rw [exec]; unfold bnd0; (repeat' split) <;> simp_all
theorem z_ex_setix (o i e : E) : exec C (.setix o i e) ρ h = bnd0 (ev C e ρ h) fun w h1 => bnd0 (ev C o ρ h1) fun u h2 => bnd0 (ev C i ρ h2) fun k h3 => (setAt h3 u k w).map fun h4 => (.nxt, ρ, h4) := by
  rw [exec]; rcases ev C e ρ h with _ | ⟨w, h1⟩
  · rfl
  · dsimp only [bnd0]; rcases ev C o ρ h1 with _ | ⟨u, h2⟩
    · rfl
    · dsimp only; rcases ev C i ρ h2 with _ | ⟨k, h3⟩
      · rfl
      · dsimp only; cases setAt h3 u k w <;> rfl
theorem z_ex_aug (op : BOp) (i : Nat) (e : E) : exec C (.aug op i e) ρ h = (match ρ[i]? with
    | some (some u) => bnd0 (ev C e ρ h) fun w h1 => bnd0 (augop h1 op u w) fun v h2 => some (.nxt, ρ.set i (some v), h2)
    | _ => none) := by rw [exec]; (repeat' split) <;> simp_all
theorem z_ex_ife (c : E) (x y : List S) : exec C (.ife c x y) ρ h = cnd0 (ev C c ρ h) (fun h1 => execs C x ρ h1) (fun h1 => execs C y ρ h1) := by rw [exec]; unfold cnd0; (repeat' split) <;> simp_all
def fb (C : Ctx) (tg : Tg) (body : List S) : W → Env → LH → Option (Fl × Env × LH) := fun x ρ h => match setT tg x ρ with
  | some ρ' => execs C body ρ' h
  | none => none
theorem z_ex_for (tg : Tg) (it : It) (body : List S) : exec C (.for tg it body) ρ h = bnd0 (evi C it ρ h) fun src h1 => forSrc (fb C tg body) src ρ h1 := by rw [exec]; rcases evi C it ρ h with _ | ⟨u, h1⟩ <;> rfl
def wc (C : Ctx) (c : E) : Env → LH → Option (Bool × LH) := fun ρ h => asB (ev C c ρ h)
@[simp] theorem ex_whl (c : E) (body : List S) : exec C (.whl c body) ρ h = whileF (wc C c) (execs C body) C.wf ρ h := by rw [exec]; rfl
theorem z_ex_ret (e : E) : exec C (.ret e) ρ h = bnd0 (ev C e ρ h) fun w h1 => some (.ret w, ρ, h1) := by rw [exec]; unfold bnd0; (repeat' split) <;> simp_all
@[simp] theorem ex_retN : exec C .retN ρ h = some (.ret (.d .none), ρ, h) := by rw [exec]
theorem z_ex_ex (e : E) : exec C (.ex e) ρ h = bnd0 (ev C e ρ h) fun _ h1 => some (.nxt, ρ, h1) := by rw [exec]; unfold bnd0; (repeat' split) <;> simp_all
@[simp] theorem ex_brk : exec C .brk ρ h = some (.brk, ρ, h) := by rw [exec]
@[simp] theorem ex_cnt : exec C .cnt ρ h = some (.cnt, ρ, h) := by rw [exec]
@[simp] theorem ex_pass : exec C .pass ρ h = some (.nxt, ρ, h) := by rw [exec]
@[simp] theorem exs_nil : execs C [] ρ h = some (.nxt, ρ, h) := by rw [execs]
theorem z_exs_cons (s : S) (r : List S) : execs C (s :: r) ρ h = seqF0 (exec C s ρ h) fun ρ' h' => execs C r ρ' h' := by
  rw [execs]; unfold seqF0; split <;> simp_all
@[simp] theorem asB_b (b : Bool) : asB (some (.d (.b b), h)) = some (b, h) := (rfl)
@[simp] theorem setT_n (i : Nat) (w : W) : setT (.n i) w ρ = some (ρ.set i (some w)) := (rfl)
@[simp] theorem setT_t (is : List Nat) (xs : List D) : setT (.t is) (.d (.t xs)) ρ = if xs.length = is.length then some (setMany is xs ρ) else none := (rfl)
@[simp] theorem setMany_nil (xs : List D) : setMany [] xs ρ = ρ := by cases xs <;> rfl
@[simp] theorem setMany_cons (i : Nat) (is : List Nat) (x : D) (xs : List D) : setMany (i :: is) (x :: xs) ρ = setMany is xs (ρ.set i (some (.d x))) := (rfl)
@[simp] theorem wipe_nil : wipe ρ [] = ρ := (rfl)
@[simp] theorem wipe_cons (i : Nat) (r : List Nat) : wipe ρ (i :: r) = (wipe ρ r).set i none := (rfl)
@[simp] theorem slots_n (i : Nat) : (Tg.n i).slots = [i] := (rfl)
@[simp] theorem slots_t (is : List Nat) : (Tg.t is).slots = is := (rfl)
/-! ### values -/
@[simp] theorem items_t (xs : List D) : items h (.d (.t xs)) = some (xs.map .d) := (rfl)
@[simp] theorem items_fl (xs : List D) : items h (.d (.fl xs)) = some (xs.map .d) := (rfl)
@[simp] theorem items_l (a : Nat) : items h (.l a) = h[a]? := (rfl)
@[simp] theorem srcOf_t (xs : List D) : srcOf h (.d (.t xs)) = some (.its (xs.map .d)) := (rfl)
@[simp] theorem srcOf_fl (xs : List D) : srcOf h (.d (.fl xs)) = some (.its (xs.map .d)) := (rfl)
@[simp] theorem srcOf_l (a : Nat) : srcOf h (.l a) = (h[a]?).map fun ws => .live a ws.length := by
  show (match h[a]? with | some ws => some (Src.live a ws.length) | none => none) = _
  cases h[a]? <;> rfl
@[simp] theorem allD_map' (xs : List D) : allD (xs.map .d) = some xs := by
  induction xs with
  | nil => rfl
  | cons x r ih => rw [List.map_cons, allD, ih]
@[simp] theorem allD_nil : allD [] = some [] := (rfl)
@[simp] theorem allD_cons (x : D) (r : List W) : allD (.d x :: r) = (allD r).map (x :: ·) := by
  rw [allD]; cases allD r <;> rfl
@[simp] theorem mkT_eq (ws : List W) : mkT h ws = (allD ws).bind fun xs => if xs.length ≤ SZ then some (.d (.t xs), h) else none := by
  unfold mkT; cases allD ws <;> rfl
@[simp] theorem new_eq (ws : List W) : new h ws = if ws.length ≤ SZ then some (.l h.length, h ++ [ws]) else none := (rfl)
@[simp] theorem index_eq (x : W) (i : Int) : index h x (.d (.i i)) = (items h x).bind fun ws => (ixN ws.length i).bind fun k => (ws[k]?).map fun w => (w, h) := by
  unfold index
  cases items h x with
  | none => rfl
  | some ws =>
    dsimp only [Option.bind_some]
    cases ixN ws.length i with
    | none => rfl
    | some k => dsimp only [Option.bind_some]; cases ws[k]? <;> rfl
@[simp] theorem len_t (xs : List D) : builtin h .len [.d (.t xs)] = some (.d (.i xs.length), h) := by
  unfold builtin; simp
@[simp] theorem len_fl (xs : List D) : builtin h .len [.d (.fl xs)] = some (.d (.i xs.length), h) := by
  unfold builtin; simp
@[simp] theorem len_l (a : Nat) : builtin h .len [.l a] = (h[a]?).map fun ws => (.d (.i ws.length), h) := by
  unfold builtin; simp; cases h[a]? <;> rfl
@[simp] theorem tuple_eq (x : W) : builtin h .tuple [x] = (items h x).bind fun ws => mkT h ws := by
  rcases x with d | a
  · cases d <;> (unfold builtin; dsimp only; rcases items h _ with _ | ws <;> rfl)
  · unfold builtin; dsimp only; rcases items h _ with _ | ws <;> rfl
@[simp] theorem list_eq (x : W) : builtin h .list [x] = (items h x).bind fun ws => new h ws := by
  rcases x with d | a
  · cases d <;> (unfold builtin; dsimp only; rcases items h _ with _ | ws <;> rfl)
  · unfold builtin; dsimp only; rcases items h _ with _ | ws <;> rfl
@[simp] theorem isInt_eq (x : W) : builtin h .isInt [x] = some (.d (.b (isIntW x)), h) := (rfl)
@[simp] theorem isBool_eq (x : W) : builtin h .isBool [x] = some (.d (.b (isBoolW x)), h) := (rfl)
@[simp] theorem isStr_eq (x : W) : builtin h .isStr [x] = some (.d (.b (isStrW x)), h) := (rfl)
@[simp] theorem isTuple_eq (x : W) : builtin h .isTuple [x] = some (.d (.b (isTupleW x)), h) := (rfl)
@[simp] theorem int_i (x : Int) : builtin h .int [.d (.i x)] = some (.d (.i x), h) := (rfl)
@[simp] theorem int_b (x : Bool) : builtin h .int [.d (.b x)] = some (.d (.i (if x then 1 else 0)), h) := (rfl)
theorem bools_bs (bs : List Bool) : bools (bs.map fun b => .d (.b b)) = some bs := by
  induction bs with
  | nil => rfl
  | cons x r ih => rw [List.map_cons, bools, ih]
@[simp] theorem all_l (a : Nat) : builtin h .all [.l a] = (h[a]?).bind fun ws => (bools ws).map fun bs => (.d (.b (bs.all id)), h) := by
  unfold builtin bl; dsimp only; cases h[a]? with
  | none => rfl
  | some ws => dsimp only [Option.bind_some]; cases bools ws <;> rfl
@[simp] theorem any_l (a : Nat) : builtin h .any [.l a] = (h[a]?).bind fun ws => (bools ws).map fun bs => (.d (.b (bs.any id)), h) := by
  unfold builtin bl; dsimp only; cases h[a]? with
  | none => rfl
  | some ws => dsimp only [Option.bind_some]; cases bools ws <;> rfl
@[simp] theorem isIntW_i (x : Int) : isIntW (.d (.i x)) = true := (rfl)
@[simp] theorem isIntW_b (x : Bool) : isIntW (.d (.b x)) = true := (rfl)
@[simp] theorem isIntW_s (x : String) : isIntW (.d (.s x)) = false := (rfl)
@[simp] theorem isIntW_t (x : List D) : isIntW (.d (.t x)) = false := (rfl)
@[simp] theorem isIntW_n : isIntW (.d .none) = false := (rfl)
@[simp] theorem isBoolW_i (x : Int) : isBoolW (.d (.i x)) = false := (rfl)
@[simp] theorem isBoolW_b (x : Bool) : isBoolW (.d (.b x)) = true := (rfl)
@[simp] theorem isBoolW_s (x : String) : isBoolW (.d (.s x)) = false := (rfl)
@[simp] theorem isBoolW_t (x : List D) : isBoolW (.d (.t x)) = false := (rfl)
@[simp] theorem isBoolW_n : isBoolW (.d .none) = false := (rfl)
@[simp] theorem isStrW_i (x : Int) : isStrW (.d (.i x)) = false := (rfl)
@[simp] theorem isStrW_b (x : Bool) : isStrW (.d (.b x)) = false := (rfl)
@[simp] theorem isStrW_s (x : String) : isStrW (.d (.s x)) = true := (rfl)
@[simp] theorem isStrW_t (x : List D) : isStrW (.d (.t x)) = false := (rfl)
@[simp] theorem isStrW_n : isStrW (.d .none) = false := (rfl)
@[simp] theorem isTupleW_i (x : Int) : isTupleW (.d (.i x)) = false := (rfl)
@[simp] theorem isTupleW_b (x : Bool) : isTupleW (.d (.b x)) = false := (rfl)
@[simp] theorem isTupleW_s (x : String) : isTupleW (.d (.s x)) = false := (rfl)
@[simp] theorem isTupleW_t (x : List D) : isTupleW (.d (.t x)) = true := (rfl)
@[simp] theorem isTupleW_n : isTupleW (.d .none) = false := (rfl)
@[simp] theorem lt_i (x y : Int) : cmpop h .lt (.d (.i x)) (.d (.i y)) = some (decide (x < y)) := (rfl)
@[simp] theorem le_i (x y : Int) : cmpop h .le (.d (.i x)) (.d (.i y)) = some (decide (x ≤ y)) := (rfl)
@[simp] theorem gt_i (x y : Int) : cmpop h .gt (.d (.i x)) (.d (.i y)) = some (decide (y < x)) := (rfl)
@[simp] theorem ge_i (x y : Int) : cmpop h .ge (.d (.i x)) (.d (.i y)) = some (decide (y ≤ x)) := (rfl)
@[simp] theorem isb_b (x y : Bool) : cmpop h .isb (.d (.b x)) (.d (.b y)) = some (decide (x = y)) := (rfl)
@[simp] theorem nisb_b (x y : Bool) : cmpop h .nisb (.d (.b x)) (.d (.b y)) = some (!decide (x = y)) := (rfl)
theorem eq_d (x y : D) (hd : min (depth x) (depth y) ≤ 64) : cmpop h .eq (.d x) (.d y) = some (eqv x y) := by
  show eqW h (.d x) (.d y) = _
  unfold eqW; exact if_pos hd
theorem ne_d (x y : D) (hd : min (depth x) (depth y) ≤ 64) : cmpop h .ne (.d x) (.d y) = some (!eqv x y) := by
  show (eqW h (.d x) (.d y)).map (!·) = _
  unfold eqW; dsimp only; rw [if_pos hd]; rfl
@[simp] theorem depth_i (x : Int) : depth (.i x) = 0 := by simp [depth]
@[simp] theorem depth_b (x : Bool) : depth (.b x) = 0 := by simp [depth]
@[simp] theorem depth_none : depth .none = 0 := by simp [depth]
@[simp] theorem depth_s (x : String) : depth (.s x) = 0 := by simp [depth]
@[simp] theorem depth_t (x : List D) : depth (.t x) = depthL x + 1 := by simp [depth]
@[simp] theorem depthL_nil : depthL [] = 0 := by simp [depthL]
@[simp] theorem depthL_cons (x : D) (r : List D) : depthL (x :: r) = max (depth x) (depthL r) := by simp [depthL]
@[simp] theorem eq_dr (x y : D) (hd : depth y ≤ 64) : cmpop h .eq (.d x) (.d y) = some (eqv x y) := eq_d h x y (by omega)
theorem eq_dl (x y : D) (hd : depth x ≤ 64) : cmpop h .eq (.d x) (.d y) = some (eqv x y) := eq_d h x y (by omega)
@[simp] theorem ne_dr (x y : D) (hd : depth y ≤ 64) : cmpop h .ne (.d x) (.d y) = some (!eqv x y) := ne_d h x y (by omega)
theorem ne_dl (x y : D) (hd : depth x ≤ 64) : cmpop h .ne (.d x) (.d y) = some (!eqv x y) := ne_d h x y (by omega)
@[simp] theorem eq_rs (x : D) (s : String) : cmpop h .eq (.d x) (.d (.s s)) = some (eqv x (.s s)) := eq_d h x _ (by simp [depth])
@[simp] theorem ne_rs (x : D) (s : String) : cmpop h .ne (.d x) (.d (.s s)) = some (!eqv x (.s s)) := ne_d h x _ (by simp [depth])
@[simp] theorem eq_ri (x : D) (s : Int) : cmpop h .eq (.d x) (.d (.i s)) = some (eqv x (.i s)) := eq_d h x _ (by simp [depth])
@[simp] theorem ne_ri (x : D) (s : Int) : cmpop h .ne (.d x) (.d (.i s)) = some (!eqv x (.i s)) := ne_d h x _ (by simp [depth])
@[simp] theorem eqv_ss (x y : String) : eqv (.s x) (.s y) = (x == y) := by simp [eqv]
@[simp] theorem eqv_ii (x y : Int) : eqv (.i x) (.i y) = (x == y) := by simp [eqv]
@[simp] theorem eqv_bb (x y : Bool) : eqv (.b x) (.b y) = (x == y) := by simp [eqv]
@[simp] theorem eqv_si (x : String) (y : Int) : eqv (.s x) (.i y) = false := by simp [eqv]
@[simp] theorem eqv_is (x : Int) (y : String) : eqv (.i x) (.s y) = false := by simp [eqv]
@[simp] theorem eqv_ti (x : List D) (y : Int) : eqv (.t x) (.i y) = false := by simp [eqv]
@[simp] theorem eqv_it (x : Int) (y : List D) : eqv (.i x) (.t y) = false := by simp [eqv]
@[simp] theorem eqv_ts (x : List D) (y : String) : eqv (.t x) (.s y) = false := by simp [eqv]
@[simp] theorem eqv_st (x : String) (y : List D) : eqv (.s x) (.t y) = false := by simp [eqv]
@[simp] theorem eqv_tt (x y : List D) : eqv (.t x) (.t y) = eqvL x y := by simp [eqv]
@[simp] theorem eqv_nt (y : List D) : eqv .none (.t y) = false := by simp [eqv]
@[simp] theorem eqv_ni (y : Int) : eqv .none (.i y) = false := by simp [eqv]
@[simp] theorem eqv_ns (y : String) : eqv .none (.s y) = false := by simp [eqv]
@[simp] theorem eqv_nn : eqv .none .none = true := by simp [eqv]
@[simp] theorem eqvL_nil : eqvL [] [] = true := by simp [eqvL]
@[simp] theorem eqvL_cons (x y : D) (xs ys : List D) : eqvL (x :: xs) (y :: ys) = (eqv x y && eqvL xs ys) := by simp [eqvL]
@[simp] theorem eqvL_nc (y : D) (ys : List D) : eqvL [] (y :: ys) = false := by simp [eqvL]
@[simp] theorem eqvL_cn (y : D) (ys : List D) : eqvL (y :: ys) [] = false := by simp [eqvL]
@[simp] theorem add_ii (x y : Int) : binop h .add (.d (.i x)) (.d (.i y)) = some (.d (.i (x + y)), h) := (rfl)
@[simp] theorem sub_ii (x y : Int) : binop h .sub (.d (.i x)) (.d (.i y)) = some (.d (.i (x - y)), h) := (rfl)
@[simp] theorem add_tt (x y : List D) : binop h .add (.d (.t x)) (.d (.t y)) = if x.length + y.length ≤ SZ then some (.d (.t (x ++ y)), h) else none := (rfl)
@[simp] theorem add_ll (a c : Nat) : binop h .add (.l a) (.l c) = (h[a]?).bind fun xs => (h[c]?).bind fun ys => if xs.length + ys.length ≤ SZ then some (.l h.length, h ++ [xs ++ ys]) else none := by
  unfold binop; dsimp only; cases h[a]? <;> cases h[c]? <;> rfl
@[simp] theorem mod_ii (x y : Int) : binop h .mod (.d (.i x)) (.d (.i y)) = if 0 < y then some (.d (.i (x % y)), h) else none := (rfl)
@[simp] theorem slice_t (xs : List D) (lo hi : Option Int) : slice h (.d (.t xs)) lo hi = some (.d (.t (cutL xs lo hi)), h) := (rfl)
@[simp] theorem cutL_1 (x : D) (xs : List D) : cutL (x :: xs) (some 1) none = xs := by
  unfold cutL cutAt
  simp only [List.length_cons]
  have : min (Int.toNat 1) (xs.length + 1) = 1 := by simp
  simp
@[simp] theorem cutL_2 {α : Type} (x y : α) (xs : List α) : cutL (x :: y :: xs) (some 2) none = xs := by
  unfold cutL cutAt
  simp only [List.length_cons]
  have : min (Int.toNat 2) (xs.length + 1 + 1) = 2 := by simp
  simp
theorem ixN_nat (n k : Nat) (hk : k < n) : ixN n (k : Int) = some k := by
  unfold ixN; rw [if_pos (by omega), if_pos (by omega)]; simp
@[simp] theorem ixN_0 (n : Nat) : ixN (n + 1) 0 = some 0 := by unfold ixN; rw [if_pos (by omega), if_pos (by omega)]; rfl
@[simp] theorem ixN_1 (n : Nat) : ixN (n + 2) 1 = some 1 := by unfold ixN; rw [if_pos (by omega), if_pos (by omega)]; rfl
@[simp] theorem ixN_2 (n : Nat) : ixN (n + 3) 2 = some 2 := by unfold ixN; rw [if_pos (by omega), if_pos (by omega)]; rfl
@[simp] theorem ixN_3 (n : Nat) : ixN (n + 4) 3 = some 3 := by unfold ixN; rw [if_pos (by omega), if_pos (by omega)]; rfl
/-! ### loops over items that change nothing -/
theorem compItems_map {f : W → List W → LH → Option (List W × LH)} {g : W → W} {h : LH} : ∀ {xs acc : List W}, (∀ x ∈ xs, ∀ acc, acc.length < SZ → f x acc h = some (acc ++ [g x], h)) → acc.length + xs.length ≤ SZ → compItems f xs acc h = some (acc ++ xs.map g, h)
  | [], acc, _, _ => by simp [compItems]
  | x :: xs, acc, hf, hl => by
    unfold compItems
    simp only [List.length_cons] at hl
    rw [hf x List.mem_cons_self acc (by omega)]
    dsimp only
    rw [compItems_map (fun y hy => hf y (List.mem_cons_of_mem _ hy)) (by simp; omega)]
    simp
theorem forLive_items {f : W → Env → LH → Option (Fl × Env × LH)} {a : Nat} {ws : List W} (I : Env → LH → Prop) (hI : ∀ ρ h, I ρ h → h[a]? = some ws) (hf : ∀ x ∈ ws, ∀ ρ h, I ρ h → ∀ F ρ' h', f x ρ h = some (F, ρ', h') → I ρ' h') : ∀ (n i : Nat) (ρ : Env) (h : LH), ws.length - i < n → I ρ h → forLive f a n i ρ h = forItems f (ws.drop i) ρ h
  | 0, i, ρ, h, hn, _ => by omega
  | n + 1, i, ρ, h, hn, hi => by
    unfold forLive
    rw [hI ρ h hi]
    dsimp only
    cases hw : ws[i]? with
    | none =>
      rw [List.getElem?_eq_none_iff] at hw
      rw [List.drop_of_length_le hw]; rfl
    | some x =>
      obtain ⟨hlt, hx⟩ := List.getElem?_eq_some_iff.1 hw
      rw [List.drop_eq_getElem_cons hlt, hx]
      unfold forItems
      dsimp only
      cases hfx : f x ρ h with
      | none => rfl
      | some z =>
        obtain ⟨F, ρ', h'⟩ := z
        have hm : x ∈ ws := by rw [← hx]; exact List.getElem_mem hlt
        have h2 := forLive_items I hI hf n (i + 1) ρ' h' (by omega) (hf x hm ρ h hi F ρ' h' hfx)
        cases F <;> simp only [h2]
@[simp] theorem compSrc_live (f) (a n : Nat) : compSrc f (.live a n) = fun acc h => compLive f a (n + 1) 0 acc h := by rfl
@[simp] theorem get_app (h x : LH) : (h ++ x)[h.length]? = x[0]? := by rw [List.getElem?_append_right (Nat.le_refl _)]; simp
@[simp] theorem get_appk (h x : LH) (k : Nat) : (h ++ x)[h.length + k]? = x[k]? := by rw [List.getElem?_append_right (by omega)]; simp
@[simp] theorem set_app (h x : LH) (y : List W) : (h ++ x).set h.length y = h ++ x.set 0 y := by rw [List.set_append_right _ _ (Nat.le_refl _)]; simp
@[simp] theorem set_appk (h x : LH) (k : Nat) (y : List W) : (h ++ x).set (h.length + k) y = h ++ x.set k y := by rw [List.set_append_right _ _ (by omega)]; simp
theorem get_appl {h x : LH} {a : Nat} {ws : List W} (e : h[a]? = some ws) : (h ++ x)[a]? = some ws := by
  obtain ⟨h1, h2⟩ := List.getElem?_eq_some_iff.1 e
  rw [List.getElem?_append_left h1, e]
theorem set_appl {h x : LH} {a : Nat} (y : List W) (e : a < h.length) : (h ++ x).set a y = h.set a y ++ x := List.set_append_left _ _ e
@[simp] theorem okIn_d (a : Nat) (x : D) : okIn a (.d x) = true := (rfl)
theorem okAll_d (a : Nat) (xs : List D) : okAll a (xs.map .d) = true := by
  induction xs with
  | nil => rfl
  | cons x r ih => rw [List.map_cons, okAll, ih]; rfl
@[simp] theorem app_l (a : Nat) (w : W) : method h .append (.l a) [w] = (h[a]?).bind fun ws => if okIn a w = true ∧ ws.length < SZ then some (.d .none, h.set a (ws ++ [w])) else none := by
  unfold method; dsimp only; cases h[a]? <;> rfl
@[simp] theorem ext_l (a c : Nat) : method h .extend (.l a) [.l c] = (h[a]?).bind fun ws => (h[c]?).bind fun us => if okAll a us = true ∧ ws.length + us.length ≤ SZ then some (.d .none, h.set a (ws ++ us)) else none := by
  unfold method; dsimp only; cases h[a]? <;> cases h[c]? <;> rfl
@[simp] theorem popAt_l (a : Nat) (i : Int) : method h .popAt (.l a) [.d (.i i)] = (h[a]?).bind fun ws => if 0 ≤ i ∧ i ≤ SZ then (ws[i.toNat]?).map fun w => (w, h.set a (ws.eraseIdx i.toNat)) else none := by
  unfold method; dsimp only; cases h[a]? with
  | none => rfl
  | some ws => dsimp only [Option.bind_some]; split <;> first | rfl | (cases ws[i.toNat]? <;> rfl)
@[simp] theorem pop_l (a : Nat) : method h .pop (.l a) [] = (h[a]?).bind fun ws => (ws.getLast?).map fun w => (w, h.set a ws.dropLast) := by
  unfold method; dsimp only; cases h[a]? with
  | none => rfl
  | some ws => dsimp only [Option.bind_some]; cases ws.getLast? <;> rfl
@[simp] theorem idx_d (u : W) (x : D) : method h .index u [.d x] = (items h u).bind fun ws => (allD ws).bind fun xs => if depth x ≤ 64 then (xs.findIdx? (fun z => eqv z x)).map fun (k : Nat) => (.d (.i (k : Int)), h) else none := by
  unfold method
  dsimp only
  cases items h u with
  | none => rfl
  | some ws =>
    dsimp only [Option.bind_some]
    cases allD ws with
    | none => rfl
    | some xs =>
      dsimp only [Option.bind_some]
      by_cases q : depth x ≤ 64
      · rw [if_pos q, if_pos q]; cases xs.findIdx? _ <;> rfl
      · rw [if_neg q, if_neg q]
theorem z_turn_n (C : Ctx) (i : Nat) (ρ : Env) (e : E) (x : W) (acc : List W) (h : LH) : turn (.n i) ρ (evc C none) (ev C e) x acc h = bnd0 (ev C e (ρ.set i (some x)) h) fun w h2 => if acc.length < SZ then some (acc ++ [w], h2) else none := by
  unfold turn
  simp only [setT_n, slots_n, wipe_cons, wipe_nil, evc_none, List.set_set]
  rcases ev C e (ρ.set i (some x)) h with _ | ⟨w, h2⟩ <;> rfl
theorem comp_n {C : Ctx} {e : E} {i : Nat} {ρ : Env} {xs : List D} {h : LH} (g : D → W) (hx : ∀ x ∈ xs, ev C e (ρ.set i (some (.d x))) h = some (g x, h)) (hl : xs.length ≤ SZ) : compItems (turn (.n i) ρ (evc C none) (ev C e)) (xs.map .d) [] h = some (xs.map g, h) := by
  have := compItems_map (f := turn (.n i) ρ (evc C none) (ev C e)) (g := fun w => match w with | .d x => g x | w => w) (h := h) (xs := xs.map .d) (acc := []) (by
    intro x hx' acc hacc
    obtain ⟨y, hy, rfl⟩ := List.mem_map.1 hx'
    rw [z_turn_n, hx y hy, bnd0_some, if_pos hacc]) (by simpa using hl)
  rw [this]; simp
@[simp] theorem bools_g {γ : Type} (b : γ → Bool) (xs : List γ) : bools (xs.map fun x => .d (.b (b x))) = some (xs.map b) := by
  induction xs with
  | nil => rfl
  | cons x r ih => rw [List.map_cons, bools, ih]; rfl
@[simp] theorem allD_g {γ : Type} (b : γ → D) (xs : List γ) : allD (xs.map fun x => .d (b x)) = some (xs.map b) := by
  induction xs with
  | nil => rfl
  | cons x r ih => rw [List.map_cons, allD, ih]; rfl
theorem sk {α β : Type} [Inhabited β] {as : List α} {P : α → β → Prop} (h : ∀ a ∈ as, ∃ b, P a b) : ∃ f : α → β, ∀ a ∈ as, P a (f a) := by
  classical
  refine ⟨fun a => if ha : a ∈ as then Classical.choose (h a ha) else default, fun a ha => ?_⟩
  simp only [ha, dif_pos]
  exact Classical.choose_spec (h a ha)
theorem forItems_all {f : W → Env → LH → Option (Fl × Env × LH)} {w : W} {h : LH} (I : Env → Prop) (b : D → Bool) : ∀ {xs : List D}, (∀ x ∈ xs, ∀ ρ, I ρ → ∃ ρ', I ρ' ∧ f (.d x) ρ h = if b x then some (.nxt, ρ', h) else some (.ret w, ρ', h)) → ∀ ρ, I ρ → ∃ ρ', I ρ' ∧ forItems f (xs.map .d) ρ h = if xs.all b then some (.nxt, ρ', h) else some (.ret w, ρ', h)
  | [], _, ρ, hi => ⟨ρ, hi, rfl⟩
  | x :: xs, hf, ρ, hi => by
    obtain ⟨ρ1, h1, e1⟩ := hf x List.mem_cons_self ρ hi
    simp only [List.map_cons, forItems, e1]
    cases hb : b x with
    | false => exact ⟨ρ1, h1, by simp [hb]⟩
    | true =>
      obtain ⟨ρ2, h2, e2⟩ := forItems_all I b (fun y hy => hf y (List.mem_cons_of_mem _ hy)) ρ1 h1
      exact ⟨ρ2, h2, by simp [hb, e2]⟩
@[simp] theorem forSrc_live (f) (a n : Nat) : forSrc f (.live a n) = forLive f a (n + 1) 0 := (rfl)
@[simp] theorem forSrc_its (f) (ws : List W) : forSrc f (.its ws) = forItems f ws := (rfl)
@[simp] theorem compSrc_its (f) (ws : List W) : compSrc f (.its ws) = compItems f ws := (rfl)
@[simp] theorem setAt_l (h : LH) (a : Nat) (i : Int) (w : W) : setAt h (.l a) (.d (.i i)) w = (h[a]?).bind fun ws => (ixN ws.length i).bind fun k => if okIn a w = true then some (h.set a (ws.set k w)) else none := by
  unfold setAt; dsimp only; cases h[a]? with
  | none => rfl
  | some ws => dsimp only [Option.bind_some]; cases ixN ws.length i <;> rfl
@[simp] theorem rev_l (h : LH) (a : Nat) : method h .reverse (.l a) [] = (h[a]?).map fun ws => (.d .none, h.set a ws.reverse) := by
  unfold method; dsimp only; cases h[a]? <;> rfl
@[simp] theorem isin_d (h : LH) (x : D) (ys : List D) : cmpop h .isin (.d x) (.d (.t ys)) = if depth x ≤ 64 then some (ys.any fun z => eqv z x) else none := by
  show inW h (.d x) (.d (.t ys)) = _
  unfold inW
  rw [items_t]
  dsimp only
  rw [allD_map']
@[simp] theorem nin_d (h : LH) (x : D) (ys : List D) : cmpop h .nin (.d x) (.d (.t ys)) = if depth x ≤ 64 then some (!(ys.any fun z => eqv z x)) else none := by
  show (inW h (.d x) (.d (.t ys))).map (!·) = _
  unfold inW
  rw [items_t]
  dsimp only
  rw [allD_map']
  dsimp only
  split <;> rfl
@[simp] theorem revW_l (h : LH) (a : Nat) : revW h (.l a) = (h[a]?).map fun ws => (.l h.length, h ++ [ws.reverse]) := by
  unfold revW; dsimp only; cases h[a]? <;> rfl
@[simp] theorem get_sapp (h K : LH) (a : Nat) (x : List W) : (h.set a x ++ K)[h.length]? = K[0]? := by
  rw [List.getElem?_append_right (by simp)]; simp
@[simp] theorem get_sappk (h K : LH) (a k : Nat) (x : List W) : (h.set a x ++ K)[h.length + k]? = K[k]? := by
  rw [List.getElem?_append_right (by simp)]; simp
@[simp] theorem set_sapp (h K : LH) (a : Nat) (x y : List W) : (h.set a x ++ K).set h.length y = h.set a x ++ K.set 0 y := by
  rw [List.set_append_right _ _ (by simp)]; simp
@[simp] theorem set_sappk (h K : LH) (a k : Nat) (x y : List W) : (h.set a x ++ K).set (h.length + k) y = h.set a x ++ K.set k y := by
  rw [List.set_append_right _ _ (by simp)]; simp
@[simp] theorem mul_l (h : LH) (a : Nat) (n : Int) : binop h .mul (.l a) (.d (.i n)) = (h[a]?).bind fun xs => if xs.length * n.toNat ≤ SZ ∧ -SZ ≤ n ∧ n ≤ SZ then some (.l h.length, h ++ [rep xs n.toNat]) else none := by
  unfold binop; dsimp only; cases h[a]? <;> rfl
@[simp] theorem mul_t (h : LH) (xs : List D) (n : Int) : binop h .mul (.d (.t xs)) (.d (.i n)) = if xs.length ≤ 1000 ∧ 1 ≤ n ∧ n ≤ 1000 then some (.d (.t (rep xs n.toNat)), h) else none := (rfl)
theorem mul_ii (h : LH) (x y : Int) (hb : (-18446744073709551616 < x ∧ x < 18446744073709551616) ∨ (-18446744073709551616 < y ∧ y < 18446744073709551616)) : binop h .mul (.d (.i x)) (.d (.i y)) = some (.d (.i (x * y)), h) := by
  have e : (2 : Int) ^ 64 = 18446744073709551616 := by decide
  unfold binop
  dsimp only
  rw [e, if_pos hb]
theorem fdiv_ii (h : LH) (x y : Int) (h1 : 0 < y) (h2 : y < 1073741824) : binop h .fdiv (.d (.i x)) (.d (.i y)) = some (.d (.i (x / y)), h) := by
  unfold binop
  dsimp only
  rw [if_pos ⟨h1, h2⟩]
theorem pow_18 (h : LH) : binop h .pow (.d (.i 10)) (.d (.i 18)) = some (.d (.i 1000000000000000000), h) := by
  unfold binop
  dsimp only
  rw [if_pos (by decide)]
  rfl
theorem pow_60 (h : LH) : binop h .pow (.d (.i 10)) (.d (.i 60)) = some (.d (.i (10 ^ 60)), h) := by
  unfold binop
  dsimp only
  rw [if_pos (by decide)]
  rfl
theorem ixN_mod (n k : Nat) (h : 1 ≤ n) : ixN n ((k : Int) % (n : Int)) = some (k % n) := by
  have : (k : Int) % (n : Int) = ((k % n : Nat) : Int) := by omega
  rw [this, ixN_nat _ _ (Nat.mod_lt _ h)]
@[simp] theorem take_set_len (h : LH) (a : Nat) (x : List W) : (h.set a x).take h.length = h.set a x := List.take_of_length_le (by simp)
@[simp] theorem take_set_app (h K : LH) (a : Nat) (x : List W) : (h.set a x ++ K).take h.length = h.set a x := by
  rw [List.take_append_of_le_length (by simp)]; simp
theorem set_self {h : LH} {a : Nat} {x : List W} (e : h[a]? = some x) : h.set a x = h := by
  obtain ⟨h1, h2⟩ := List.getElem?_eq_some_iff.1 e
  rw [← h2]; exact List.set_getElem_self h1
@[simp] theorem SZ_eq : SZ = 16777216 := (rfl)
end J
/-! The evaluator's equations, for simp: what goes on behind is an instance, so that simp leaves it alone. -/
namespace J
variable {α β γ : Type}
class Kn (α β : Type) where
  run : α → β
@[simp] theorem run_mk (f : α → β) (a : α) : @Kn.run α β ⟨f⟩ a = f a := (rfl)
def bnd (r : Option (α × LH)) [f : Kn α (LH → Option β)] : Option β := match r with
  | some (a, h) => f.run a h
  | none => none
def cnd (r : Option (W × LH)) [A : Kn LH (Option α)] [B : Kn LH (Option α)] : Option α := match r with
  | some (.d (.b true), h) => A.run h
  | some (.d (.b false), h) => B.run h
  | _ => none
def asI (r : Option (W × LH)) [f : Kn Int (LH → Option α)] : Option α := match r with
  | some (.d (.i k), h) => f.run k h
  | _ => none
def asBl (r : Option (W × LH)) [f : Kn Bool (LH → Option α)] : Option α := match r with
  | some (.d (.b k), h) => f.run k h
  | _ => none
def asS (r : Option (W × LH)) [f : Kn String (LH → Option α)] : Option α := match r with
  | some (.d (.s k), h) => f.run k h
  | _ => none
def seqF (r : Option (Fl × Env × LH)) [f : Kn Env (LH → Option (Fl × Env × LH))] : Option (Fl × Env × LH) := match r with
  | some (.nxt, ρ, h) => f.run ρ h
  | r => r
theorem bnd_eq (r : Option (α × LH)) (f) : @bnd α β r f = bnd0 r f.run := by rcases r with _ | ⟨a, h⟩ <;> rfl
theorem cnd_eq (r : Option (W × LH)) (A B) : @cnd α r A B = cnd0 r A.run B.run := by
  rcases r with _ | ⟨w, h⟩
  · rfl
  · rcases w with d | a
    · cases d with
      | b k => cases k <;> rfl
      | _ => rfl
    · rfl
theorem asI_eq (r : Option (W × LH)) (f) : @asI α r f = asI0 r f.run := by
  rcases r with _ | ⟨w, h⟩
  · rfl
  · rcases w with d | a
    · cases d <;> rfl
    · rfl
theorem asBl_eq (r : Option (W × LH)) (f) : @asBl α r f = asBl0 r f.run := by
  rcases r with _ | ⟨w, h⟩
  · rfl
  · rcases w with d | a
    · cases d <;> rfl
    · rfl
theorem asS_eq (r : Option (W × LH)) (f) : @asS α r f = asS0 r f.run := by
  rcases r with _ | ⟨w, h⟩
  · rfl
  · rcases w with d | a
    · cases d <;> rfl
    · rfl
theorem seqF_eq (r : Option (Fl × Env × LH)) (f) : @seqF r f = seqF0 r f.run := by
  rcases r with _ | ⟨a, ρ, h⟩
  · rfl
  · cases a <;> rfl
@[simp] theorem bnd_some (a : α) (h : LH) (f) : @bnd α β (some (a, h)) f = f.run a h := (rfl)
@[simp] theorem bnd_none (f) : @bnd α β none f = none := (rfl)
@[simp] theorem bnd_ite (p : Prop) [Decidable p] (x y : Option (α × LH)) (f) : @bnd α β (if p then x else y) f = if p then @bnd α β x f else @bnd α β y f := by split <;> rfl
@[simp] theorem cnd_b (b : Bool) (h : LH) (A B) : @cnd α (some (.d (.b b), h)) A B = if b = true then A.run h else B.run h := by cases b <;> rfl
@[simp] theorem cnd_none (A B) : @cnd α none A B = none := (rfl)
@[simp] theorem cnd_ite (p : Prop) [Decidable p] (x y : Option (W × LH)) (A B) : @cnd α (if p then x else y) A B = if p then @cnd α x A B else @cnd α y A B := by split <;> rfl
@[simp] theorem asI_i (k : Int) (h : LH) (f) : @asI α (some (.d (.i k), h)) f = f.run k h := (rfl)
@[simp] theorem asI_ite (p : Prop) [Decidable p] (x y : Option (W × LH)) (f) : @asI α (if p then x else y) f = if p then @asI α x f else @asI α y f := by split <;> rfl
@[simp] theorem asBl_b (k : Bool) (h : LH) (f) : @asBl α (some (.d (.b k), h)) f = f.run k h := (rfl)
@[simp] theorem asBl_ite (p : Prop) [Decidable p] (x y : Option (W × LH)) (f) : @asBl α (if p then x else y) f = if p then @asBl α x f else @asBl α y f := by split <;> rfl
@[simp] theorem asS_s (k : String) (h : LH) (f) : @asS α (some (.d (.s k), h)) f = f.run k h := (rfl)
@[simp] theorem seqF_nxt (ρ : Env) (h : LH) (f) : @seqF (some (.nxt, ρ, h)) f = f.run ρ h := (rfl)
@[simp] theorem seqF_ret (w : W) (ρ : Env) (h : LH) (f) : @seqF (some (.ret w, ρ, h)) f = some (.ret w, ρ, h) := (rfl)
@[simp] theorem seqF_brk (ρ : Env) (h : LH) (f) : @seqF (some (.brk, ρ, h)) f = some (.brk, ρ, h) := (rfl)
@[simp] theorem seqF_cnt (ρ : Env) (h : LH) (f) : @seqF (some (.cnt, ρ, h)) f = some (.cnt, ρ, h) := (rfl)
@[simp] theorem seqF_none (f) : @seqF none f = none := (rfl)
@[simp] theorem seqF_ite (p : Prop) [Decidable p] (x y : Option (Fl × Env × LH)) (f) : @seqF (if p then x else y) f = if p then @seqF x f else @seqF y f := by split <;> rfl
variable (C : Ctx) (ρ : Env) (h : LH)
@[simp] theorem ev_tup (es : List E) : ev C (.tup es) ρ h = @bnd _ _ (evs C es ρ h) ⟨fun ws h1 => mkT h1 ws⟩ := by
  simp only [bnd_eq, cnd_eq, asI_eq, asBl_eq, asS_eq, seqF_eq]
  first | exact z_ev_tup _ _ _ | exact z_ev_tup _ _ _ _ | exact z_ev_tup _ _ _ _ _ | exact z_ev_tup _ _ _ _ _ _ | exact z_ev_tup _ _ _ _ _ _ _ | exact z_ev_tup _ _ _ _ _ _ _ _ | exact z_ev_tup _ _ _ _ _ _ _ _ _
@[simp] theorem ev_lst (es : List E) : ev C (.lst es) ρ h = @bnd _ _ (evs C es ρ h) ⟨fun ws h1 => new h1 ws⟩ := by
  simp only [bnd_eq, cnd_eq, asI_eq, asBl_eq, asS_eq, seqF_eq]
  first | exact z_ev_lst _ _ _ | exact z_ev_lst _ _ _ _ | exact z_ev_lst _ _ _ _ _ | exact z_ev_lst _ _ _ _ _ _ | exact z_ev_lst _ _ _ _ _ _ _ | exact z_ev_lst _ _ _ _ _ _ _ _ | exact z_ev_lst _ _ _ _ _ _ _ _ _
@[simp] theorem ev_bin (op : BOp) (x y : E) : ev C (.bin op x y) ρ h = @bnd _ _ (ev C x ρ h) ⟨fun u h1 => @bnd _ _ (ev C y ρ h1) ⟨fun w h2 => binop h2 op u w⟩⟩ := by
  simp only [bnd_eq, cnd_eq, asI_eq, asBl_eq, asS_eq, seqF_eq]
  first | exact z_ev_bin _ _ _ | exact z_ev_bin _ _ _ _ | exact z_ev_bin _ _ _ _ _ | exact z_ev_bin _ _ _ _ _ _ | exact z_ev_bin _ _ _ _ _ _ _ | exact z_ev_bin _ _ _ _ _ _ _ _ | exact z_ev_bin _ _ _ _ _ _ _ _ _
@[simp] theorem ev_neg (x : E) : ev C (.neg x) ρ h = @asI _ (ev C x ρ h) ⟨fun k h1 => some (.d (.i (-k)), h1)⟩ := by
  simp only [bnd_eq, cnd_eq, asI_eq, asBl_eq, asS_eq, seqF_eq]
  first | exact z_ev_neg _ _ _ | exact z_ev_neg _ _ _ _ | exact z_ev_neg _ _ _ _ _ | exact z_ev_neg _ _ _ _ _ _ | exact z_ev_neg _ _ _ _ _ _ _ | exact z_ev_neg _ _ _ _ _ _ _ _ | exact z_ev_neg _ _ _ _ _ _ _ _ _
@[simp] theorem ev_not (x : E) : ev C (.not x) ρ h = @asBl _ (ev C x ρ h) ⟨fun k h1 => some (.d (.b (!k)), h1)⟩ := by
  simp only [bnd_eq, cnd_eq, asI_eq, asBl_eq, asS_eq, seqF_eq]
  first | exact z_ev_not _ _ _ | exact z_ev_not _ _ _ _ | exact z_ev_not _ _ _ _ _ | exact z_ev_not _ _ _ _ _ _ | exact z_ev_not _ _ _ _ _ _ _ | exact z_ev_not _ _ _ _ _ _ _ _ | exact z_ev_not _ _ _ _ _ _ _ _ _
@[simp] theorem ev_cmp (op : COp) (x y : E) : ev C (.cmp op x y) ρ h = @bnd _ _ (ev C x ρ h) ⟨fun u h1 => @bnd _ _ (ev C y ρ h1) ⟨fun w h2 => (cmpop h2 op u w).map fun k => (.d (.b k), h2)⟩⟩ := by
  simp only [bnd_eq, cnd_eq, asI_eq, asBl_eq, asS_eq, seqF_eq]
  first | exact z_ev_cmp _ _ _ | exact z_ev_cmp _ _ _ _ | exact z_ev_cmp _ _ _ _ _ | exact z_ev_cmp _ _ _ _ _ _ | exact z_ev_cmp _ _ _ _ _ _ _ | exact z_ev_cmp _ _ _ _ _ _ _ _ | exact z_ev_cmp _ _ _ _ _ _ _ _ _
@[simp] theorem ev_chain (o1 o2 : COp) (x y z : E) : ev C (.chain o1 o2 x y z) ρ h = @bnd _ _ (ev C x ρ h) ⟨fun u h1 => @bnd _ _ (ev C y ρ h1) ⟨fun w h2 => @cnd _ ((cmpop h2 o1 u w).map fun k => (.d (.b k), h2)) ⟨fun h2 => @bnd _ _ (ev C z ρ h2) ⟨fun v h3 => (cmpop h3 o2 w v).map fun k => (.d (.b k), h3)⟩⟩ ⟨fun h2 => some (.d (.b false), h2)⟩⟩⟩ := by
  simp only [bnd_eq, cnd_eq, asI_eq, asBl_eq, asS_eq, seqF_eq]
  first | exact z_ev_chain _ _ _ | exact z_ev_chain _ _ _ _ | exact z_ev_chain _ _ _ _ _ | exact z_ev_chain _ _ _ _ _ _ | exact z_ev_chain _ _ _ _ _ _ _ | exact z_ev_chain _ _ _ _ _ _ _ _ | exact z_ev_chain _ _ _ _ _ _ _ _ _
@[simp] theorem ev_isN (x : E) : ev C (.isN x) ρ h = @bnd _ _ (ev C x ρ h) ⟨fun u h1 => some (.d (.b (isNW u)), h1)⟩ := by
  simp only [bnd_eq, cnd_eq, asI_eq, asBl_eq, asS_eq, seqF_eq]
  first | exact z_ev_isN _ _ _ | exact z_ev_isN _ _ _ _ | exact z_ev_isN _ _ _ _ _ | exact z_ev_isN _ _ _ _ _ _ | exact z_ev_isN _ _ _ _ _ _ _ | exact z_ev_isN _ _ _ _ _ _ _ _ | exact z_ev_isN _ _ _ _ _ _ _ _ _
@[simp] theorem ev_isNN (x : E) : ev C (.isNN x) ρ h = @bnd _ _ (ev C x ρ h) ⟨fun u h1 => some (.d (.b (!isNW u)), h1)⟩ := by
  simp only [bnd_eq, cnd_eq, asI_eq, asBl_eq, asS_eq, seqF_eq]
  first | exact z_ev_isNN _ _ _ | exact z_ev_isNN _ _ _ _ | exact z_ev_isNN _ _ _ _ _ | exact z_ev_isNN _ _ _ _ _ _ | exact z_ev_isNN _ _ _ _ _ _ _ | exact z_ev_isNN _ _ _ _ _ _ _ _ | exact z_ev_isNN _ _ _ _ _ _ _ _ _
@[simp] theorem ev_and (x y : E) : ev C (.and x y) ρ h = @cnd _ (ev C x ρ h) ⟨fun h1 => ev C y ρ h1⟩ ⟨fun h1 => some (.d (.b false), h1)⟩ := by
  simp only [bnd_eq, cnd_eq, asI_eq, asBl_eq, asS_eq, seqF_eq]
  first | exact z_ev_and _ _ _ | exact z_ev_and _ _ _ _ | exact z_ev_and _ _ _ _ _ | exact z_ev_and _ _ _ _ _ _ | exact z_ev_and _ _ _ _ _ _ _ | exact z_ev_and _ _ _ _ _ _ _ _ | exact z_ev_and _ _ _ _ _ _ _ _ _
@[simp] theorem ev_or (x y : E) : ev C (.or x y) ρ h = @cnd _ (ev C x ρ h) ⟨fun h1 => some (.d (.b true), h1)⟩ ⟨fun h1 => ev C y ρ h1⟩ := by
  simp only [bnd_eq, cnd_eq, asI_eq, asBl_eq, asS_eq, seqF_eq]
  first | exact z_ev_or _ _ _ | exact z_ev_or _ _ _ _ | exact z_ev_or _ _ _ _ _ | exact z_ev_or _ _ _ _ _ _ | exact z_ev_or _ _ _ _ _ _ _ | exact z_ev_or _ _ _ _ _ _ _ _ | exact z_ev_or _ _ _ _ _ _ _ _ _
@[simp] theorem ev_ite (c x y : E) : ev C (.ite c x y) ρ h = @cnd _ (ev C c ρ h) ⟨fun h1 => ev C x ρ h1⟩ ⟨fun h1 => ev C y ρ h1⟩ := by
  simp only [bnd_eq, cnd_eq, asI_eq, asBl_eq, asS_eq, seqF_eq]
  first | exact z_ev_ite _ _ _ | exact z_ev_ite _ _ _ _ | exact z_ev_ite _ _ _ _ _ | exact z_ev_ite _ _ _ _ _ _ | exact z_ev_ite _ _ _ _ _ _ _ | exact z_ev_ite _ _ _ _ _ _ _ _ | exact z_ev_ite _ _ _ _ _ _ _ _ _
@[simp] theorem ev_ix (x i : E) : ev C (.ix x i) ρ h = @bnd _ _ (ev C x ρ h) ⟨fun u h1 => @bnd _ _ (ev C i ρ h1) ⟨fun k h2 => index h2 u k⟩⟩ := by
  simp only [bnd_eq, cnd_eq, asI_eq, asBl_eq, asS_eq, seqF_eq]
  first | exact z_ev_ix _ _ _ | exact z_ev_ix _ _ _ _ | exact z_ev_ix _ _ _ _ _ | exact z_ev_ix _ _ _ _ _ _ | exact z_ev_ix _ _ _ _ _ _ _ | exact z_ev_ix _ _ _ _ _ _ _ _ | exact z_ev_ix _ _ _ _ _ _ _ _ _
@[simp] theorem ev_dix (g : Nat) (i : E) : ev C (.dix g i) ρ h = @asS _ (ev C i ρ h) ⟨fun k h1 => (C.T g k).map fun x => (.d x, h1)⟩ := by
  simp only [bnd_eq, cnd_eq, asI_eq, asBl_eq, asS_eq, seqF_eq]
  first | exact z_ev_dix _ _ _ | exact z_ev_dix _ _ _ _ | exact z_ev_dix _ _ _ _ _ | exact z_ev_dix _ _ _ _ _ _ | exact z_ev_dix _ _ _ _ _ _ _ | exact z_ev_dix _ _ _ _ _ _ _ _ | exact z_ev_dix _ _ _ _ _ _ _ _ _
@[simp] theorem ev_sl (x : E) (lo hi : Option E) : ev C (.sl x lo hi) ρ h = @bnd _ _ (ev C x ρ h) ⟨fun u h1 => @bnd _ _ (evo C lo ρ h1) ⟨fun a h2 => @bnd _ _ (evo C hi ρ h2) ⟨fun z h3 => slice h3 u a z⟩⟩⟩ := by
  simp only [bnd_eq, cnd_eq, asI_eq, asBl_eq, asS_eq, seqF_eq]
  first | exact z_ev_sl _ _ _ | exact z_ev_sl _ _ _ _ | exact z_ev_sl _ _ _ _ _ | exact z_ev_sl _ _ _ _ _ _ | exact z_ev_sl _ _ _ _ _ _ _ | exact z_ev_sl _ _ _ _ _ _ _ _ | exact z_ev_sl _ _ _ _ _ _ _ _ _
@[simp] theorem ev_rev (x : E) : ev C (.rev x) ρ h = @bnd _ _ (ev C x ρ h) ⟨fun u h1 => revW h1 u⟩ := by
  simp only [bnd_eq, cnd_eq, asI_eq, asBl_eq, asS_eq, seqF_eq]
  first | exact z_ev_rev _ _ _ | exact z_ev_rev _ _ _ _ | exact z_ev_rev _ _ _ _ _ | exact z_ev_rev _ _ _ _ _ _ | exact z_ev_rev _ _ _ _ _ _ _ | exact z_ev_rev _ _ _ _ _ _ _ _ | exact z_ev_rev _ _ _ _ _ _ _ _ _
@[simp] theorem ev_call (f : Nat) (es : List E) : ev C (.call f es) ρ h = @bnd _ _ (evs C es ρ h) ⟨fun ws h1 => C.cl f ws h1⟩ := by
  simp only [bnd_eq, cnd_eq, asI_eq, asBl_eq, asS_eq, seqF_eq]
  first | exact z_ev_call _ _ _ | exact z_ev_call _ _ _ _ | exact z_ev_call _ _ _ _ _ | exact z_ev_call _ _ _ _ _ _ | exact z_ev_call _ _ _ _ _ _ _ | exact z_ev_call _ _ _ _ _ _ _ _ | exact z_ev_call _ _ _ _ _ _ _ _ _
@[simp] theorem ev_bi (f : Bi) (es : List E) : ev C (.bi f es) ρ h = @bnd _ _ (evs C es ρ h) ⟨fun ws h1 => builtin h1 f ws⟩ := by
  simp only [bnd_eq, cnd_eq, asI_eq, asBl_eq, asS_eq, seqF_eq]
  first | exact z_ev_bi _ _ _ | exact z_ev_bi _ _ _ _ | exact z_ev_bi _ _ _ _ _ | exact z_ev_bi _ _ _ _ _ _ | exact z_ev_bi _ _ _ _ _ _ _ | exact z_ev_bi _ _ _ _ _ _ _ _ | exact z_ev_bi _ _ _ _ _ _ _ _ _
@[simp] theorem ev_meth (m : Me) (x : E) (es : List E) : ev C (.meth m x es) ρ h = @bnd _ _ (ev C x ρ h) ⟨fun u h1 => @bnd _ _ (evs C es ρ h1) ⟨fun ws h2 => method h2 m u ws⟩⟩ := by
  simp only [bnd_eq, cnd_eq, asI_eq, asBl_eq, asS_eq, seqF_eq]
  first | exact z_ev_meth _ _ _ | exact z_ev_meth _ _ _ _ | exact z_ev_meth _ _ _ _ _ | exact z_ev_meth _ _ _ _ _ _ | exact z_ev_meth _ _ _ _ _ _ _ | exact z_ev_meth _ _ _ _ _ _ _ _ | exact z_ev_meth _ _ _ _ _ _ _ _ _
@[simp] theorem ev_comp (elt : E) (tg : Tg) (it : It) (c : Option E) : ev C (.comp elt tg it c) ρ h = @bnd _ _ (evi C it ρ h) ⟨fun src h1 => @bnd _ _ (compSrc (turn tg ρ (evc C c) (ev C elt)) src [] h1) ⟨fun acc h2 => some (.l h2.length, h2 ++ [acc])⟩⟩ := by
  simp only [bnd_eq, cnd_eq, asI_eq, asBl_eq, asS_eq, seqF_eq]
  first | exact z_ev_comp _ _ _ | exact z_ev_comp _ _ _ _ | exact z_ev_comp _ _ _ _ _ | exact z_ev_comp _ _ _ _ _ _ | exact z_ev_comp _ _ _ _ _ _ _ | exact z_ev_comp _ _ _ _ _ _ _ _ | exact z_ev_comp _ _ _ _ _ _ _ _ _
@[simp] theorem ev_ofIt (t : Bool) (it : It) : ev C (.ofIt t it) ρ h = @bnd _ _ (evi C it ρ h) ⟨fun src h1 => ofSrc h1 t src⟩ := by
  simp only [bnd_eq, cnd_eq, asI_eq, asBl_eq, asS_eq, seqF_eq]
  first | exact z_ev_ofIt _ _ _ | exact z_ev_ofIt _ _ _ _ | exact z_ev_ofIt _ _ _ _ _ | exact z_ev_ofIt _ _ _ _ _ _ | exact z_ev_ofIt _ _ _ _ _ _ _ | exact z_ev_ofIt _ _ _ _ _ _ _ _ | exact z_ev_ofIt _ _ _ _ _ _ _ _ _
@[simp] theorem evs_cons' (e : E) (es : List E) : evs C (e :: es) ρ h = @bnd _ _ (ev C e ρ h) ⟨fun w h1 => @bnd _ _ (evs C es ρ h1) ⟨fun ws h2 => some (w :: ws, h2)⟩⟩ := by
  simp only [bnd_eq, cnd_eq, asI_eq, asBl_eq, asS_eq, seqF_eq]
  first | exact z_evs_cons' _ _ _ | exact z_evs_cons' _ _ _ _ | exact z_evs_cons' _ _ _ _ _ | exact z_evs_cons' _ _ _ _ _ _ | exact z_evs_cons' _ _ _ _ _ _ _ | exact z_evs_cons' _ _ _ _ _ _ _ _ | exact z_evs_cons' _ _ _ _ _ _ _ _ _
@[simp] theorem evo_some (e : E) : evo C (some e) ρ h = @asI _ (ev C e ρ h) ⟨fun k h1 => some (some k, h1)⟩ := by
  simp only [bnd_eq, cnd_eq, asI_eq, asBl_eq, asS_eq, seqF_eq]
  first | exact z_evo_some _ _ _ | exact z_evo_some _ _ _ _ | exact z_evo_some _ _ _ _ _ | exact z_evo_some _ _ _ _ _ _ | exact z_evo_some _ _ _ _ _ _ _ | exact z_evo_some _ _ _ _ _ _ _ _ | exact z_evo_some _ _ _ _ _ _ _ _ _
@[simp] theorem evc_some (e : E) : evc C (some e) ρ h = @asBl _ (ev C e ρ h) ⟨fun k h1 => some (k, h1)⟩ := by
  simp only [bnd_eq, cnd_eq, asI_eq, asBl_eq, asS_eq, seqF_eq]
  first | exact z_evc_some _ _ _ | exact z_evc_some _ _ _ _ | exact z_evc_some _ _ _ _ _ | exact z_evc_some _ _ _ _ _ _ | exact z_evc_some _ _ _ _ _ _ _ | exact z_evc_some _ _ _ _ _ _ _ _ | exact z_evc_some _ _ _ _ _ _ _ _ _
@[simp] theorem evi_r1' (x : E) : evi C (.r1 x) ρ h = @asI _ (ev C x ρ h) ⟨fun n h1 => if inR n then some (.its (range 0 n), h1) else none⟩ := by
  simp only [bnd_eq, cnd_eq, asI_eq, asBl_eq, asS_eq, seqF_eq]
  first | exact z_evi_r1' _ _ _ | exact z_evi_r1' _ _ _ _ | exact z_evi_r1' _ _ _ _ _ | exact z_evi_r1' _ _ _ _ _ _ | exact z_evi_r1' _ _ _ _ _ _ _ | exact z_evi_r1' _ _ _ _ _ _ _ _ | exact z_evi_r1' _ _ _ _ _ _ _ _ _
@[simp] theorem evi_r2' (x y : E) : evi C (.r2 x y) ρ h = @asI _ (ev C x ρ h) ⟨fun a h1 => @asI _ (ev C y ρ h1) ⟨fun n h2 => if inR a then (if inR n then some (.its (range a n), h2) else none) else none⟩⟩ := by
  simp only [bnd_eq, cnd_eq, asI_eq, asBl_eq, asS_eq, seqF_eq]
  first | exact z_evi_r2' _ _ _ | exact z_evi_r2' _ _ _ _ | exact z_evi_r2' _ _ _ _ _ | exact z_evi_r2' _ _ _ _ _ _ | exact z_evi_r2' _ _ _ _ _ _ _ | exact z_evi_r2' _ _ _ _ _ _ _ _ | exact z_evi_r2' _ _ _ _ _ _ _ _ _
@[simp] theorem evi_sq' (x : E) : evi C (.sq x) ρ h = @bnd _ _ (ev C x ρ h) ⟨fun u h1 => (srcOf h1 u).map fun s => (s, h1)⟩ := by
  simp only [bnd_eq, cnd_eq, asI_eq, asBl_eq, asS_eq, seqF_eq]
  first | exact z_evi_sq' _ _ _ | exact z_evi_sq' _ _ _ _ | exact z_evi_sq' _ _ _ _ _ | exact z_evi_sq' _ _ _ _ _ _ | exact z_evi_sq' _ _ _ _ _ _ _ | exact z_evi_sq' _ _ _ _ _ _ _ _ | exact z_evi_sq' _ _ _ _ _ _ _ _ _
@[simp] theorem ex_asg (tg : Tg) (e : E) : exec C (.asg tg e) ρ h = @bnd _ _ (ev C e ρ h) ⟨fun w h1 => (setT tg w ρ).map fun ρ' => (.nxt, ρ', h1)⟩ := by
  simp only [bnd_eq, cnd_eq, asI_eq, asBl_eq, asS_eq, seqF_eq]
  first | exact z_ex_asg _ _ _ | exact z_ex_asg _ _ _ _ | exact z_ex_asg _ _ _ _ _ | exact z_ex_asg _ _ _ _ _ _ | exact z_ex_asg _ _ _ _ _ _ _ | exact z_ex_asg _ _ _ _ _ _ _ _ | exact z_ex_asg _ _ _ _ _ _ _ _ _
@[simp] theorem ex_par (i j : Nat) (x y : E) : exec C (.par i j x y) ρ h = @bnd _ _ (ev C x ρ h) ⟨fun u h1 => @bnd _ _ (ev C y ρ h1) ⟨fun w h2 => some (.nxt, (ρ.set i (some u)).set j (some w), h2)⟩⟩ := by
  simp only [bnd_eq, cnd_eq, asI_eq, asBl_eq, asS_eq, seqF_eq]
  first | exact z_ex_par _ _ _ | exact z_ex_par _ _ _ _ | exact z_ex_par _ _ _ _ _ | exact z_ex_par _ _ _ _ _ _ | exact z_ex_par _ _ _ _ _ _ _ | exact z_ex_par _ _ _ _ _ _ _ _ | exact z_ex_par _ _ _ _ _ _ _ _ _
@[simp] theorem ex_par3 (i j l : Nat) (x y z : E) : exec C (.par3 i j l x y z) ρ h = @bnd _ _ (ev C x ρ h) ⟨fun u h1 => @bnd _ _ (ev C y ρ h1) ⟨fun w h2 => @bnd _ _ (ev C z ρ h2) ⟨fun v h3 => some (.nxt, ((ρ.set i (some u)).set j (some w)).set l (some v), h3)⟩⟩⟩ := by
  simp only [bnd_eq, cnd_eq, asI_eq, asBl_eq, asS_eq, seqF_eq]
  first | exact z_ex_par3 _ _ _ | exact z_ex_par3 _ _ _ _ | exact z_ex_par3 _ _ _ _ _ | exact z_ex_par3 _ _ _ _ _ _ | exact z_ex_par3 _ _ _ _ _ _ _ | exact z_ex_par3 _ _ _ _ _ _ _ _ | exact z_ex_par3 _ _ _ _ _ _ _ _ _
@[simp] theorem ex_setix (o i e : E) : exec C (.setix o i e) ρ h = @bnd _ _ (ev C e ρ h) ⟨fun w h1 => @bnd _ _ (ev C o ρ h1) ⟨fun u h2 => @bnd _ _ (ev C i ρ h2) ⟨fun k h3 => (setAt h3 u k w).map fun h4 => (.nxt, ρ, h4)⟩⟩⟩ := by
  simp only [bnd_eq, cnd_eq, asI_eq, asBl_eq, asS_eq, seqF_eq]
  first | exact z_ex_setix _ _ _ | exact z_ex_setix _ _ _ _ | exact z_ex_setix _ _ _ _ _ | exact z_ex_setix _ _ _ _ _ _ | exact z_ex_setix _ _ _ _ _ _ _ | exact z_ex_setix _ _ _ _ _ _ _ _ | exact z_ex_setix _ _ _ _ _ _ _ _ _
@[simp] theorem ex_aug (op : BOp) (i : Nat) (e : E) : exec C (.aug op i e) ρ h = (match ρ[i]? with
    | some (some u) => @bnd _ _ (ev C e ρ h) ⟨fun w h1 => @bnd _ _ (augop h1 op u w) ⟨fun v h2 => some (.nxt, ρ.set i (some v), h2)⟩⟩
    | _ => none) := by
  simp only [bnd_eq, cnd_eq, asI_eq, asBl_eq, asS_eq, seqF_eq]
  first | exact z_ex_aug _ _ _ | exact z_ex_aug _ _ _ _ | exact z_ex_aug _ _ _ _ _ | exact z_ex_aug _ _ _ _ _ _ | exact z_ex_aug _ _ _ _ _ _ _ | exact z_ex_aug _ _ _ _ _ _ _ _ | exact z_ex_aug _ _ _ _ _ _ _ _ _
@[simp] theorem ex_ife (c : E) (x y : List S) : exec C (.ife c x y) ρ h = @cnd _ (ev C c ρ h) ⟨fun h1 => execs C x ρ h1⟩ ⟨fun h1 => execs C y ρ h1⟩ := by
  simp only [bnd_eq, cnd_eq, asI_eq, asBl_eq, asS_eq, seqF_eq]
  first | exact z_ex_ife _ _ _ | exact z_ex_ife _ _ _ _ | exact z_ex_ife _ _ _ _ _ | exact z_ex_ife _ _ _ _ _ _ | exact z_ex_ife _ _ _ _ _ _ _ | exact z_ex_ife _ _ _ _ _ _ _ _ | exact z_ex_ife _ _ _ _ _ _ _ _ _
@[simp] theorem ex_for (tg : Tg) (it : It) (body : List S) : exec C (.for tg it body) ρ h = @bnd _ _ (evi C it ρ h) ⟨fun src h1 => forSrc (fb C tg body) src ρ h1⟩ := by
  simp only [bnd_eq, cnd_eq, asI_eq, asBl_eq, asS_eq, seqF_eq]
  first | exact z_ex_for _ _ _ | exact z_ex_for _ _ _ _ | exact z_ex_for _ _ _ _ _ | exact z_ex_for _ _ _ _ _ _ | exact z_ex_for _ _ _ _ _ _ _ | exact z_ex_for _ _ _ _ _ _ _ _ | exact z_ex_for _ _ _ _ _ _ _ _ _
@[simp] theorem ex_ret (e : E) : exec C (.ret e) ρ h = @bnd _ _ (ev C e ρ h) ⟨fun w h1 => some (.ret w, ρ, h1)⟩ := by
  simp only [bnd_eq, cnd_eq, asI_eq, asBl_eq, asS_eq, seqF_eq]
  first | exact z_ex_ret _ _ _ | exact z_ex_ret _ _ _ _ | exact z_ex_ret _ _ _ _ _ | exact z_ex_ret _ _ _ _ _ _ | exact z_ex_ret _ _ _ _ _ _ _ | exact z_ex_ret _ _ _ _ _ _ _ _ | exact z_ex_ret _ _ _ _ _ _ _ _ _
@[simp] theorem ex_ex (e : E) : exec C (.ex e) ρ h = @bnd _ _ (ev C e ρ h) ⟨fun _ h1 => some (.nxt, ρ, h1)⟩ := by
  simp only [bnd_eq, cnd_eq, asI_eq, asBl_eq, asS_eq, seqF_eq]
  first | exact z_ex_ex _ _ _ | exact z_ex_ex _ _ _ _ | exact z_ex_ex _ _ _ _ _ | exact z_ex_ex _ _ _ _ _ _ | exact z_ex_ex _ _ _ _ _ _ _ | exact z_ex_ex _ _ _ _ _ _ _ _ | exact z_ex_ex _ _ _ _ _ _ _ _ _
@[simp] theorem exs_cons (s : S) (r : List S) : execs C (s :: r) ρ h = @seqF (exec C s ρ h) ⟨fun ρ' h' => execs C r ρ' h'⟩ := by
  simp only [bnd_eq, cnd_eq, asI_eq, asBl_eq, asS_eq, seqF_eq]
  first | exact z_exs_cons _ _ _ | exact z_exs_cons _ _ _ _ | exact z_exs_cons _ _ _ _ _ | exact z_exs_cons _ _ _ _ _ _ | exact z_exs_cons _ _ _ _ _ _ _ | exact z_exs_cons _ _ _ _ _ _ _ _ | exact z_exs_cons _ _ _ _ _ _ _ _ _
@[simp] theorem turn_n (C : Ctx) (i : Nat) (ρ : Env) (e : E) (x : W) (acc : List W) (h : LH) : turn (.n i) ρ (evc C none) (ev C e) x acc h = @bnd _ _ (ev C e (ρ.set i (some x)) h) ⟨fun w h2 => if acc.length < SZ then some (acc ++ [w], h2) else none⟩ := by
  simp only [bnd_eq, cnd_eq, asI_eq, asBl_eq, asS_eq, seqF_eq]
  first | exact z_turn_n _ _ _ | exact z_turn_n _ _ _ _ | exact z_turn_n _ _ _ _ _ | exact z_turn_n _ _ _ _ _ _ | exact z_turn_n _ _ _ _ _ _ _ | exact z_turn_n _ _ _ _ _ _ _ _ | exact z_turn_n _ _ _ _ _ _ _ _ _
end J
/-! Ends of runs: what is asked of the value. -/
namespace J
variable {α β γ : Type}
@[simp] theorem allD_take (xs : List D) (k : Nat) : allD ((xs.map .d).take k) = some (xs.take k) := by rw [← List.map_take]; exact allD_map' _
@[simp] theorem allD_drop (xs : List D) (k : Nat) : allD ((xs.map .d).drop k) = some (xs.drop k) := by rw [← List.map_drop]; exact allD_map' _
class Kt (γ : Type) where
  run : γ → Prop
@[simp] theorem kt_mk (f : γ → Prop) (a : γ) : @Kt.run γ ⟨f⟩ a = f a := (rfl)
def Wp (r : Option γ) [Q : Kt γ] : Prop := ∃ a, r = some a ∧ Q.run a
abbrev WP (r : Option γ) (Q : γ → Prop) : Prop := @Wp γ r ⟨Q⟩
theorem WP.mono {r : Option γ} {Q Q' : γ → Prop} (h : WP r Q) (hq : ∀ a, Q a → Q' a) : WP r Q' := by
  obtain ⟨a, e, q⟩ := h
  exact ⟨a, e, hq a q⟩
@[simp] theorem Wp_some (a : γ) (Q : Kt γ) : @Wp γ (some a) Q = Q.run a := by simp [Wp]
@[simp] theorem Wp_none (Q : Kt γ) : @Wp γ none Q = False := by simp [Wp]
@[simp] theorem Wp_bnd (r : Option (α × LH)) (f) (Q) : @Wp β (@bnd α β r f) Q = @Wp _ r ⟨fun p => @Wp β (f.run p.1 p.2) Q⟩ := by
  rcases r with _ | ⟨a, h⟩
  · simp
  · simp
def seqQ (f : Kn Env (LH → Option (Fl × Env × LH))) (Q : Kt (Fl × Env × LH)) : Fl × Env × LH → Prop
  | (.nxt, ρ, h) => @Wp _ (f.run ρ h) Q
  | p => Q.run p
@[simp] theorem Wp_seqF (r : Option (Fl × Env × LH)) (f) (Q) : @Wp _ (@seqF r f) Q = @Wp _ r ⟨seqQ f Q⟩ := by
  rcases r with _ | ⟨a, ρ, h⟩
  · simp
  · cases a <;> simp [seqQ]
@[simp] theorem seqQ_nxt (f) (Q) (ρ : Env) (h : LH) : seqQ f Q (.nxt, ρ, h) = @Wp _ (f.run ρ h) Q := (rfl)
@[simp] theorem seqQ_ret (f) (Q) (w : W) (ρ : Env) (h : LH) : seqQ f Q (.ret w, ρ, h) = Q.run (.ret w, ρ, h) := (rfl)
@[simp] theorem seqQ_brk (f) (Q) (ρ : Env) (h : LH) : seqQ f Q (.brk, ρ, h) = Q.run (.brk, ρ, h) := (rfl)
@[simp] theorem seqQ_cnt (f) (Q) (ρ : Env) (h : LH) : seqQ f Q (.cnt, ρ, h) = Q.run (.cnt, ρ, h) := (rfl)
def retQ (n : Nat) (Q : Kt (W × LH)) : Fl × Env × LH → Prop
  | (.ret w, _, h') => @Wp _ (fin n w h') Q
  | (.nxt, _, h') => @Wp _ (fin n (.d .none) h') Q
  | _ => False
@[simp] theorem retQ_ret (n : Nat) (Q) (w : W) (ρ : Env) (h : LH) : retQ n Q (.ret w, ρ, h) = @Wp _ (fin n w h) Q := (rfl)
@[simp] theorem retQ_nxt (n : Nat) (Q) (ρ : Env) (h : LH) : retQ n Q (.nxt, ρ, h) = @Wp _ (fin n (.d .none) h) Q := (rfl)
@[simp] theorem Wp_ret (n : Nat) (r : Option (Fl × Env × LH)) (Q) : @Wp _ (ret n r) Q = @Wp _ r ⟨retQ n Q⟩ := by
  rcases r with _ | ⟨a, ρ, h⟩
  · simp [ret]
  · cases a <;> simp [ret, retQ]
def cndQ (A B : Kn LH (Option γ)) (Q : Kt γ) : W × LH → Prop
  | (.d (.b true), h) => @Wp _ (A.run h) Q
  | (.d (.b false), h) => @Wp _ (B.run h) Q
  | _ => False
@[simp] theorem cndQ_b (b : Bool) (h : LH) (A B) (Q : Kt γ) : cndQ A B Q (.d (.b b), h) = if b = true then @Wp _ (A.run h) Q else @Wp _ (B.run h) Q := by cases b <;> rfl
@[simp] theorem Wp_cnd (r : Option (W × LH)) (A B) (Q : Kt γ) : @Wp _ (@cnd γ r A B) Q = @Wp _ r ⟨cndQ A B Q⟩ := by
  rcases r with _ | ⟨a, h⟩
  · simp
  · rcases a with d | a
    · cases d with
      | b k => cases k <;> simp [cndQ]
      | _ => simp [cnd, cndQ]
    · simp [cnd, cndQ]
def asIQ (f : Kn Int (LH → Option γ)) (Q : Kt γ) : W × LH → Prop
  | (.d (.i k), h) => @Wp _ (f.run k h) Q
  | _ => False
@[simp] theorem asIQ_i (k : Int) (h : LH) (f) (Q : Kt γ) : asIQ f Q (.d (.i k), h) = @Wp _ (f.run k h) Q := (rfl)
@[simp] theorem Wp_asI (r : Option (W × LH)) (f) (Q : Kt γ) : @Wp _ (@asI γ r f) Q = @Wp _ r ⟨asIQ f Q⟩ := by
  rcases r with _ | ⟨a, h⟩
  · simp [asI]
  · rcases a with d | a
    · cases d <;> simp [asI, asIQ]
    · simp [asI, asIQ]
def asBQ (f : Kn Bool (LH → Option γ)) (Q : Kt γ) : W × LH → Prop
  | (.d (.b k), h) => @Wp _ (f.run k h) Q
  | _ => False
@[simp] theorem asBQ_b (k : Bool) (h : LH) (f) (Q : Kt γ) : asBQ f Q (.d (.b k), h) = @Wp _ (f.run k h) Q := (rfl)
@[simp] theorem Wp_asBl (r : Option (W × LH)) (f) (Q : Kt γ) : @Wp _ (@asBl γ r f) Q = @Wp _ r ⟨asBQ f Q⟩ := by
  rcases r with _ | ⟨a, h⟩
  · simp [asBl]
  · rcases a with d | a
    · cases d <;> simp [asBl, asBQ]
    · simp [asBl, asBQ]
theorem Wp_ite (p : Prop) [Decidable p] (x y : Option γ) (Q) : @Wp γ (if p then x else y) Q = if p then @Wp γ x Q else @Wp γ y Q := by split <;> rfl
theorem Wp.if {p : Prop} [Decidable p] {x y : Option γ} {Q} (h1 : p → @Wp γ x Q) (h2 : ¬ p → @Wp γ y Q) : @Wp γ (if p then x else y) Q := by
  split
  · exact h1 (by assumption)
  · exact h2 (by assumption)
theorem ite_of {p : Prop} [Decidable p] {x y : Prop} (h1 : p → x) (h2 : ¬ p → y) : if p then x else y := by
  split
  · exact h1 (by assumption)
  · exact h2 (by assumption)
/-- what a loop's turn hands on -/
def turnQ (I : Env → LH → Prop) (Q : Kt (Fl × Env × LH)) : Fl × Env × LH → Prop
  | (.nxt, ρ, h) => I ρ h
  | (.cnt, ρ, h) => I ρ h
  | (.brk, ρ, h) => Q.run (.nxt, ρ, h)
  | (.ret w, ρ, h) => Q.run (.ret w, ρ, h)
@[simp] theorem turnQ_nxt (I Q) (ρ : Env) (h : LH) : turnQ I Q (.nxt, ρ, h) = I ρ h := (rfl)
@[simp] theorem turnQ_cnt (I Q) (ρ : Env) (h : LH) : turnQ I Q (.cnt, ρ, h) = I ρ h := (rfl)
@[simp] theorem turnQ_brk (I Q) (ρ : Env) (h : LH) : turnQ I Q (.brk, ρ, h) = Q.run (.nxt, ρ, h) := (rfl)
@[simp] theorem turnQ_ret (I Q) (w : W) (ρ : Env) (h : LH) : turnQ I Q (.ret w, ρ, h) = Q.run (.ret w, ρ, h) := (rfl)
/-- a for over items, by what holds behind those gone through -/
theorem wp_items {f : W → Env → LH → Option (Fl × Env × LH)} {Q : Kt (Fl × Env × LH)} {g : α → W} (I : List α → Env → LH → Prop) : ∀ {xs : List α} (done : List α) {ρ : Env} {h : LH}, I done ρ h →
    (∀ pre x post, done ++ xs = pre ++ x :: post → ∀ ρ h, I pre ρ h → WP (f (g x) ρ h) (turnQ (I (pre ++ [x])) Q)) →
    (∀ ρ h, I (done ++ xs) ρ h → Q.run (.nxt, ρ, h)) → @Wp _ (forItems f (xs.map g) ρ h) Q
  | [], done, ρ, h, hi, _, hq => by
    simp only [List.map_nil, forItems, Wp_some]
    exact hq ρ h (by simpa using hi)
  | x :: xs, done, ρ, h, hi, hs, hq => by
    obtain ⟨⟨fl, ρ', h'⟩, e, q⟩ := hs done x xs rfl ρ h hi
    simp only [List.map_cons, forItems, e]
    have go : I (done ++ [x]) ρ' h' → @Wp _ (forItems f (xs.map g) ρ' h') Q := fun hi' => by
      refine wp_items I (done ++ [x]) hi' (fun pre y post e => hs pre y post (by simpa using e)) (fun ρ h hh => hq ρ h (by simpa using hh))
    cases fl with
    | nxt => exact go q
    | cnt => exact go q
    | brk => exact ⟨_, rfl, q⟩
    | ret w => exact ⟨_, rfl, q⟩
/-- the same over a live list that the turns leave as it is -/
theorem wp_live {f : W → Env → LH → Option (Fl × Env × LH)} {Q : Kt (Fl × Env × LH)} {g : α → W} {a : Nat} {xs : List α} (I : List α → Env → LH → Prop) {ρ : Env} {h : LH} (h0 : I [] ρ h)
    (hl : ∀ pre ρ h, I pre ρ h → h[a]? = some (xs.map g))
    (hs : ∀ pre x post, xs = pre ++ x :: post → ∀ ρ h, I pre ρ h → WP (f (g x) ρ h) (turnQ (I (pre ++ [x])) Q))
    (hq : ∀ ρ h, I xs ρ h → Q.run (.nxt, ρ, h)) {n : Nat} (hn : xs.length < n) : @Wp _ (forLive f a n 0 ρ h) Q := by
  have key : ∀ (post pre : List α), xs = pre ++ post → ∀ n, post.length < n → ∀ ρ h, I pre ρ h → @Wp _ (forLive f a n pre.length ρ h) Q := by
    intro post
    induction post with
    | nil =>
      intro pre e n hn ρ h hi
      obtain ⟨n, rfl⟩ : ∃ m, n = m + 1 := ⟨n - 1, by simp at hn; omega⟩
      unfold forLive
      rw [hl pre ρ h hi]
      have : (xs.map g)[pre.length]? = none := by rw [e]; simp
      simp only [this]
      rw [Wp_some]
      exact hq ρ h (by rw [e]; simpa using hi)
    | cons x post ih =>
      intro pre e n hn ρ h hi
      obtain ⟨n, rfl⟩ : ∃ m, n = m + 1 := ⟨n - 1, by simp at hn; omega⟩
      unfold forLive
      rw [hl pre ρ h hi]
      have : (xs.map g)[pre.length]? = some (g x) := by rw [e]; simp
      simp only [this]
      obtain ⟨⟨fl, ρ', h'⟩, e1, q⟩ := hs pre x post e ρ h hi
      simp only [e1]
      have go : I (pre ++ [x]) ρ' h' → @Wp _ (forLive f a n (pre.length + 1) ρ' h') Q := fun hi' => by
        have := ih (pre ++ [x]) (by simpa using e) n (by simp at hn; omega) ρ' h' hi'
        simpa using this
      cases fl with
      | nxt => exact go q
      | cnt => exact go q
      | brk => exact ⟨_, rfl, q⟩
      | ret w => exact ⟨_, rfl, q⟩
  exact key xs [] rfl n hn ρ h h0
/-- a comprehension whose turns may change the heap: by what holds behind those gone through -/
theorem wp_comp {f : W → List W → LH → Option (List W × LH)} {Q : Kt (List W × LH)} {g : α → W} (I : List α → List W → LH → Prop) : ∀ {xs : List α} (done : List α) {acc : List W} {h : LH}, I done acc h →
    (∀ pre x post, done ++ xs = pre ++ x :: post → ∀ acc h, I pre acc h → WP (f (g x) acc h) (fun p => I (pre ++ [x]) p.1 p.2)) →
    (∀ acc h, I (done ++ xs) acc h → Q.run (acc, h)) → @Wp _ (compItems f (xs.map g) acc h) Q
  | [], done, acc, h, hi, _, hq => by
    simp only [List.map_nil, compItems, Wp_some]
    exact hq acc h (by simpa using hi)
  | x :: xs, done, acc, h, hi, hs, hq => by
    obtain ⟨⟨acc', h'⟩, e, q⟩ := hs done x xs rfl acc h hi
    simp only [List.map_cons, compItems, e]
    exact wp_comp I (done ++ [x]) q (fun pre y post e => hs pre y post (by simpa using e)) (fun acc h hh => hq acc h (by simpa using hh))
/-- a while, by a measure -/
theorem wp_while {c : Env → LH → Option (Bool × LH)} {f : Env → LH → Option (Fl × Env × LH)} {Q : Kt (Fl × Env × LH)} (I : Nat → Env → LH → Prop)
    (hs : ∀ m ρ h, I m ρ h → WP (c ρ h) (fun p => if p.1 = true then WP (f ρ p.2) (turnQ (fun ρ' h' => ∃ m', m' < m ∧ I m' ρ' h') Q) else Q.run (.nxt, ρ, p.2))) :
    ∀ (m n : Nat) (ρ : Env) (h : LH), m < n → I m ρ h → @Wp _ (whileF c f n ρ h) Q := by
  intro m
  induction m using Nat.strongRecOn with
  | _ m ih =>
    intro n ρ h hn hi
    obtain ⟨n, rfl⟩ : ∃ k, n = k + 1 := ⟨n - 1, by omega⟩
    obtain ⟨⟨b, h1⟩, e, q⟩ := hs m ρ h hi
    unfold whileF
    simp only [e]
    cases b with
    | false => exact ⟨_, rfl, by simpa using q⟩
    | true =>
      simp only [if_true] at q
      obtain ⟨⟨fl, ρ', h'⟩, e1, q⟩ := q
      simp only [e1]
      cases fl with
      | nxt => obtain ⟨m', hm, hi'⟩ := q; exact ih m' hm n ρ' h' (by omega) hi'
      | cnt => obtain ⟨m', hm, hi'⟩ := q; exact ih m' hm n ρ' h' (by omega) hi'
      | brk => exact ⟨_, rfl, q⟩
      | ret w => exact ⟨_, rfl, q⟩
/-- a heap: a live list of numbers at a, and lists made behind -/
def dl (ds : List Int) : List W := ds.map fun x => .d (.i x)
@[simp] theorem dl_len (ds : List Int) : (dl ds).length = ds.length := by simp [dl]
def hp (H : LH) (a : Nat) (ds : List Int) (K : LH) : LH := H.set a (dl ds) ++ K
variable {H : LH} {a : Nat} {ds : List Int} {K : LH}
@[simp high] theorem hp_len : (hp H a ds K).length = H.length + K.length := by simp [hp]
@[simp high] theorem hp_app (L : LH) : hp H a ds K ++ L = hp H a ds (K ++ L) := by simp [hp]
@[simp high] theorem hp_get (k : Nat) : (hp H a ds K)[H.length + k]? = K[k]? := by simp [hp]
@[simp high] theorem hp_get0 : (hp H a ds K)[H.length]? = K[0]? := by simp [hp]
@[simp high] theorem hp_set (k : Nat) (y : List W) : (hp H a ds K).set (H.length + k) y = hp H a ds (K.set k y) := by simp [hp]
@[simp high] theorem hp_set0 (y : List W) : (hp H a ds K).set H.length y = hp H a ds (K.set 0 y) := by simp [hp]
@[simp high] theorem hp_take : (hp H a ds K).take H.length = H.set a (dl ds) := by simp [hp]
theorem hp_a (ha : a < H.length) : (hp H a ds K)[a]? = some (dl ds) := by
  unfold hp; rw [List.getElem?_append_left (by simpa using ha)]; simp [ha]
theorem hp_sa (ha : a < H.length) (ds' : List Int) : (hp H a ds K).set a (dl ds') = hp H a ds' K := by
  unfold hp; rw [List.set_append_left _ _ (by simpa using ha), List.set_set]
theorem hp_self (e : H[a]? = some (dl ds)) : H = hp H a ds [] := by
  unfold hp; rw [set_self e, List.append_nil]
end J
/-! A call that is given data alone does the same over every heap. -/
namespace J
def sh (n : Nat) : W → W
  | .d x => .d x
  | .l a => .l (n + a)
def shs (n : Nat) (ws : List W) : List W := ws.map (sh n)
def shT (X h : LH) : LH := X ++ h.map (shs X.length)
def shE (n : Nat) (ρ : Env) : Env := ρ.map (Option.map (sh n))
def shR (X : LH) (p : W × LH) : W × LH := (sh X.length p.1, shT X p.2)
def shP (X : LH) (p : List W × LH) : List W × LH := (shs X.length p.1, shT X p.2)
def shF (n : Nat) : Fl → Fl
  | .ret w => .ret (sh n w)
  | f => f
def shS (X : LH) (p : Fl × Env × LH) : Fl × Env × LH := (shF X.length p.1, shE X.length p.2.1, shT X p.2.2)
def shC (n : Nat) : Src → Src
  | .its ws => .its (shs n ws)
  | .live a k => .live (n + a) k
section
variable {X : LH}
@[simp] theorem sh_d (n : Nat) (x : D) : sh n (.d x) = .d x := (rfl)
@[simp] theorem sh_l (n a : Nat) : sh n (.l a) = .l (n + a) := (rfl)
@[simp] theorem shs_nil (n : Nat) : shs n [] = [] := (rfl)
@[simp] theorem shs_cons (n : Nat) (w : W) (ws : List W) : shs n (w :: ws) = sh n w :: shs n ws := (rfl)
@[simp] theorem shs_len (n : Nat) (ws : List W) : (shs n ws).length = ws.length := by simp [shs]
@[simp] theorem shs_app (n : Nat) (ws us : List W) : shs n (ws ++ us) = shs n ws ++ shs n us := by simp [shs]
@[simp] theorem shs_d (n : Nat) (xs : List D) : shs n (xs.map .d) = xs.map .d := by simp [shs]
@[simp] theorem shs_get (n : Nat) (ws : List W) (i : Nat) : (shs n ws)[i]? = (ws[i]?).map (sh n) := by simp [shs]
@[simp] theorem shs_set (n : Nat) (ws : List W) (i : Nat) (w : W) : shs n (ws.set i w) = (shs n ws).set i (sh n w) := by simp [shs, List.map_set]
@[simp] theorem shs_erase (n : Nat) : ∀ (ws : List W) (i : Nat), shs n (ws.eraseIdx i) = (shs n ws).eraseIdx i
  | [], _ => rfl
  | w :: ws, 0 => rfl
  | w :: ws, i + 1 => by simp [shs_erase n ws i]
@[simp] theorem shs_rev (n : Nat) (ws : List W) : shs n ws.reverse = (shs n ws).reverse := by simp [shs]
@[simp] theorem shs_take (n : Nat) (ws : List W) (i : Nat) : shs n (ws.take i) = (shs n ws).take i := by simp [shs, List.map_take]
@[simp] theorem shs_drop (n : Nat) (ws : List W) (i : Nat) : shs n (ws.drop i) = (shs n ws).drop i := by simp [shs, List.map_drop]
@[simp] theorem shs_last (n : Nat) (ws : List W) : (shs n ws).getLast? = (ws.getLast?).map (sh n) := by simp [shs]
@[simp] theorem shs_dl (n : Nat) (ws : List W) : shs n ws.dropLast = (shs n ws).dropLast := by simp [shs, List.map_dropLast]
theorem shs_rep (n : Nat) (ws : List W) : ∀ k, rep (shs n ws) k = shs n (rep ws k)
  | 0 => rfl
  | k + 1 => by rw [rep, rep, shs_rep n ws k, shs_app]
theorem shs_cut (n : Nat) (ws : List W) (a z : Option Int) : cutL (shs n ws) a z = shs n (cutL ws a z) := by
  unfold cutL; simp
@[simp] theorem shT_len (h : LH) : (shT X h).length = X.length + h.length := by simp [shT]
@[simp] theorem shT_get (h : LH) (a : Nat) : (shT X h)[X.length + a]? = (h[a]?).map (shs X.length) := by simp [shT]
@[simp] theorem shT_app (h : LH) (ws : List W) : shT X (h ++ [ws]) = shT X h ++ [shs X.length ws] := by simp [shT]
@[simp] theorem shT_set (h : LH) (a : Nat) (ws : List W) : shT X (h.set a ws) = (shT X h).set (X.length + a) (shs X.length ws) := by simp [shT, List.map_set]
@[simp] theorem shT_take (h : LH) (n : Nat) : shT X (h.take n) = (shT X h).take (X.length + n) := by simp [shT, List.take_append, List.map_take, List.take_of_length_le]
@[simp] theorem shT_nil : shT X [] = X := by simp [shT]
@[simp] theorem shE_get (n : Nat) (ρ : Env) (i : Nat) : (shE n ρ)[i]? = (ρ[i]?).map (Option.map (sh n)) := by simp [shE]
@[simp] theorem shE_set (n : Nat) (ρ : Env) (i : Nat) (o : Option W) : shE n (ρ.set i o) = (shE n ρ).set i (o.map (sh n)) := by simp [shE, List.map_set]
@[simp] theorem sh_allD (n : Nat) : ∀ ws, allD (shs n ws) = allD ws
  | [] => rfl
  | .d x :: r => by simp [sh_allD n r]
  | .l a :: r => by simp [allD]
@[simp] theorem sh_bools (n : Nat) : ∀ ws, bools (shs n ws) = bools ws
  | [] => rfl
  | .d x :: r => by cases x <;> simp [bools, sh_bools n r]
  | .l a :: r => by simp [bools]
@[simp] theorem sh_ints (n : Nat) : ∀ ws, intsL (shs n ws) = intsL ws
  | [] => rfl
  | .d x :: r => by cases x <;> simp [intsL, sh_ints n r]
  | .l a :: r => by simp [intsL]
@[simp] theorem sh_okIn (n a : Nat) (w : W) : okIn (n + a) (sh n w) = okIn a w := by cases w <;> simp [okIn]
@[simp] theorem sh_okAll (n a : Nat) : ∀ ws, okAll (n + a) (shs n ws) = okAll a ws
  | [] => rfl
  | w :: r => by simp [okAll, sh_okAll n a r]
@[simp] theorem sh_items (h : LH) (w : W) : items (shT X h) (sh X.length w) = (items h w).map (shs X.length) := by
  rcases w with d | a
  · cases d <;> simp [items]
  · simp [items]
@[simp] theorem sh_isInt (n : Nat) (w : W) : isIntW (sh n w) = isIntW w := by cases w <;> rfl
@[simp] theorem sh_isBool (n : Nat) (w : W) : isBoolW (sh n w) = isBoolW w := by cases w <;> rfl
@[simp] theorem sh_isStr (n : Nat) (w : W) : isStrW (sh n w) = isStrW w := by cases w <;> rfl
@[simp] theorem sh_isTuple (n : Nat) (w : W) : isTupleW (sh n w) = isTupleW w := by cases w <;> rfl
@[simp] theorem sh_isList (n : Nat) (w : W) : isListW (sh n w) = isListW w := by cases w <;> rfl
@[simp] theorem sh_isN (n : Nat) (w : W) : isNW (sh n w) = isNW w := by cases w <;> rfl
@[simp] theorem shR_mk (w : W) (h : LH) : shR X (w, h) = (sh X.length w, shT X h) := (rfl)
@[simp] theorem shP_mk (w : List W) (h : LH) : shP X (w, h) = (shs X.length w, shT X h) := (rfl)
@[simp] theorem shS_mk (f : Fl) (ρ : Env) (h : LH) : shS X (f, ρ, h) = (shF X.length f, shE X.length ρ, shT X h) := (rfl)
@[simp] theorem shF_nxt (n : Nat) : shF n .nxt = .nxt := (rfl)
@[simp] theorem shF_brk (n : Nat) : shF n .brk = .brk := (rfl)
@[simp] theorem shF_cnt (n : Nat) : shF n .cnt = .cnt := (rfl)
@[simp] theorem shF_ret (n : Nat) (w : W) : shF n (.ret w) = .ret (sh n w) := (rfl)
theorem sh_binop (h : LH) (o : BOp) (u w : W) : binop (shT X h) o (sh X.length u) (sh X.length w) = (binop h o u w).map (shR X) := by
  rcases u with d | a <;> rcases w with e | c
  · cases o <;> cases d <;> cases e <;> simp [binop] <;> (try split) <;> simp
  · cases o <;> cases d <;> simp [binop]
  · cases o <;> cases e <;> simp [binop]
    cases h[a]? with
    | none => rfl
    | some ws => simp [shs_rep]; try (split <;> simp)
  · cases o <;> simp [binop]
    cases h[a]? <;> cases h[c]? <;> simp
    try (split <;> simp)
theorem sh_eqW (h : LH) (u w : W) : eqW (shT X h) (sh X.length u) (sh X.length w) = eqW h u w := by
  rcases u with d | a <;> rcases w with e | c <;> simp [eqW]
  cases h[a]? <;> cases h[c]? <;> simp
theorem sh_inW (h : LH) (u w : W) : inW (shT X h) (sh X.length u) (sh X.length w) = inW h u w := by
  unfold inW
  rcases u with d | a
  · simp; cases items h w <;> simp
  · simp
theorem sh_cmpop (h : LH) (o : COp) (u w : W) : cmpop (shT X h) o (sh X.length u) (sh X.length w) = cmpop h o u w := by
  cases o
  case eq => exact sh_eqW h u w
  case ne => show (eqW _ _ _).map _ = _; rw [sh_eqW]; rfl
  case isin => exact sh_inW h u w
  case nin => show (inW _ _ _).map _ = _; rw [sh_inW]; rfl
  all_goals rcases u with d | a <;> rcases w with e | c <;> first | rfl | (cases d <;> cases e <;> rfl) | (cases d <;> rfl) | (cases e <;> rfl)
theorem sh_index (h : LH) (u w : W) : index (shT X h) (sh X.length u) (sh X.length w) = (index h u w).map (shR X) := by
  unfold index
  rcases w with d | a
  · cases d <;> simp
    cases items h u with
    | none => rfl
    | some ws =>
      simp only [Option.map_some, shs_len, shs_get]
      split
      · rename_i i k hk
        cases ws[k]? <;> simp
      · rfl
  · simp
theorem sh_slice (h : LH) (u : W) (a z : Option Int) : slice (shT X h) (sh X.length u) a z = (slice h u a z).map (shR X) := by
  rcases u with d | b
  · cases d <;> simp [slice]
  · simp [slice]; cases h[b]? <;> simp [shs_cut]
theorem sh_revW (h : LH) (u : W) : revW (shT X h) (sh X.length u) = (revW h u).map (shR X) := by
  rcases u with d | b
  · cases d <;> simp [revW]
  · simp; cases h[b]? <;> simp
theorem sh_mkT (h : LH) (ws : List W) : mkT (shT X h) (shs X.length ws) = (mkT h ws).map (shR X) := by
  simp only [mkT_eq, sh_allD]; cases allD ws <;> simp; try (split <;> simp)
theorem sh_new (h : LH) (ws : List W) : new (shT X h) (shs X.length ws) = (new h ws).map (shR X) := by
  simp only [new_eq, shs_len]; split <;> simp
theorem sh_builtin (h : LH) (b : Bi) (ws : List W) : builtin (shT X h) b (shs X.length ws) = (builtin h b ws).map (shR X) := by
  rcases ws with _ | ⟨u, _ | ⟨w, _ | ⟨v, r⟩⟩⟩
  · cases b <;> rfl
  · cases b
    case len =>
      rcases u with d | a
      · cases d <;> simp [builtin, items]
      · simp; cases h[a]? <;> simp
    case tuple => simp [-mkT_eq]; cases items h u <;> simp [-mkT_eq, sh_mkT]
    case list => simp [-new_eq]; cases items h u <;> simp [-new_eq, sh_new]
    case maxL =>
      rcases u with d | a
      · cases d <;> rfl
      · simp [builtin]; cases h[a]? with
        | none => rfl
        | some ws => simp; cases intsL ws with
          | none => rfl
          | some xs => simp; cases maxI xs <;> simp
    case sum =>
      rcases u with d | a
      · cases d <;> rfl
      · simp [builtin]; cases h[a]? with
        | none => rfl
        | some ws => simp; cases intsL ws <;> simp
    case all =>
      rcases u with d | a
      · cases d <;> rfl
      · simp; cases h[a]? with
        | none => rfl
        | some ws => simp; cases bools ws <;> simp
    case any =>
      rcases u with d | a
      · cases d <;> rfl
      · simp; cases h[a]? with
        | none => rfl
        | some ws => simp; cases bools ws <;> simp
    case sorted =>
      simp [builtin]; cases items h u with
      | none => rfl
      | some ws => simp; cases intsL ws <;> simp [shs]
    case sortedSet =>
      simp [builtin]; cases items h u with
      | none => rfl
      | some ws => simp; cases intsL ws <;> simp [shs]
    all_goals first | (simp [builtin, bl]; done) | (rcases u with d | a <;> first | rfl | (cases d <;> rfl))
  · cases b <;> first | rfl | (rcases u with d | a <;> rcases w with e | c <;> first | rfl | (cases d <;> cases e <;> rfl) | (cases d <;> rfl) | (cases e <;> rfl))
  · cases b <;> first | rfl | (rcases u with d | a <;> rcases w with e | c <;> first | rfl | (cases d <;> first | rfl | (cases e <;> rfl)) | (cases e <;> rfl))
theorem sh_idx (h : LH) (u : W) (x : D) : method (shT X h) .index (sh X.length u) [.d x] = (method h .index u [.d x]).map (shR X) := by
  rw [idx_d, idx_d, sh_items]
  cases items h u with
  | none => rfl
  | some ws =>
    simp only [Option.map_some, Option.bind_some, sh_allD]
    cases allD ws with
    | none => rfl
    | some xs =>
      simp only [Option.bind_some]
      by_cases q : depth x ≤ 64
      · rw [if_pos q, if_pos q]; cases xs.findIdx? _ <;> simp
      · rw [if_neg q, if_neg q]; rfl
theorem sh_method (h : LH) (m : Me) (u : W) (ws : List W) : method (shT X h) m (sh X.length u) (shs X.length ws) = (method h m u ws).map (shR X) := by
  rcases u with d | a
  · cases m <;> rcases ws with _ | ⟨w, _ | ⟨v, r⟩⟩ <;> first | rfl | (cases w <;> first | rfl | exact sh_idx h _ _)
  · rcases ws with _ | ⟨w, _ | ⟨v, _ | ⟨v', r⟩⟩⟩
    · cases m <;> first | rfl | skip
      · simp; cases h[a]? with
        | none => rfl
        | some ws => simp; cases ws.getLast? <;> simp
      · simp; cases h[a]? <;> simp
    · cases m
      case append => simp; cases h[a]? with
        | none => rfl
        | some ws => simp; try (split <;> simp)
      case extend =>
        rcases w with d | c
        · cases d <;> rfl
        · simp; cases h[a]? <;> cases h[c]? <;> simp; try (split <;> simp)
      case index =>
        rcases w with d | c
        · exact sh_idx h _ _
        · rfl
      case popAt =>
        rcases w with d | c
        · cases d with
          | i i =>
            simp; cases h[a]? with
            | none => rfl
            | some ws => simp; split <;> first | rfl | (cases ws[i.toNat]? <;> simp)
          | _ => rfl
        · rfl
      all_goals first | rfl | (rcases w with d | c <;> first | rfl | (cases d <;> rfl))
    · cases m
      case insert =>
        rcases w with d | c
        · cases d <;> first | rfl | skip
          simp [method]; cases h[a]? with
          | none => rfl
          | some ws => simp; try (split <;> simp)
        · rfl
      all_goals first | rfl | (rcases w with d | c <;> first | rfl | (cases d <;> rfl))
    · cases m <;> first | rfl | (rcases w with d | c <;> first | rfl | (cases d <;> rfl))
theorem sh_setAt (h : LH) (o i w : W) : setAt (shT X h) (sh X.length o) (sh X.length i) (sh X.length w) = (setAt h o i w).map (shT X) := by
  rcases o with d | a
  · cases d <;> rfl
  · rcases i with d | b
    · cases d <;> first | rfl | skip
      simp; cases h[a]? with
      | none => rfl
      | some ws => simp; cases ixN ws.length _ with
        | none => rfl
        | some k => simp; try (split <;> simp)
    · rfl
theorem sh_augop (h : LH) (o : BOp) (u w : W) : augop (shT X h) o (sh X.length u) (sh X.length w) = (augop h o u w).map (shR X) := by
  rcases u with d | a
  · cases o <;> first | rfl | exact sh_binop h _ (.d d) w
  · cases o <;> first | rfl | skip
    rcases w with d | c
    · rfl
    · simp [augop]; cases h[a]? <;> cases h[c]? <;> simp; try (split <;> simp)
theorem sh_setMany (n : Nat) : ∀ (is : List Nat) (xs : List D) (ρ : Env), setMany is xs (shE n ρ) = shE n (setMany is xs ρ)
  | [], xs, ρ => by simp
  | i :: is, [], ρ => rfl
  | i :: is, x :: xs, ρ => by
    have := sh_setMany n is xs (ρ.set i (some (.d x)))
    simpa using this
theorem sh_setT (n : Nat) (tg : Tg) (w : W) (ρ : Env) : setT tg (sh n w) (shE n ρ) = (setT tg w ρ).map (shE n) := by
  cases tg with
  | n i => simp
  | t is =>
    rcases w with d | a
    · cases d <;> first | rfl | skip
      simp; split <;> simp [sh_setMany]
    · rfl
theorem sh_wipe (n : Nat) (ρ : Env) : ∀ is, wipe (shE n ρ) is = shE n (wipe ρ is)
  | [] => rfl
  | i :: r => by simp [sh_wipe n ρ r]
theorem sh_forItems {f f' : W → Env → LH → Option (Fl × Env × LH)} (hf : ∀ x ρ h, f' (sh X.length x) (shE X.length ρ) (shT X h) = (f x ρ h).map (shS X)) : ∀ (ws : List W) (ρ : Env) (h : LH), forItems f' (shs X.length ws) (shE X.length ρ) (shT X h) = (forItems f ws ρ h).map (shS X)
  | [], ρ, h => rfl
  | w :: ws, ρ, h => by
    simp only [shs_cons, forItems, hf]
    rcases f w ρ h with _ | ⟨fl, ρ', h'⟩
    · rfl
    · cases fl <;> simp [sh_forItems hf ws]
theorem sh_forLive {f f' : W → Env → LH → Option (Fl × Env × LH)} (hf : ∀ x ρ h, f' (sh X.length x) (shE X.length ρ) (shT X h) = (f x ρ h).map (shS X)) (a : Nat) : ∀ (n i : Nat) (ρ : Env) (h : LH), forLive f' (X.length + a) n i (shE X.length ρ) (shT X h) = (forLive f a n i ρ h).map (shS X)
  | 0, i, ρ, h => rfl
  | n + 1, i, ρ, h => by
    unfold forLive
    rw [shT_get]
    cases h[a]? with
    | none => rfl
    | some ws =>
      simp only [Option.map_some, shs_get]
      cases ws[i]? with
      | none => rfl
      | some x =>
        simp only [Option.map_some, hf]
        rcases f x ρ h with _ | ⟨fl, ρ', h'⟩
        · rfl
        · cases fl <;> simp [sh_forLive hf a n]
theorem sh_compItems {f f' : W → List W → LH → Option (List W × LH)} (hf : ∀ x acc h, f' (sh X.length x) (shs X.length acc) (shT X h) = (f x acc h).map (shP X)) : ∀ (ws acc : List W) (h : LH), compItems f' (shs X.length ws) (shs X.length acc) (shT X h) = (compItems f ws acc h).map (shP X)
  | [], acc, h => rfl
  | w :: ws, acc, h => by
    simp only [shs_cons, compItems, hf]
    rcases f w acc h with _ | ⟨acc', h'⟩
    · rfl
    · simp [sh_compItems hf ws]
theorem sh_compLive {f f' : W → List W → LH → Option (List W × LH)} (hf : ∀ x acc h, f' (sh X.length x) (shs X.length acc) (shT X h) = (f x acc h).map (shP X)) (a : Nat) : ∀ (n i : Nat) (acc : List W) (h : LH), compLive f' (X.length + a) n i (shs X.length acc) (shT X h) = (compLive f a n i acc h).map (shP X)
  | 0, i, acc, h => rfl
  | n + 1, i, acc, h => by
    unfold compLive
    rw [shT_get]
    cases h[a]? with
    | none => rfl
    | some ws =>
      simp only [Option.map_some, shs_get]
      cases ws[i]? with
      | none => rfl
      | some x =>
        simp only [Option.map_some, hf]
        rcases f x acc h with _ | ⟨acc', h'⟩
        · rfl
        · simp [sh_compLive hf a n]
theorem sh_while {c c' : Env → LH → Option (Bool × LH)} {f f' : Env → LH → Option (Fl × Env × LH)} (hc : ∀ ρ h, c' (shE X.length ρ) (shT X h) = (c ρ h).map (fun p => (p.1, shT X p.2))) (hf : ∀ ρ h, f' (shE X.length ρ) (shT X h) = (f ρ h).map (shS X)) : ∀ (n : Nat) (ρ : Env) (h : LH), whileF c' f' n (shE X.length ρ) (shT X h) = (whileF c f n ρ h).map (shS X)
  | 0, ρ, h => rfl
  | n + 1, ρ, h => by
    unfold whileF
    rw [hc]
    rcases c ρ h with _ | ⟨b, h1⟩
    · rfl
    · cases b
      · simp
      · simp only [Option.map_some, hf]
        rcases f ρ h1 with _ | ⟨fl, ρ', h'⟩
        · rfl
        · cases fl <;> simp [sh_while hc hf n]
theorem sh_range (n : Nat) (lo hi : Int) : shs n (range lo hi) = range lo hi := by simp [shs, range]
theorem sh_srcOf (h : LH) (w : W) : srcOf (shT X h) (sh X.length w) = (srcOf h w).map (shC X.length) := by
  rcases w with d | a
  · cases d <;> simp [srcOf, shC]
  · simp; cases h[a]? <;> simp [shC]
theorem sh_forSrc {f f' : W → Env → LH → Option (Fl × Env × LH)} (hf : ∀ x ρ h, f' (sh X.length x) (shE X.length ρ) (shT X h) = (f x ρ h).map (shS X)) (s : Src) (ρ : Env) (h : LH) : forSrc f' (shC X.length s) (shE X.length ρ) (shT X h) = (forSrc f s ρ h).map (shS X) := by
  cases s with
  | its ws => exact sh_forItems hf ws ρ h
  | live a n => exact sh_forLive hf a _ _ ρ h
theorem sh_compSrc {f f' : W → List W → LH → Option (List W × LH)} (hf : ∀ x acc h, f' (sh X.length x) (shs X.length acc) (shT X h) = (f x acc h).map (shP X)) (s : Src) (acc : List W) (h : LH) : compSrc f' (shC X.length s) (shs X.length acc) (shT X h) = (compSrc f s acc h).map (shP X) := by
  cases s with
  | its ws => exact sh_compItems hf ws acc h
  | live a n => exact sh_compLive hf a _ _ acc h
theorem sh_turn {tg : Tg} {ρ : Env} {c c' : Env → LH → Option (Bool × LH)} {e e' : Env → LH → Option (W × LH)} (hc : ∀ ρ h, c' (shE X.length ρ) (shT X h) = (c ρ h).map (fun p => (p.1, shT X p.2))) (he : ∀ ρ h, e' (shE X.length ρ) (shT X h) = (e ρ h).map (shR X)) (x : W) (acc : List W) (h : LH) : turn tg (shE X.length ρ) c' e' (sh X.length x) (shs X.length acc) (shT X h) = (turn tg ρ c e x acc h).map (shP X) := by
  unfold turn
  rw [sh_wipe, sh_setT]
  cases setT tg x (wipe ρ tg.slots) with
  | none => rfl
  | some ρ' =>
    simp only [Option.map_some, hc]
    rcases c ρ' h with _ | ⟨b, h1⟩
    · rfl
    · cases b
      · simp
      · simp only [Option.map_some, he]
        rcases e ρ' h1 with _ | ⟨w, h2⟩
        · rfl
        · simp only [Option.map_some, shR_mk, shs_len]; split <;> simp
theorem sh_asB {r r' : Option (W × LH)} (e : r' = r.map (shR X)) : asB r' = (asB r).map (fun p => (p.1, shT X p.2)) := by
  subst e
  rcases r with _ | ⟨w, h⟩
  · rfl
  · rcases w with d | a
    · cases d <;> rfl
    · rfl
def mkC : Option (List W × LH) → Option (W × LH)
  | some (acc, h2) => some (.l h2.length, h2 ++ [acc])
  | none => none
theorem sh_mk (z z' : Option (List W × LH)) (q : z = z'.map (shP X)) : mkC z = Option.map (shR X) (mkC z') := by
  subst q
  rcases z' with _ | ⟨acc, h2⟩ <;> simp [mkC]
/-- contexts whose calls do the same -/
structure ShC (X : LH) (C : Ctx) : Prop where
  cl : ∀ f ws h, C.cl f (shs X.length ws) (shT X h) = (C.cl f ws h).map (shR X)
variable {C : Ctx}
mutual
theorem sh_ev (c : ShC X C) : ∀ (e : E) (ρ : Env) (h : LH), ev C e (shE X.length ρ) (shT X h) = (ev C e ρ h).map (shR X)
  | .var i, ρ, h => by simp only [ev_var, shE_get]; cases ρ[i]? with
    | none => rfl
    | some o => cases o <;> simp
  | .c x, ρ, h => by simp
  | .glob g, ρ, h => by simp only [ev_glob]; cases C.G g <;> simp
  | .tup es, ρ, h => by
    simp only [ev]; rw [sh_evs c es]; rcases evs C es ρ h with _ | ⟨ws, h1⟩
    · rfl
    · simpa using sh_mkT h1 ws
  | .lst es, ρ, h => by
    simp only [ev]; rw [sh_evs c es]; rcases evs C es ρ h with _ | ⟨ws, h1⟩
    · rfl
    · simpa using sh_new h1 ws
  | .bin op x y, ρ, h => by
    simp only [ev]; rw [sh_ev c x]; rcases ev C x ρ h with _ | ⟨u, h1⟩
    · rfl
    · simp only [Option.map_some, shR_mk]; rw [sh_ev c y]; rcases ev C y ρ h1 with _ | ⟨w, h2⟩
      · rfl
      · exact sh_binop h2 op u w
  | .neg x, ρ, h => by
    simp only [ev]; rw [sh_ev c x]; rcases ev C x ρ h with _ | ⟨u, h1⟩
    · rfl
    · rcases u with d | a
      · cases d <;> rfl
      · rfl
  | .not x, ρ, h => by
    simp only [ev]; rw [sh_ev c x]; rcases ev C x ρ h with _ | ⟨u, h1⟩
    · rfl
    · rcases u with d | a
      · cases d <;> rfl
      · rfl
  | .cmp op x y, ρ, h => by
    simp only [ev]; rw [sh_ev c x]; rcases ev C x ρ h with _ | ⟨u, h1⟩
    · rfl
    · simp only [Option.map_some, shR_mk]; rw [sh_ev c y]; rcases ev C y ρ h1 with _ | ⟨w, h2⟩
      · rfl
      · simp only [Option.map_some, shR_mk, sh_cmpop]; cases cmpop h2 op u w <;> rfl
  | .chain o1 o2 x y z, ρ, h => by
    simp only [ev]; rw [sh_ev c x]; rcases ev C x ρ h with _ | ⟨u, h1⟩
    · rfl
    · simp only [Option.map_some, shR_mk]; rw [sh_ev c y]; rcases ev C y ρ h1 with _ | ⟨w, h2⟩
      · rfl
      · simp only [Option.map_some, shR_mk, sh_cmpop]; cases cmpop h2 o1 u w with
        | none => rfl
        | some b => cases b with
          | false => rfl
          | true =>
            simp only
            rw [sh_ev c z]; rcases ev C z ρ h2 with _ | ⟨v, h3⟩
            · rfl
            · simp only [Option.map_some, shR_mk, sh_cmpop]; cases cmpop h3 o2 w v <;> rfl
  | .isN x, ρ, h => by simp only [z_ev_isN]; rw [sh_ev c x]; rcases ev C x ρ h with _ | ⟨u, h1⟩ <;> simp
  | .isNN x, ρ, h => by simp only [z_ev_isNN]; rw [sh_ev c x]; rcases ev C x ρ h with _ | ⟨u, h1⟩ <;> simp
  | .and x y, ρ, h => by
    simp only [ev]; rw [sh_ev c x]; rcases ev C x ρ h with _ | ⟨u, h1⟩
    · rfl
    · rcases u with d | a
      · cases d <;> first | rfl | (rename_i b; cases b <;> first | rfl | exact sh_ev c y ρ h1)
      · rfl
  | .or x y, ρ, h => by
    simp only [ev]; rw [sh_ev c x]; rcases ev C x ρ h with _ | ⟨u, h1⟩
    · rfl
    · rcases u with d | a
      · cases d <;> first | rfl | (rename_i b; cases b <;> first | rfl | exact sh_ev c y ρ h1)
      · rfl
  | .ite b x y, ρ, h => by
    simp only [ev]; rw [sh_ev c b]; rcases ev C b ρ h with _ | ⟨u, h1⟩
    · rfl
    · rcases u with d | a
      · cases d <;> first | rfl | (rename_i b; cases b <;> first | exact sh_ev c y ρ h1 | exact sh_ev c x ρ h1)
      · rfl
  | .ix x y, ρ, h => by
    simp only [ev]; rw [sh_ev c x]; rcases ev C x ρ h with _ | ⟨u, h1⟩
    · rfl
    · simp only [Option.map_some, shR_mk]; rw [sh_ev c y]; rcases ev C y ρ h1 with _ | ⟨w, h2⟩
      · rfl
      · exact sh_index h2 u w
  | .dix g y, ρ, h => by
    simp only [ev]; rw [sh_ev c y]; rcases ev C y ρ h with _ | ⟨u, h1⟩
    · rfl
    · rcases u with d | a
      · cases d <;> first | rfl | skip
        simp only [Option.map_some, shR_mk, sh_d]; cases C.T g _ <;> rfl
      · rfl
  | .sl x lo hi, ρ, h => by
    simp only [ev]; rw [sh_ev c x]; rcases ev C x ρ h with _ | ⟨u, h1⟩
    · rfl
    · simp only [Option.map_some, shR_mk]; rw [sh_evo c lo]; rcases evo C lo ρ h1 with _ | ⟨a, h2⟩
      · rfl
      · simp only [Option.map_some]; rw [sh_evo c hi]; rcases evo C hi ρ h2 with _ | ⟨z, h3⟩
        · rfl
        · exact sh_slice h3 u a z
  | .rev x, ρ, h => by
    simp only [ev]; rw [sh_ev c x]; rcases ev C x ρ h with _ | ⟨u, h1⟩
    · rfl
    · exact sh_revW h1 u
  | .call f es, ρ, h => by
    simp only [ev]; rw [sh_evs c es]; rcases evs C es ρ h with _ | ⟨ws, h1⟩
    · rfl
    · exact c.cl f ws h1
  | .bi f es, ρ, h => by
    simp only [ev]; rw [sh_evs c es]; rcases evs C es ρ h with _ | ⟨ws, h1⟩
    · rfl
    · exact sh_builtin h1 f ws
  | .meth m x es, ρ, h => by
    simp only [ev]; rw [sh_ev c x]; rcases ev C x ρ h with _ | ⟨u, h1⟩
    · rfl
    · simp only [Option.map_some, shR_mk]; rw [sh_evs c es]; rcases evs C es ρ h1 with _ | ⟨ws, h2⟩
      · rfl
      · exact sh_method h2 m u ws
  | .comp elt tg it b, ρ, h => by
    simp only [ev]; rw [sh_evi c it]; rcases evi C it ρ h with _ | ⟨s, h1⟩
    · rfl
    · simp only [Option.map_some]
      have q := sh_compSrc (f := turn tg ρ (evc C b) (ev C elt)) (sh_turn (sh_evc c b) (sh_ev c elt)) s [] h1
      rw [shs_nil] at q
      rw [q]
      rcases compSrc (turn tg ρ (evc C b) (ev C elt)) s [] h1 with _ | ⟨acc, h2⟩ <;> simp
  | .comp2 elt tg it tg1 it1 b, ρ, h => by
    simp only [ev]; rw [sh_evi c it]; rcases evi C it ρ h with _ | ⟨s, h1⟩
    · rfl
    · simp only [Option.map_some]
      have q := sh_compSrc (f := fun x acc h => match setT tg x (wipe ρ (tg.slots ++ tg1.slots)) with
        | none => none
        | some ρ' => match evi C it1 ρ' h with
          | some (src1, h1) => compSrc (turn tg1 ρ' (evc C b) (ev C elt)) src1 acc h1
          | none => none) (f' := fun x acc h => match setT tg x (wipe (shE X.length ρ) (tg.slots ++ tg1.slots)) with
        | none => none
        | some ρ' => match evi C it1 ρ' h with
          | some (src1, h1) => compSrc (turn tg1 ρ' (evc C b) (ev C elt)) src1 acc h1
          | none => none) (fun x acc h => by
        rw [sh_wipe, sh_setT]
        cases setT tg x (wipe ρ (tg.slots ++ tg1.slots)) with
        | none => rfl
        | some ρ' =>
          simp only [Option.map_some]
          rw [sh_evi c it1]; rcases evi C it1 ρ' h with _ | ⟨s1, h1⟩
          · rfl
          · exact sh_compSrc (sh_turn (sh_evc c b) (sh_ev c elt)) s1 acc h1) s [] h1
      exact sh_mk _ _ q
  | .ofIt t it, ρ, h => by
    simp only [ev]; rw [sh_evi c it]; rcases evi C it ρ h with _ | ⟨s, h1⟩
    · rfl
    · cases s with
      | its ws => cases t
                  · simp only [Option.map_some, shC, ofSrc_l, shs_len]; split
                    · exact sh_new h1 ws
                    · rfl
                  · simp only [Option.map_some, shC, ofSrc_t, shs_len]; split
                    · exact sh_mkT h1 ws
                    · rfl
      | live a n => rfl
theorem sh_evs (c : ShC X C) : ∀ (es : List E) (ρ : Env) (h : LH), evs C es (shE X.length ρ) (shT X h) = (evs C es ρ h).map (shP X)
  | [], ρ, h => by simp
  | e :: es, ρ, h => by
    simp only [evs]; rw [sh_ev c e]; rcases ev C e ρ h with _ | ⟨w, h1⟩
    · rfl
    · simp only [Option.map_some, shR_mk]; rw [sh_evs c es]; rcases evs C es ρ h1 with _ | ⟨ws, h2⟩ <;> simp
theorem sh_evo (c : ShC X C) : ∀ (o : Option E) (ρ : Env) (h : LH), evo C o (shE X.length ρ) (shT X h) = (evo C o ρ h).map (fun p => (p.1, shT X p.2))
  | none, ρ, h => by simp
  | some e, ρ, h => by
    simp only [evo]; rw [sh_ev c e]; rcases ev C e ρ h with _ | ⟨w, h1⟩
    · rfl
    · rcases w with d | a
      · cases d <;> rfl
      · rfl
theorem sh_evc (c : ShC X C) : ∀ (o : Option E) (ρ : Env) (h : LH), evc C o (shE X.length ρ) (shT X h) = (evc C o ρ h).map (fun p => (p.1, shT X p.2))
  | none, ρ, h => by simp
  | some e, ρ, h => by simp only [evc]; exact sh_asB (sh_ev c e ρ h)
theorem sh_evi (c : ShC X C) : ∀ (it : It) (ρ : Env) (h : LH), evi C it (shE X.length ρ) (shT X h) = (evi C it ρ h).map (fun p => (shC X.length p.1, shT X p.2))
  | .r1 x, ρ, h => by
    simp only [evi]; rw [sh_ev c x]; rcases ev C x ρ h with _ | ⟨w, h1⟩
    · rfl
    · rcases w with d | a
      · cases d <;> first | rfl | skip
        simp only [Option.map_some, shR_mk, sh_d]; split <;> simp [shC, sh_range]
      · rfl
  | .r2 x y, ρ, h => by
    simp only [evi]; rw [sh_ev c x]; rcases ev C x ρ h with _ | ⟨w, h1⟩
    · rfl
    · rcases w with d | a
      · cases d <;> first | rfl | skip
        simp only [Option.map_some, shR_mk, sh_d]
        rw [sh_ev c y]; rcases ev C y ρ h1 with _ | ⟨w, h2⟩
        · rfl
        · rcases w with d | a
          · cases d <;> first | rfl | skip
            simp only [Option.map_some, shR_mk, sh_d]; split <;> simp [shC, sh_range]
          · rfl
      · rfl
  | .sq x, ρ, h => by
    simp only [evi]; rw [sh_ev c x]; rcases ev C x ρ h with _ | ⟨w, h1⟩
    · rfl
    · simp only [Option.map_some, shR_mk, sh_srcOf]; cases srcOf h1 w <;> rfl
end
mutual
theorem sh_exec (c : ShC X C) : ∀ (s : S) (ρ : Env) (h : LH), exec C s (shE X.length ρ) (shT X h) = (exec C s ρ h).map (shS X)
  | .asg tg e, ρ, h => by
    simp only [exec]; rw [sh_ev c e]; rcases ev C e ρ h with _ | ⟨w, h1⟩
    · rfl
    · simp only [Option.map_some, shR_mk, sh_setT]; cases setT tg w ρ <;> rfl
  | .par i j x y, ρ, h => by
    simp only [exec]; rw [sh_ev c x]; rcases ev C x ρ h with _ | ⟨u, h1⟩
    · rfl
    · simp only [Option.map_some, shR_mk]; rw [sh_ev c y]; rcases ev C y ρ h1 with _ | ⟨w, h2⟩ <;> simp
  | .par3 i j l x y z, ρ, h => by
    simp only [exec]; rw [sh_ev c x]; rcases ev C x ρ h with _ | ⟨u, h1⟩
    · rfl
    · simp only [Option.map_some, shR_mk]; rw [sh_ev c y]; rcases ev C y ρ h1 with _ | ⟨w, h2⟩
      · rfl
      · simp only [Option.map_some, shR_mk]; rw [sh_ev c z]; rcases ev C z ρ h2 with _ | ⟨v, h3⟩ <;> simp
  | .setix o i e, ρ, h => by
    simp only [exec]; rw [sh_ev c e]; rcases ev C e ρ h with _ | ⟨w, h1⟩
    · rfl
    · simp only [Option.map_some, shR_mk]; rw [sh_ev c o]; rcases ev C o ρ h1 with _ | ⟨u, h2⟩
      · rfl
      · simp only [Option.map_some, shR_mk]; rw [sh_ev c i]; rcases ev C i ρ h2 with _ | ⟨k, h3⟩
        · rfl
        · simp only [Option.map_some, shR_mk, sh_setAt]; cases setAt h3 u k w <;> rfl
  | .aug op i e, ρ, h => by
    simp only [exec, shE_get]; cases ρ[i]? with
    | none => rfl
    | some o => cases o with
      | none => rfl
      | some u =>
        simp only [Option.map_some]
        rw [sh_ev c e]; rcases ev C e ρ h with _ | ⟨w, h1⟩
        · rfl
        · simp only [Option.map_some, shR_mk, sh_augop]; rcases augop h1 op u w with _ | ⟨v, h2⟩ <;> simp
  | .ife b x y, ρ, h => by
    simp only [exec]; rw [sh_ev c b]; rcases ev C b ρ h with _ | ⟨u, h1⟩
    · rfl
    · rcases u with d | a
      · cases d <;> first | rfl | (rename_i b; cases b <;> first | exact sh_execs c y ρ h1 | exact sh_execs c x ρ h1)
      · rfl
  | .for tg it body, ρ, h => by
    simp only [exec]; rw [sh_evi c it]; rcases evi C it ρ h with _ | ⟨s, h1⟩
    · rfl
    · simp only [Option.map_some]
      exact sh_forSrc (fun x ρ h => by rw [sh_setT]; cases setT tg x ρ <;> first | rfl | exact sh_execs c body _ h) s ρ h1
  | .whl b body, ρ, h => by
    simp only [exec]
    exact sh_while (fun ρ h => sh_asB (sh_ev c b ρ h)) (sh_execs c body) C.wf ρ h
  | .ret e, ρ, h => by simp only [exec]; rw [sh_ev c e]; rcases ev C e ρ h with _ | ⟨w, h1⟩ <;> simp
  | .retN, ρ, h => by simp [exec]
  | .ex e, ρ, h => by simp only [exec]; rw [sh_ev c e]; rcases ev C e ρ h with _ | ⟨w, h1⟩ <;> simp
  | .brk, ρ, h => by simp [exec]
  | .cnt, ρ, h => by simp [exec]
  | .pass, ρ, h => by simp [exec]
  | .doc, ρ, h => by simp [exec]
  | .never, ρ, h => by simp [exec]
theorem sh_execs (c : ShC X C) : ∀ (ss : List S) (ρ : Env) (h : LH), execs C ss (shE X.length ρ) (shT X h) = (execs C ss ρ h).map (shS X)
  | [], ρ, h => by simp
  | s :: r, ρ, h => by
    simp only [execs]; rw [sh_exec c s]; rcases exec C s ρ h with _ | ⟨fl, ρ', h'⟩
    · rfl
    · cases fl <;> simp [sh_execs c r]
end
theorem sh_fin (n : Nat) (w : W) (h : LH) : fin (X.length + n) (sh X.length w) (shT X h) = (fin n w h).map (shR X) := by
  rcases w with d | a
  · simp [fin]
  · simp only [fin, sh_l]
    by_cases hn : a < n
    · rw [if_pos hn, if_pos (by omega)]; simp
    · rw [if_neg hn, if_neg (by omega), shT_get]
      cases h[a]? with
      | none => rfl
      | some ws =>
        simp only [Option.map_some, sh_allD]
        cases allD ws <;> simp
theorem sh_call (P : Prog) : ∀ (k f : Nat) (ws : List W) (h : LH), call P k f (shs X.length ws) (shT X h) = (call P k f ws h).map (shR X)
  | 0, f, ws, h => rfl
  | k + 1, f, ws, h => by
    unfold call
    cases P.F f with
    | none => rfl
    | some d =>
      simp only [shs_len]
      split
      · have hρ : (shs X.length ws).map some ++ List.replicate (d.ns - d.np) none = shE X.length (ws.map some ++ List.replicate (d.ns - d.np) none) := by simp [shE, shs]
        rw [hρ, sh_execs ⟨fun f ws h => sh_call P k f ws h⟩]
        rcases execs ⟨P.G, P.T, call P k, P.wf⟩ d.body (ws.map some ++ List.replicate (d.ns - d.np) none) h with _ | ⟨fl, ρ', h'⟩
        · rfl
        · cases fl
          · simp only [Option.map_some, shS_mk, shF_nxt, shT_len]; exact sh_fin h.length (.d .none) h'
          · rfl
          · rfl
          · simp only [Option.map_some, shS_mk, shF_ret, shT_len]; exact sh_fin h.length _ h'
      · rfl
end
/-- a call given data, run over the empty heap, does the same over every heap -/
theorem closed {P : Prog} {k f : Nat} {xs : List D} {r : D} (e : call P k f (xs.map .d) [] = some (.d r, [])) (h : LH) : call P k f (xs.map .d) h = some (.d r, h) := by
  have := sh_call (X := h) P k f (xs.map .d) []
  rw [shs_d, shT_nil, e] at this
  simpa using this
end J
namespace J
mutual
def bqD : D → D → Bool
  | .none, .none => true
  | .b a, .b c => a == c
  | .i k, .i j => k == j
  | .s x, .s y => x == y
  | .t xs, .t ys => bqL xs ys
  | .fl xs, .fl ys => bqL xs ys
  | _, _ => false
def bqL : List D → List D → Bool
  | [], [] => true
  | x :: xs, y :: ys => bqD x y && bqL xs ys
  | _, _ => false
end
mutual
theorem bqD_eq : ∀ (x y : D), bqD x y = true → x = y
  | .none, .none, _ => rfl
  | .b a, .b c, h => by simp [bqD] at h; rw [h]
  | .i a, .i c, h => by simp [bqD] at h; rw [h]
  | .s a, .s c, h => by simp [bqD] at h; rw [h]
  | .t a, .t c, h => by simp [bqD] at h; rw [bqL_eq a c h]
  | .fl a, .fl c, h => by simp [bqD] at h; rw [bqL_eq a c h]
  | .none, .b _, h | .none, .i _, h | .none, .s _, h | .none, .t _, h | .none, .fl _, h => by simp [bqD] at h
  | .b _, .none, h | .b _, .i _, h | .b _, .s _, h | .b _, .t _, h | .b _, .fl _, h => by simp [bqD] at h
  | .i _, .none, h | .i _, .b _, h | .i _, .s _, h | .i _, .t _, h | .i _, .fl _, h => by simp [bqD] at h
  | .s _, .none, h | .s _, .b _, h | .s _, .i _, h | .s _, .t _, h | .s _, .fl _, h => by simp [bqD] at h
  | .t _, .none, h | .t _, .b _, h | .t _, .i _, h | .t _, .s _, h | .t _, .fl _, h => by simp [bqD] at h
  | .fl _, .none, h | .fl _, .b _, h | .fl _, .i _, h | .fl _, .s _, h | .fl _, .t _, h => by simp [bqD] at h
theorem bqL_eq : ∀ (x y : List D), bqL x y = true → x = y
  | [], [], _ => rfl
  | a :: x, c :: y, h => by
    simp [bqL] at h; rw [bqD_eq a c h.1, bqL_eq x y h.2]
  | [], _ :: _, h => by simp [bqL] at h
  | _ :: _, [], h => by simp [bqL] at h
end
/-- a call of data ends with r -/
def endsB (r : D) : Option (W × LH) → Bool
  | some (.d x, []) => bqD x r
  | _ => false
theorem endsB_eq {r : D} {z : Option (W × LH)} (h : endsB r z = true) : z = some (.d r, []) := by
  unfold endsB at h
  split at h
  · rw [bqD_eq _ _ h]
  · cases h
theorem closedB {P : Prog} {k f : Nat} {xs : List D} (r : D) (e : endsB r (call P k f (xs.map .d) []) = true) (h : LH) : call P k f (xs.map .d) h = some (.d r, h) := closed (endsB_eq e) h
end J
set_option maxRecDepth 100000
namespace J
abbrev f_addresses_in : Nat := 303
abbrev f_all_orders : Nat := 347
abbrev f_all_within : Nat := 21
abbrev f_answer_of : Nat := 38
abbrev f_applied : Nat := 18
abbrev f_are_variables_there : Nat := 297
abbrev f_arguments_of : Nat := 20
abbrev f_arity : Nat := 1
abbrev f_asked_by : Nat := 26
abbrev f_asking_block : Nat := 203
abbrev f_assignments_of : Nat := 31
abbrev f_assigns_code : Nat := 300
abbrev f_block_addresses : Nat := 334
abbrev f_block_behind : Nat := 39
abbrev f_book_of : Nat := 336
abbrev f_check_code : Nat := 298
abbrev f_check_program : Nat := 30
abbrev f_code_heights : Nat := 315
abbrev f_code_in : Nat := 304
abbrev f_code_of : Nat := 299
abbrev f_code_of_block : Nat := 302
abbrev f_combine : Nat := 11
abbrev f_compare : Nat := 10
abbrev f_fewest_jumps : Nat := 348
abbrev f_first_state : Nat := 214
abbrev f_first_way : Nat := 344
abbrev f_follows_in : Nat := 341
abbrev f_found_from : Nat := 238
abbrev f_goes_by : Nat := 308
abbrev f_goes_on_to : Nat := 295
abbrev f_goes_to : Nat := 25
abbrev f_gone_through : Nat := 291
abbrev f_heights_or_none : Nat := 296
abbrev f_is_block_for : Nat := 28
abbrev f_is_expression_code : Nat := 13
abbrev f_is_expression_for : Nat := 27
abbrev f_is_fixed : Nat := 14
abbrev f_is_known_by : Nat := 22
abbrev f_is_program : Nat := 29
abbrev f_is_right : Nat := 213
abbrev f_item_of : Nat := 4
abbrev f_items_of : Nat := 2
abbrev f_jump_code_v1 : Nat := 34
abbrev f_jump_steps : Nat := 311
abbrev f_jump_to : Nat := 301
abbrev f_jumps_by : Nat := 346
abbrev f_jumps_in : Nat := 343
abbrev f_laid_out : Nat := 342
abbrev f_laid_steps : Nat := 349
abbrev f_last_block : Nat := 202
abbrev f_law_apply : Nat := 157
abbrev f_law_are_blocks_met : Nat := 340
abbrev f_law_arities : Nat := 147
abbrev f_law_arity : Nat := 316
abbrev f_law_block_code : Nat := 322
abbrev f_law_build : Nat := 224
abbrev f_law_cell : Nat := 145
abbrev f_law_code_of : Nat := 321
abbrev f_law_draws : Nat := 143
abbrev f_law_effect : Nat := 318
abbrev f_law_fall : Nat := 223
abbrev f_law_goes_on : Nat := 317
abbrev f_law_greatest : Nat := 221
abbrev f_law_heights : Nat := 319
abbrev f_law_is_code : Nat := 153
abbrev f_law_is_fixed : Nat := 154
abbrev f_law_is_laid : Nat := 351
abbrev f_law_is_run : Nat := 235
abbrev f_law_is_run_v1 : Nat := 236
abbrev f_law_is_run_v2 : Nat := 237
abbrev f_law_is_target : Nat := 339
abbrev f_law_is_told : Nat := 232
abbrev f_law_item : Nat := 149
abbrev f_law_jumps : Nat := 353
abbrev f_law_known : Nat := 220
abbrev f_law_known_part : Nat := 166
abbrev f_law_laid : Nat := 323
abbrev f_law_less_code : Nat := 156
abbrev f_law_names : Nat := 146
abbrev f_law_of_one : Nat := 150
abbrev f_law_of_three : Nat := 152
abbrev f_law_of_two : Nat := 151
abbrev f_law_order : Nat := 350
abbrev f_law_orders : Nat := 352
abbrev f_law_program : Nat := 225
abbrev f_law_renamed : Nat := 227
abbrev f_law_row : Nat := 148
abbrev f_law_run : Nat := 160
abbrev f_law_same : Nat := 161
abbrev f_law_simple : Nat := 222
abbrev f_law_step : Nat := 159
abbrev f_law_store : Nat := 226
abbrev f_law_store_steps : Nat := 338
abbrev f_law_take : Nat := 144
abbrev f_law_thing : Nat := 218
abbrev f_law_told : Nat := 155
abbrev f_law_tricked : Nat := 228
abbrev f_law_unassigned : Nat := 229
abbrev f_law_unlike_things : Nat := 230
abbrev f_law_v1 : Nat := 177
abbrev f_law_v6 : Nat := 182
abbrev f_law_v7 : Nat := 183
abbrev f_law_variables : Nat := 219
abbrev f_law_with : Nat := 231
abbrev f_law_worth : Nat := 158
abbrev f_lessened_by : Nat := 16
abbrev f_line_of : Nat := 335
abbrev f_look : Nat := 8
abbrev f_mixing : Nat := 212
abbrev f_moved_block : Nat := 207
abbrev f_moved_jump : Nat := 206
abbrev f_needs_jump : Nat := 345
abbrev f_next_state : Nat := 216
abbrev f_none_follow : Nat := 305
abbrev f_number_of : Nat := 3
abbrev f_own_order : Nat := 306
abbrev f_pile_behind : Nat := 309
abbrev f_place_of : Nat := 6
abbrev f_put_in : Nat := 201
abbrev f_reached : Nat := 332
abbrev f_reflect : Nat := 17
abbrev f_run : Nat := 217
abbrev f_run_code : Nat := 310
abbrev f_states_of : Nat := 290
abbrev f_steps_in : Nat := 312
abbrev f_store_behind : Nat := 215
abbrev f_takes : Nat := 294
abbrev f_target_of : Nat := 307
abbrev f_target_steps : Nat := 313
abbrev f_telling_block : Nat := 204
abbrev f_told_by : Nat := 15
abbrev f_tricked : Nat := 208
abbrev f_tricked_division : Nat := 209
abbrev f_tricked_known : Nat := 210
abbrev f_tricked_store : Nat := 211
abbrev f_way_of : Nat := 333
abbrev f_with_item : Nat := 5
abbrev f_with_other : Nat := 205
abbrev f_with_thing : Nat := 37
abbrev f_works_in : Nat := 337
abbrev f_worth : Nat := 19
def b_arity : Def := ⟨1, 1, [.ret (.dix 1 (.var 0))]⟩
def b_items_of : Def := ⟨1, 1, [.ret (.ite (.bi .isInt [.var 0]) (.tup []) (.var 0))]⟩
def b_number_of : Def := ⟨1, 1, [.ret (.ite (.bi .isInt [.var 0]) (.var 0) (.c (.i 0)))]⟩
def b_item_of : Def := ⟨2, 2, [.ife (.and (.bi .isInt [.var 0]) (.and (.not (.bi .isInt [.var 1])) (.chain .le .lt (.c (.i 0)) (.var 0) (.bi .len [.var 1])))) [.ret (.ix (.var 1) (.var 0))] [], .ret (.c (.i 0))]⟩
def b_with_item : Def := ⟨3, 3, [.ife (.and (.bi .isInt [.var 0]) (.and (.not (.bi .isInt [.var 1])) (.chain .le .lt (.c (.i 0)) (.var 0) (.bi .len [.var 1])))) [.ret (.bin .add (.bin .add (.sl (.var 1) .none (.some (.var 0))) (.tup [.var 2])) (.sl (.var 1) (.some (.bin .add (.var 0) (.c (.i 1)))) .none))] [], .ret (.var 1)]⟩
def l0_place_of : List S := [.ife (.cmp .eq (.ix (.var 1) (.var 2)) (.var 0)) [.ret (.var 2)] []]
def b_place_of : Def := ⟨2, 3, [.asg (.n 1) (.call f_items_of [.var 1]), .for (.n 2) (.r1 (.bi .len [.var 1])) l0_place_of, .ret (.neg (.c (.i 1)))]⟩
def b_look : Def := ⟨2, 3, [.asg (.n 2) (.call f_items_of [.var 1]), .ife (.cmp .eq (.var 0) (.c (.s "first"))) [.ret (.ite (.cmp .gt (.bi .len [.var 2]) (.c (.i 0))) (.ix (.var 2) (.c (.i 0))) (.c (.i 0)))] [], .ife (.cmp .eq (.var 0) (.c (.s "rest"))) [.ret (.sl (.var 2) (.some (.c (.i 1))) .none)] [], .ife (.cmp .eq (.var 0) (.c (.s "length"))) [.ret (.bi .len [.var 2])] [], .ife (.cmp .eq (.var 0) (.c (.s "some"))) [.ret (.ite (.cmp .gt (.bi .len [.var 2]) (.c (.i 0))) (.c (.i 1)) (.c (.i 0)))] [], .ret (.ite (.bi .isInt [.var 1]) (.c (.i 0)) (.c (.i 1)))]⟩
def b_compare : Def := ⟨3, 3, [.ife (.cmp .eq (.var 0) (.c (.s "same"))) [.ret (.ite (.cmp .eq (.var 1) (.var 2)) (.c (.i 1)) (.c (.i 0)))] [], .ret (.ite (.and (.bi .isInt [.var 1]) (.and (.bi .isInt [.var 2]) (.cmp .lt (.var 1) (.var 2)))) (.c (.i 1)) (.c (.i 0)))]⟩
def b_combine : Def := ⟨3, 3, [.ife (.cmp .eq (.var 0) (.c (.s "join"))) [.ret (.bin .add (.tup [.var 1]) (.call f_items_of [.var 2]))] [], .ife (.cmp .eq (.var 0) (.c (.s "more"))) [.ret (.bin .add (.call f_items_of [.var 2]) (.tup [.var 1]))] [], .ife (.cmp .eq (.var 0) (.c (.s "item"))) [.ret (.call f_item_of [.var 1, .var 2])] [], .ife (.cmp .eq (.var 0) (.c (.s "place"))) [.ret (.call f_place_of [.var 1, .var 2])] [], .ife (.cmp .eq (.var 0) (.c (.s "plus"))) [.ret (.bin .add (.call f_number_of [.var 1]) (.call f_number_of [.var 2]))] [], .ife (.cmp .eq (.var 0) (.c (.s "minus"))) [.ret (.bin .sub (.call f_number_of [.var 1]) (.call f_number_of [.var 2]))] [], .ret (.call f_compare [.var 0, .var 1, .var 2])]⟩
def l0_is_expression_code : List S := [.ife (.not (.call f_is_expression_code [.var 2])) [.ret (.c (.b false))] []]
def b_is_expression_code : Def := ⟨1, 3, [.ife (.or (.bi .isInt [.var 0]) (.or (.cmp .eq (.bi .len [.var 0]) (.c (.i 0))) (.not (.bi .isInt [.ix (.var 0) (.c (.i 0))])))) [.ret (.c (.b false))] [], .asg (.n 1) (.ix (.var 0) (.c (.i 0))), .ife (.cmp .eq (.var 1) (.c (.i 0))) [.ret (.cmp .eq (.bi .len [.var 0]) (.c (.i 2)))] [], .ife (.cmp .eq (.var 1) (.c (.i 1))) [.ret (.and (.cmp .eq (.bi .len [.var 0]) (.c (.i 2))) (.and (.bi .isInt [.ix (.var 0) (.c (.i 1))]) (.cmp .ge (.ix (.var 0) (.c (.i 1))) (.c (.i 0)))))] [], .ife (.or (.cmp .lt (.var 1) (.c (.i 2))) (.or (.cmp .ge (.var 1) (.bin .add (.c (.i 2)) (.bi .len [.glob 0]))) (.cmp .ne (.bi .len [.var 0]) (.bin .add (.c (.i 1)) (.dix 1 (.ix (.glob 0) (.bin .sub (.var 1) (.c (.i 2))))))))) [.ret (.c (.b false))] [], .for (.n 2) (.sq (.sl (.var 0) (.some (.c (.i 1))) .none)) l0_is_expression_code, .ret (.c (.b true))]⟩
def l0_is_fixed : List S := [.ife (.not (.call f_is_fixed [.var 2, .var 1])) [.ret (.c (.b false))] []]
def b_is_fixed : Def := ⟨2, 3, [.ife (.cmp .eq (.ix (.var 0) (.c (.i 0))) (.c (.i 0))) [.ret (.c (.b true))] [], .ife (.cmp .eq (.ix (.var 0) (.c (.i 0))) (.c (.i 1))) [.ret (.cmp .ne (.call f_item_of [.ix (.var 0) (.c (.i 1)), .var 1]) (.c (.i 0)))] [], .for (.n 2) (.sq (.sl (.var 0) (.some (.c (.i 1))) .none)) l0_is_fixed, .ret (.c (.b true))]⟩
def b_told_by : Def := ⟨2, 4, [.ife (.cmp .eq (.ix (.var 0) (.c (.i 0))) (.c (.i 0))) [.ret (.ix (.var 0) (.c (.i 1)))] [], .ife (.cmp .eq (.ix (.var 0) (.c (.i 0))) (.c (.i 1))) [.ret (.call f_item_of [.ix (.var 0) (.c (.i 1)), .var 1])] [], .asg (.n 2) (.ix (.glob 0) (.bin .sub (.ix (.var 0) (.c (.i 0))) (.c (.i 2)))), .ife (.or (.cmp .eq (.var 2) (.c (.s "told"))) (.cmp .eq (.var 2) (.c (.s "lessened")))) [.ret (.c (.i 0))] [], .ret (.call f_applied [.var 2, .bi .tuple [.comp (.call f_told_by [.var 3, .var 1]) (.n 3) (.sq (.sl (.var 0) (.some (.c (.i 1))) .none)) .none]])]⟩
def b_lessened_by : Def := ⟨3, 4, [.ife (.call f_is_fixed [.var 0, .var 1]) [.ret (.tup [.c (.i 0), .call f_told_by [.var 0, .var 2]])] [], .ife (.cmp .eq (.ix (.var 0) (.c (.i 0))) (.c (.i 1))) [.ret (.var 0)] [], .ret (.bin .add (.tup [.ix (.var 0) (.c (.i 0))]) (.bi .tuple [.comp (.call f_lessened_by [.var 3, .var 1, .var 2]) (.n 3) (.sq (.sl (.var 0) (.some (.c (.i 1))) .none)) .none]))]⟩
def b_reflect : Def := ⟨2, 2, [.ife (.not (.call f_is_expression_code [.ix (.var 1) (.c (.i 0))])) [.ret (.ite (.cmp .eq (.var 0) (.c (.s "lessened"))) (.tup [.c (.i 0), .c (.i 0)]) (.c (.i 0)))] [], .ife (.cmp .eq (.var 0) (.c (.s "fixed"))) [.ret (.ite (.call f_is_fixed [.ix (.var 1) (.c (.i 0)), .ix (.var 1) (.c (.i 1))]) (.c (.i 1)) (.c (.i 0)))] [], .ife (.cmp .eq (.var 0) (.c (.s "told"))) [.ret (.call f_told_by [.ix (.var 1) (.c (.i 0)), .ix (.var 1) (.c (.i 1))])] [], .ret (.call f_lessened_by [.ix (.var 1) (.c (.i 0)), .ix (.var 1) (.c (.i 1)), .ix (.var 1) (.c (.i 2))])]⟩
def b_applied : Def := ⟨2, 2, [.ife (.cmp .isin (.var 0) (.tup [.c (.s "fixed"), .c (.s "told"), .c (.s "lessened")])) [.ret (.call f_reflect [.var 0, .var 1])] [], .ife (.cmp .eq (.bi .len [.var 1]) (.c (.i 1))) [.ret (.call f_look [.var 0, .ix (.var 1) (.c (.i 0))])] [], .ife (.cmp .eq (.bi .len [.var 1]) (.c (.i 2))) [.ret (.call f_combine [.var 0, .ix (.var 1) (.c (.i 0)), .ix (.var 1) (.c (.i 1))])] [], .ife (.cmp .eq (.var 0) (.c (.s "choose"))) [.ret (.ite (.cmp .ne (.ix (.var 1) (.c (.i 0))) (.c (.i 0))) (.ix (.var 1) (.c (.i 1))) (.ix (.var 1) (.c (.i 2))))] [], .ret (.call f_with_item [.ix (.var 1) (.c (.i 0)), .ix (.var 1) (.c (.i 1)), .ix (.var 1) (.c (.i 2))])]⟩
def b_worth : Def := ⟨2, 4, [.asg (.n 2) (.ix (.var 0) (.c (.i 0))), .ife (.cmp .eq (.var 2) (.c (.s "know"))) [.ret (.ix (.var 0) (.c (.i 1)))] [], .ife (.cmp .eq (.var 2) (.c (.s "of"))) [.ret (.ix (.var 1) (.ix (.var 0) (.c (.i 1))))] [], .ret (.call f_applied [.var 2, .bi .tuple [.comp (.call f_worth [.var 3, .var 1]) (.n 3) (.sq (.sl (.var 0) (.some (.c (.i 1))) .none)) .none]])]⟩
def b_arguments_of : Def := ⟨1, 1, [.ife (.or (.cmp .eq (.ix (.var 0) (.c (.i 0))) (.c (.s "know"))) (.cmp .eq (.ix (.var 0) (.c (.i 0))) (.c (.s "of")))) [.ret (.tup [])] [], .ret (.sl (.var 0) (.some (.c (.i 1))) .none)]⟩
def l0_all_within : List S := [.ex (.meth .extend (.var 1) [.call f_all_within [.var 2]])]
def b_all_within : Def := ⟨1, 3, [.asg (.n 1) (.lst [.var 0]), .for (.n 2) (.sq (.call f_arguments_of [.var 0])) l0_all_within, .ret (.var 1)]⟩
def l0_is_known_by : List S := [.ife (.not (.call f_is_known_by [.var 0, .var 2])) [.ret (.c (.b false))] []]
def b_is_known_by : Def := ⟨2, 3, [.ife (.cmp .eq (.ix (.var 1) (.c (.i 0))) (.c (.s "of"))) [.ret (.ix (.var 0) (.ix (.var 1) (.c (.i 1))))] [], .for (.n 2) (.sq (.call f_arguments_of [.var 1])) l0_is_known_by, .ret (.c (.b true))]⟩
def b_put_in : Def := ⟨2, 3, [.ife (.cmp .eq (.ix (.var 0) (.c (.i 0))) (.c (.s "of"))) [.ret (.ix (.var 1) (.ix (.var 0) (.c (.i 1))))] [], .ife (.cmp .eq (.ix (.var 0) (.c (.i 0))) (.c (.s "know"))) [.ret (.var 0)] [], .ret (.bin .add (.tup [.ix (.var 0) (.c (.i 0))]) (.bi .tuple [.comp (.call f_put_in [.var 2, .var 1]) (.n 2) (.sq (.sl (.var 0) (.some (.c (.i 1))) .none)) .none]))]⟩
def b_last_block : Def := ⟨2, 2, [.ret (.bin .add (.bin .mul (.c (.i 2)) (.bi .len [.var 1])) (.bi .len [.ix (.var 0) (.c (.i 1))]))]⟩
def b_asking_block : Def := ⟨4, 6, [.asg (.n 4) (.tup [.c (.s "same"), .tup [.c (.s "of"), .var 1], .tup [.c (.s "know"), .ix (.var 2) (.var 3)]]), .asg (.n 5) (.ite (.cmp .lt (.bin .add (.var 3) (.c (.i 1))) (.bi .len [.var 2])) (.bin .add (.var 3) (.c (.i 1))) (.call f_last_block [.var 0, .var 2])), .ret (.tup [.tup [], .tup [.c (.s "test"), .var 4, .bin .add (.bi .len [.var 2]) (.var 3), .var 5]])]⟩
def b_telling_block : Def := ⟨3, 3, [.ret (.tup [.tup [.tup [.ix (.var 0) (.c (.i 0)), .tup [.c (.s "know"), .ix (.var 1) (.var 2)]]], .tup [.c (.s "goto"), .bin .mul (.c (.i 2)) (.bi .len [.var 1])]])]⟩
def b_with_other : Def := ⟨3, 5, [.asg (.n 3) (.ix (.var 0) (.c (.i 0))), .ret (.call f_put_in [.var 2, .bi .tuple [.comp (.tup [.c (.s "of"), .ite (.cmp .eq (.var 4) (.var 1)) (.var 3) (.var 4)]) (.n 4) (.r1 (.var 3)) .none]])]⟩
def b_moved_jump : Def := ⟨4, 4, [.ife (.cmp .eq (.ix (.var 3) (.c (.i 0))) (.c (.s "goto"))) [.ret (.tup [.c (.s "goto"), .bin .add (.ix (.var 3) (.c (.i 1))) (.var 2)])] [], .ife (.cmp .eq (.ix (.var 3) (.c (.i 0))) (.c (.s "end"))) [.ret (.tup [.c (.s "end"), .call f_with_other [.var 0, .var 1, .ix (.var 3) (.c (.i 1))]])] [], .ret (.tup [.c (.s "test"), .call f_with_other [.var 0, .var 1, .ix (.var 3) (.c (.i 1))], .bin .add (.ix (.var 3) (.c (.i 2))) (.var 2), .bin .add (.ix (.var 3) (.c (.i 3))) (.var 2)])]⟩
def b_moved_block : Def := ⟨4, 8, [.asg (.t [4, 5]) (.var 3), .ret (.tup [.bi .tuple [.comp (.tup [.var 6, .call f_with_other [.var 0, .var 1, .var 7]]) (.t [6, 7]) (.sq (.var 4)) .none], .call f_moved_jump [.var 0, .var 1, .var 2, .var 5]])]⟩
def b_tricked : Def := ⟨3, 10, [.asg (.t [3, 4]) (.var 0), .asg (.n 5) (.bi .tuple [.comp (.call f_asking_block [.var 0, .var 1, .var 2, .var 8]) (.n 8) (.r1 (.bi .len [.var 2])) .none]), .asg (.n 6) (.bi .tuple [.comp (.call f_telling_block [.var 0, .var 2, .var 8]) (.n 8) (.r1 (.bi .len [.var 2])) .none]), .asg (.n 7) (.bi .tuple [.comp (.call f_moved_block [.var 0, .var 1, .bin .mul (.c (.i 2)) (.bi .len [.var 2]), .var 9]) (.n 9) (.sq (.var 4)) .none]), .ret (.tup [.bin .add (.var 3) (.c (.i 1)), .bin .add (.bin .add (.bin .add (.var 5) (.var 6)) (.var 7)) (.tup [.tup [.tup [], .tup [.c (.s "end"), .tup [.c (.s "know"), .tup []]]]])])]⟩
def b_tricked_division : Def := ⟨2, 2, [.ret (.bin .add (.bin .add (.bin .add (.sl (.var 0) .none (.some (.var 1))) (.tup [.c (.b false)])) (.sl (.var 0) (.some (.bin .add (.var 1) (.c (.i 1)))) .none)) (.tup [.c (.b true)]))]⟩
def b_tricked_known : Def := ⟨2, 2, [.ret (.bin .add (.bin .add (.bin .add (.sl (.var 0) .none (.some (.var 1))) (.tup [.c .none])) (.sl (.var 0) (.some (.bin .add (.var 1) (.c (.i 1)))) .none)) (.tup [.c (.i 0)]))]⟩
def b_tricked_store : Def := ⟨1, 1, [.ret (.bin .add (.var 0) (.tup [.c (.i 0)]))]⟩
def b_goes_to : Def := ⟨1, 1, [.ife (.cmp .eq (.ix (.var 0) (.c (.i 0))) (.c (.s "goto"))) [.ret (.tup [.ix (.var 0) (.c (.i 1))])] [], .ife (.cmp .eq (.ix (.var 0) (.c (.i 0))) (.c (.s "test"))) [.ret (.tup [.ix (.var 0) (.c (.i 2)), .ix (.var 0) (.c (.i 3))])] [], .ret (.tup [])]⟩
def b_asked_by : Def := ⟨1, 1, [.ret (.ite (.cmp .eq (.ix (.var 0) (.c (.i 0))) (.c (.s "goto"))) (.tup []) (.tup [.ix (.var 0) (.c (.i 1))]))]⟩
def l0_is_expression_for : List S := [.ife (.cmp .eq (.ix (.var 2) (.c (.i 0))) (.c (.s "of"))) [.ife (.not (.chain .le .lt (.c (.i 0)) (.ix (.var 2) (.c (.i 1))) (.var 0))) [.ret (.c (.b false))] []] [.ife (.and (.cmp .ne (.ix (.var 2) (.c (.i 0))) (.c (.s "know"))) (.cmp .ne (.bi .len [.var 2]) (.bin .add (.call f_arity [.ix (.var 2) (.c (.i 0))]) (.c (.i 1))))) [.ret (.c (.b false))] []]]
def b_is_expression_for : Def := ⟨2, 3, [.for (.n 2) (.sq (.call f_all_within [.var 1])) l0_is_expression_for, .ret (.c (.b true))]⟩
def l0_is_block_for : List S := [.ife (.or (.not (.chain .le .lt (.c (.i 0)) (.var 3) (.var 0))) (.not (.call f_is_expression_for [.var 0, .var 4]))) [.ret (.c (.b false))] []]
def l1_is_block_for : List S := [.ife (.not (.call f_is_expression_for [.var 0, .var 4])) [.ret (.c (.b false))] []]
def l2_is_block_for : List S := [.ife (.not (.chain .le .lt (.c (.i 0)) (.var 5) (.var 1))) [.ret (.c (.b false))] []]
def b_is_block_for : Def := ⟨3, 6, [.for (.t [3, 4]) (.sq (.ix (.var 2) (.c (.i 0)))) l0_is_block_for, .for (.n 4) (.sq (.call f_asked_by [.ix (.var 2) (.c (.i 1))])) l1_is_block_for, .for (.n 5) (.sq (.call f_goes_to [.ix (.var 2) (.c (.i 1))])) l2_is_block_for, .ret (.c (.b true))]⟩
def l0_is_program : List S := [.ife (.not (.call f_is_block_for [.var 1, .bi .len [.var 2], .var 3])) [.ret (.c (.b false))] []]
def b_is_program : Def := ⟨1, 4, [.asg (.t [1, 2]) (.var 0), .ife (.or (.cmp .lt (.var 1) (.c (.i 0))) (.cmp .eq (.bi .len [.var 2]) (.c (.i 0)))) [.ret (.c (.b false))] [], .for (.n 3) (.sq (.var 2)) l0_is_program, .ret (.c (.b true))]⟩
def b_check_program : Def := ⟨1, 1, [.ife (.not (.call f_is_program [.var 0])) [.never] []]⟩
def l0_assignments_of : List S := [.ex (.meth .append (.var 1) [.tup [.var 2, .var 4, .ix (.ix (.var 3) (.var 4)) (.c (.i 0)), .ix (.ix (.var 3) (.var 4)) (.c (.i 1))]])]
def l1_assignments_of : List S := [.asg (.n 3) (.ix (.ix (.ix (.var 0) (.c (.i 1))) (.var 2)) (.c (.i 0))), .for (.n 4) (.r1 (.bi .len [.var 3])) l0_assignments_of]
def b_assignments_of : Def := ⟨1, 5, [.asg (.n 1) (.lst []), .for (.n 2) (.r1 (.bi .len [.ix (.var 0) (.c (.i 1))])) l1_assignments_of, .ret (.bi .tuple [.var 1])]⟩
def l0_mixing : List S := [.ife (.and (.ix (.var 1) (.var 5)) (.not (.call f_is_known_by [.var 1, .var 6]))) [.ex (.meth .append (.var 2) [.tup [.var 3, .var 4]])] []]
def b_mixing : Def := ⟨2, 7, [.asg (.n 2) (.lst []), .for (.t [3, 4, 5, 6]) (.sq (.call f_assignments_of [.var 0])) l0_mixing, .ret (.bi .tuple [.var 2])]⟩
def b_is_right : Def := ⟨2, 2, [.ret (.cmp .eq (.bi .len [.call f_mixing [.var 0, .var 1]]) (.c (.i 0)))]⟩
def b_first_state : Def := ⟨1, 1, [.ret (.tup [.c (.s "at"), .c (.i 0), .var 0])]⟩
def b_with_thing : Def := ⟨3, 3, [.ret (.bin .add (.bin .add (.sl (.var 0) .none (.some (.var 1))) (.tup [.var 2])) (.sl (.var 0) (.some (.bin .add (.var 1) (.c (.i 1)))) .none))]⟩
def l0_store_behind : List S := [.asg (.n 1) (.call f_with_thing [.var 1, .var 2, .call f_worth [.var 3, .var 1]])]
def b_store_behind : Def := ⟨2, 4, [.for (.t [2, 3]) (.sq (.var 0)) l0_store_behind, .ret (.var 1)]⟩
def b_answer_of : Def := ⟨2, 2, [.ret (.ite (.cmp .eq (.call f_worth [.ix (.var 0) (.c (.i 1)), .var 1]) (.c (.i 0))) (.c (.i 0)) (.c (.i 1)))]⟩
def b_block_behind : Def := ⟨2, 2, [.ife (.cmp .eq (.ix (.var 0) (.c (.i 0))) (.c (.s "test"))) [.ret (.ix (.call f_goes_to [.var 0]) (.bin .sub (.c (.i 1)) (.call f_answer_of [.var 0, .var 1])))] [], .ret (.ix (.var 0) (.c (.i 1)))]⟩
def b_next_state : Def := ⟨2, 5, [.ife (.cmp .eq (.ix (.var 1) (.c (.i 0))) (.c (.s "ended"))) [.ret (.var 1)] [], .asg (.t [2, 3]) (.ix (.ix (.var 0) (.c (.i 1))) (.ix (.var 1) (.c (.i 1)))), .asg (.n 4) (.call f_store_behind [.var 2, .ix (.var 1) (.c (.i 2))]), .ife (.cmp .eq (.ix (.var 3) (.c (.i 0))) (.c (.s "end"))) [.ret (.tup [.c (.s "ended"), .call f_worth [.ix (.var 3) (.c (.i 1)), .var 4]])] [], .ret (.tup [.c (.s "at"), .call f_block_behind [.var 3, .var 4], .var 4])]⟩
def l0_run : List S := [.asg (.n 3) (.call f_next_state [.var 0, .var 3]), .ife (.cmp .eq (.ix (.var 3) (.c (.i 0))) (.c (.s "ended"))) [.ret (.tup [.c (.s "ended"), .bin .add (.var 4) (.c (.i 1)), .ix (.var 3) (.c (.i 1))])] []]
def b_run : Def := ⟨3, 5, [.asg (.n 3) (.call f_first_state [.var 1]), .for (.n 4) (.r1 (.var 2)) l0_run, .ret (.tup [.c (.s "open"), .var 2])]⟩
def l0_law_draws : List S := [.asg (.n 6) (.bin .mod (.var 5) (.bi .len [.var 2])), .ife (.and (.cmp .ge (.ix (.var 2) (.var 6)) (.bin .pow (.c (.i 10)) (.c (.i 18)))) (.cmp .gt (.ix (.var 3) (.var 6)) (.c (.i 0)))) [.ex (.meth .append (.var 4) [.bin .mod (.bi .int [.ix (.var 3) (.var 6)]) (.c (.i 1000))]), .setix (.var 3) (.var 6) (.bin .fdiv (.ix (.var 3) (.var 6)) (.c (.i 1000)))] [.asg (.n 7) (.bin .mod (.bi .int [.bin .add (.bin .add (.bin .mul (.ix (.var 2) (.var 6)) (.c (.i 48271))) (.bin .mul (.var 5) (.c (.i 69621)))) (.c (.i 11))]) (.c (.i 2147483647))), .ex (.meth .append (.var 4) [.bin .mod (.bi .int [.bin .add (.bin .add (.bin .mul (.var 7) (.var 7)) (.bin .mul (.c (.i 3)) (.var 7))) (.var 5)]) (.c (.i 1000003))])]]
def b_law_draws : Def := ⟨2, 9, [.asg (.n 2) (.comp (.bi .int [.var 8]) (.n 8) (.sq (.var 0)) .none), .ife (.cmp .eq (.bi .len [.var 2]) (.c (.i 0))) [.ex (.meth .append (.var 2) [.c (.i 0)])] [], .asg (.n 3) (.bi .list [.var 2]), .asg (.n 4) (.lst []), .for (.n 5) (.r1 (.var 1)) l0_law_draws, .ex (.meth .reverse (.var 4) []), .ret (.var 4)]⟩
def b_law_take : Def := ⟨2, 2, [.ife (.cmp .eq (.bi .len [.var 0]) (.c (.i 0))) [.ret (.c (.i 0))] [], .ret (.bin .mod (.bi .int [.meth .pop (.var 0) []]) (.var 1))]⟩
def b_law_cell : Def := ⟨1, 2, [.ife (.cmp .eq (.bi .len [.var 0]) (.c (.i 0))) [.ret (.c (.i 0))] [], .asg (.n 1) (.bi .int [.ix (.var 0) (.bin .mod (.bin .mod (.bi .int [.bin .sub (.bi .len [.var 0]) (.c (.i 1))]) (.c (.i 7))) (.bi .len [.var 0]))]), .ife (.cmp .lt (.var 1) (.c (.i 0))) [.ret (.neg (.bin .mod (.bi .int [.neg (.var 1)]) (.bin .pow (.c (.i 10)) (.c (.i 60)))))] [], .ret (.bin .mod (.bi .int [.var 1]) (.bin .pow (.c (.i 10)) (.c (.i 60))))]⟩
def l0_law_thing : List S := [.ife (.cmp .eq (.call f_law_take [.var 0, .c (.i 4)]) (.c (.i 0))) [.ex (.meth .append (.var 3) [.bi .tuple [.comp (.call f_law_take [.var 0, .c (.i 3)]) (.n 5) (.r1 (.call f_law_take [.var 0, .c (.i 3)])) .none]])] [.ex (.meth .append (.var 3) [.bin .sub (.call f_law_take [.var 0, .c (.i 4)]) (.c (.i 1))])]]
def b_law_thing : Def := ⟨2, 6, [.asg (.n 2) (.call f_law_take [.var 0, .c (.i 12)]), .ife (.cmp .eq (.var 2) (.c (.i 11))) [.ret (.var 1)] [], .ife (.cmp .lt (.var 2) (.c (.i 6))) [.ret (.bin .sub (.call f_law_take [.var 0, .c (.i 4)]) (.c (.i 1)))] [], .asg (.n 3) (.lst []), .for (.n 4) (.r1 (.call f_law_take [.var 0, .c (.i 4)])) l0_law_thing, .ret (.bi .tuple [.var 3])]⟩
def b_law_names : Def := ⟨0, 0, [.ret (.tup [.c (.s "first"), .c (.s "rest"), .c (.s "join"), .c (.s "more"), .c (.s "item"), .c (.s "put"), .c (.s "length"), .c (.s "place"), .c (.s "same"), .c (.s "less"), .c (.s "some"), .c (.s "listed"), .c (.s "plus"), .c (.s "minus"), .c (.s "choose"), .c (.s "fixed"), .c (.s "told"), .c (.s "lessened")])]⟩
def b_law_arities : Def := ⟨0, 0, [.ret (.tup [.c (.i 1), .c (.i 1), .c (.i 2), .c (.i 2), .c (.i 2), .c (.i 3), .c (.i 1), .c (.i 2), .c (.i 2), .c (.i 2), .c (.i 1), .c (.i 1), .c (.i 2), .c (.i 2), .c (.i 3), .c (.i 2), .c (.i 2), .c (.i 3)])]⟩
def b_law_row : Def := ⟨1, 1, [.ife (.bi .isTuple [.var 0]) [.ret (.var 0)] [], .ret (.tup [])]⟩
def b_law_item : Def := ⟨2, 2, [.ife (.and (.bi .isInt [.var 0]) (.bi .isTuple [.var 1])) [.ife (.and (.cmp .ge (.var 0) (.c (.i 0))) (.cmp .lt (.var 0) (.bi .len [.var 1]))) [.ret (.ix (.var 1) (.var 0))] []] [], .ret (.c (.i 0))]⟩
def b_law_of_one : Def := ⟨2, 2, [.ife (.cmp .eq (.var 0) (.c (.s "first"))) [.ret (.call f_law_item [.c (.i 0), .var 1])] [], .ife (.cmp .eq (.var 0) (.c (.s "rest"))) [.ret (.sl (.call f_law_row [.var 1]) (.some (.c (.i 1))) .none)] [], .ife (.cmp .eq (.var 0) (.c (.s "length"))) [.ret (.bi .len [.call f_law_row [.var 1]])] [], .ife (.cmp .eq (.var 0) (.c (.s "some"))) [.ret (.ite (.cmp .gt (.bi .len [.call f_law_row [.var 1]]) (.c (.i 0))) (.c (.i 1)) (.c (.i 0)))] [], .ret (.ite (.bi .isTuple [.var 1]) (.c (.i 1)) (.c (.i 0)))]⟩
def l0_law_of_two : List S := [.ife (.cmp .eq (.ix (.var 2) (.var 3)) (.var 1)) [.ret (.var 3)] []]
def b_law_of_two : Def := ⟨3, 6, [.ife (.cmp .eq (.var 0) (.c (.s "join"))) [.ret (.bin .add (.tup [.var 1]) (.call f_law_row [.var 2]))] [], .ife (.cmp .eq (.var 0) (.c (.s "more"))) [.ret (.bin .add (.call f_law_row [.var 2]) (.tup [.var 1]))] [], .ife (.cmp .eq (.var 0) (.c (.s "item"))) [.ret (.call f_law_item [.var 1, .var 2])] [], .ife (.cmp .eq (.var 0) (.c (.s "same"))) [.ret (.ite (.cmp .eq (.var 1) (.var 2)) (.c (.i 1)) (.c (.i 0)))] [], .ife (.cmp .eq (.var 0) (.c (.s "place"))) [.for (.n 3) (.r1 (.bi .len [.call f_law_row [.var 2]])) l0_law_of_two, .ret (.neg (.c (.i 1)))] [], .ife (.cmp .eq (.var 0) (.c (.s "less"))) [.ret (.ite (.and (.bi .isInt [.var 1]) (.and (.bi .isInt [.var 2]) (.cmp .lt (.var 1) (.var 2)))) (.c (.i 1)) (.c (.i 0)))] [], .asg (.n 4) (.ite (.bi .isInt [.var 1]) (.var 1) (.c (.i 0))), .asg (.n 5) (.ite (.bi .isInt [.var 2]) (.var 2) (.c (.i 0))), .ret (.ite (.cmp .eq (.var 0) (.c (.s "plus"))) (.bin .add (.var 4) (.var 5)) (.bin .sub (.var 4) (.var 5)))]⟩
def b_law_of_three : Def := ⟨4, 4, [.ife (.cmp .eq (.var 0) (.c (.s "choose"))) [.ret (.ite (.cmp .eq (.var 1) (.c (.i 0))) (.var 3) (.var 2))] [], .ife (.and (.bi .isInt [.var 1]) (.and (.bi .isTuple [.var 2]) (.and (.cmp .ge (.var 1) (.c (.i 0))) (.cmp .lt (.var 1) (.bi .len [.var 2]))))) [.ret (.bin .add (.bin .add (.sl (.var 2) .none (.some (.var 1))) (.tup [.var 3])) (.sl (.var 2) (.some (.bin .add (.var 1) (.c (.i 1)))) .none))] [], .ret (.var 2)]⟩
def l0_law_is_code : List S := [.ife (.not (.call f_law_is_code [.var 1])) [.ret (.c (.b false))] []]
def b_law_is_code : Def := ⟨1, 2, [.ife (.or (.not (.bi .isTuple [.var 0])) (.or (.cmp .eq (.bi .len [.var 0]) (.c (.i 0))) (.not (.bi .isInt [.ix (.var 0) (.c (.i 0))])))) [.ret (.c (.b false))] [], .ife (.cmp .eq (.ix (.var 0) (.c (.i 0))) (.c (.i 0))) [.ret (.cmp .eq (.bi .len [.var 0]) (.c (.i 2)))] [], .ife (.cmp .eq (.ix (.var 0) (.c (.i 0))) (.c (.i 1))) [.ret (.and (.cmp .eq (.bi .len [.var 0]) (.c (.i 2))) (.and (.bi .isInt [.ix (.var 0) (.c (.i 1))]) (.cmp .ge (.ix (.var 0) (.c (.i 1))) (.c (.i 0)))))] [], .ife (.or (.cmp .lt (.ix (.var 0) (.c (.i 0))) (.c (.i 2))) (.or (.cmp .gt (.ix (.var 0) (.c (.i 0))) (.c (.i 19))) (.cmp .ne (.bi .len [.var 0]) (.bin .add (.c (.i 1)) (.ix (.call f_law_arities []) (.bin .sub (.ix (.var 0) (.c (.i 0))) (.c (.i 2)))))))) [.ret (.c (.b false))] [], .for (.n 1) (.sq (.sl (.var 0) (.some (.c (.i 1))) .none)) l0_law_is_code, .ret (.c (.b true))]⟩
def l0_law_is_fixed : List S := [.ife (.not (.call f_law_is_fixed [.var 2, .var 1])) [.ret (.c (.b false))] []]
def b_law_is_fixed : Def := ⟨2, 3, [.ife (.cmp .eq (.ix (.var 0) (.c (.i 0))) (.c (.i 0))) [.ret (.c (.b true))] [], .ife (.cmp .eq (.ix (.var 0) (.c (.i 0))) (.c (.i 1))) [.ret (.cmp .ne (.call f_law_item [.ix (.var 0) (.c (.i 1)), .var 1]) (.c (.i 0)))] [], .for (.n 2) (.sq (.sl (.var 0) (.some (.c (.i 1))) .none)) l0_law_is_fixed, .ret (.c (.b true))]⟩
def b_law_told : Def := ⟨2, 4, [.ife (.cmp .eq (.ix (.var 0) (.c (.i 0))) (.c (.i 0))) [.ret (.ix (.var 0) (.c (.i 1)))] [], .ife (.cmp .eq (.ix (.var 0) (.c (.i 0))) (.c (.i 1))) [.ret (.call f_law_item [.ix (.var 0) (.c (.i 1)), .var 1])] [], .asg (.n 2) (.ix (.call f_law_names []) (.bin .sub (.ix (.var 0) (.c (.i 0))) (.c (.i 2)))), .ife (.or (.cmp .eq (.var 2) (.c (.s "told"))) (.cmp .eq (.var 2) (.c (.s "lessened")))) [.ret (.c (.i 0))] [], .ret (.call f_law_apply [.var 2, .comp (.call f_law_told [.var 3, .var 1]) (.n 3) (.sq (.sl (.var 0) (.some (.c (.i 1))) .none)) .none])]⟩
def b_law_less_code : Def := ⟨3, 4, [.ife (.call f_law_is_fixed [.var 0, .var 1]) [.ret (.tup [.c (.i 0), .call f_law_told [.var 0, .var 2]])] [], .ife (.cmp .eq (.ix (.var 0) (.c (.i 0))) (.c (.i 1))) [.ret (.var 0)] [], .ret (.bin .add (.tup [.ix (.var 0) (.c (.i 0))]) (.bi .tuple [.comp (.call f_law_less_code [.var 3, .var 1, .var 2]) (.n 3) (.sq (.sl (.var 0) (.some (.c (.i 1))) .none)) .none]))]⟩
def b_law_apply : Def := ⟨2, 2, [.ife (.cmp .eq (.var 0) (.c (.s "fixed"))) [.ret (.ite (.and (.call f_law_is_code [.ix (.var 1) (.c (.i 0))]) (.call f_law_is_fixed [.ix (.var 1) (.c (.i 0)), .ix (.var 1) (.c (.i 1))])) (.c (.i 1)) (.c (.i 0)))] [], .ife (.cmp .eq (.var 0) (.c (.s "told"))) [.ret (.ite (.call f_law_is_code [.ix (.var 1) (.c (.i 0))]) (.call f_law_told [.ix (.var 1) (.c (.i 0)), .ix (.var 1) (.c (.i 1))]) (.c (.i 0)))] [], .ife (.cmp .eq (.var 0) (.c (.s "lessened"))) [.ret (.ite (.call f_law_is_code [.ix (.var 1) (.c (.i 0))]) (.call f_law_less_code [.ix (.var 1) (.c (.i 0)), .ix (.var 1) (.c (.i 1)), .ix (.var 1) (.c (.i 2))]) (.tup [.c (.i 0), .c (.i 0)]))] [], .ife (.cmp .eq (.bi .len [.var 1]) (.c (.i 1))) [.ret (.call f_law_of_one [.var 0, .ix (.var 1) (.c (.i 0))])] [], .ife (.cmp .eq (.bi .len [.var 1]) (.c (.i 2))) [.ret (.call f_law_of_two [.var 0, .ix (.var 1) (.c (.i 0)), .ix (.var 1) (.c (.i 1))])] [], .ret (.call f_law_of_three [.var 0, .ix (.var 1) (.c (.i 0)), .ix (.var 1) (.c (.i 1)), .ix (.var 1) (.c (.i 2))])]⟩
def b_law_worth : Def := ⟨2, 3, [.ife (.cmp .eq (.ix (.var 0) (.c (.i 0))) (.c (.s "know"))) [.ret (.ix (.var 0) (.c (.i 1)))] [], .ife (.cmp .eq (.ix (.var 0) (.c (.i 0))) (.c (.s "of"))) [.ret (.ix (.var 1) (.ix (.var 0) (.c (.i 1))))] [], .ret (.call f_law_apply [.ix (.var 0) (.c (.i 0)), .comp (.call f_law_worth [.var 2, .var 1]) (.n 2) (.sq (.sl (.var 0) (.some (.c (.i 1))) .none)) .none])]⟩
def l0_law_step : List S := [.setix (.var 3) (.ix (.var 4) (.c (.i 0))) (.call f_law_worth [.ix (.var 4) (.c (.i 1)), .var 3])]
def b_law_step : Def := ⟨3, 6, [.asg (.n 3) (.bi .list [.var 2]), .for (.n 4) (.sq (.ix (.ix (.ix (.var 0) (.c (.i 1))) (.var 1)) (.c (.i 0)))) l0_law_step, .asg (.n 5) (.ix (.ix (.ix (.var 0) (.c (.i 1))) (.var 1)) (.c (.i 1))), .ife (.cmp .eq (.ix (.var 5) (.c (.i 0))) (.c (.s "goto"))) [.ret (.tup [.ix (.var 5) (.c (.i 1)), .bi .tuple [.var 3]])] [], .ife (.cmp .eq (.ix (.var 5) (.c (.i 0))) (.c (.s "end"))) [.ret (.tup [.neg (.c (.i 1)), .call f_law_worth [.ix (.var 5) (.c (.i 1)), .var 3]])] [], .ret (.tup [.ite (.cmp .eq (.call f_law_worth [.ix (.var 5) (.c (.i 1)), .var 3]) (.c (.i 0))) (.ix (.var 5) (.c (.i 3))) (.ix (.var 5) (.c (.i 2))), .bi .tuple [.var 3]])]⟩
def l0_law_run : List S := [.asg (.n 3) (.call f_law_step [.var 0, .ix (.var 3) (.c (.i 0)), .ix (.var 3) (.c (.i 1))]), .ife (.cmp .lt (.ix (.var 3) (.c (.i 0))) (.c (.i 0))) [.ret (.tup [.c (.s "ended"), .bin .add (.var 4) (.c (.i 1)), .ix (.var 3) (.c (.i 1))])] []]
def b_law_run : Def := ⟨3, 5, [.asg (.n 3) (.tup [.c (.i 0), .bi .tuple [.var 1]]), .for (.n 4) (.r1 (.var 2)) l0_law_run, .ret (.tup [.c (.s "open"), .var 2])]⟩
def l0_law_variables : List S := [.asg (.n 1) (.bin .add (.var 1) (.call f_law_variables [.var 2]))]
def b_law_variables : Def := ⟨1, 3, [.ife (.cmp .eq (.ix (.var 0) (.c (.i 0))) (.c (.s "know"))) [.ret (.lst [])] [], .ife (.cmp .eq (.ix (.var 0) (.c (.i 0))) (.c (.s "of"))) [.ret (.lst [.ix (.var 0) (.c (.i 1))])] [], .asg (.n 1) (.lst []), .for (.n 2) (.sq (.sl (.var 0) (.some (.c (.i 1))) .none)) l0_law_variables, .ret (.var 1)]⟩
def l0_law_known : List S := [.ife (.not (.ix (.var 0) (.var 2))) [.ret (.c (.b false))] []]
def b_law_known : Def := ⟨2, 3, [.for (.n 2) (.sq (.call f_law_variables [.var 1])) l0_law_known, .ret (.c (.b true))]⟩
def l0_law_greatest : List S := [.ife (.and (.ix (.var 2) (.ix (.var 5) (.c (.i 0)))) (.not (.call f_law_known [.var 2, .ix (.var 5) (.c (.i 1))]))) [.setix (.var 2) (.ix (.var 5) (.c (.i 0))) (.c (.b false))] []]
def l1_law_greatest : List S := [.for (.n 5) (.sq (.ix (.var 4) (.c (.i 0)))) l0_law_greatest]
def l2_law_greatest : List S := [.for (.n 4) (.sq (.ix (.var 0) (.c (.i 1)))) l1_law_greatest]
def b_law_greatest : Def := ⟨2, 7, [.asg (.n 2) (.comp (.bi .bool [.var 6]) (.n 6) (.sq (.var 1)) .none), .for (.n 3) (.r1 (.bin .add (.bi .len [.var 1]) (.c (.i 1)))) l2_law_greatest, .ret (.bi .tuple [.var 2])]⟩
def b_law_simple : Def := ⟨3, 3, [.ife (.and (.cmp .gt (.var 1) (.c (.i 0))) (.cmp .gt (.call f_law_take [.var 0, .c (.i 3)]) (.c (.i 0)))) [.ret (.tup [.c (.s "of"), .call f_law_take [.var 0, .var 1]])] [], .ret (.tup [.c (.s "know"), .call f_law_thing [.var 0, .var 2]])]⟩
def b_law_fall : Def := ⟨4, 8, [.asg (.n 4) (.call f_law_take [.var 0, .c (.i 16)]), .asg (.n 5) (.call f_law_simple [.var 0, .var 1, .var 3]), .ife (.cmp .lt (.var 4) (.c (.i 4))) [.ret (.var 5)] [], .ife (.and (.cmp .lt (.var 4) (.c (.i 7))) (.cmp .gt (.var 2) (.var 1))) [.asg (.n 6) (.tup [.c (.s "of"), .bin .add (.var 1) (.call f_law_take [.var 0, .bin .sub (.var 2) (.var 1)])]), .ret (.ix (.tup [.tup [.c (.s "first"), .var 6], .tup [.c (.s "some"), .var 6], .tup [.c (.s "length"), .var 6]]) (.bin .sub (.var 4) (.c (.i 4))))] [], .ife (.cmp .lt (.var 4) (.c (.i 9))) [.ret (.tup [.ix (.tup [.c (.s "first"), .c (.s "rest"), .c (.s "length"), .c (.s "some"), .c (.s "listed")]) (.call f_law_take [.var 0, .c (.i 5)]), .var 5])] [], .ife (.cmp .eq (.var 4) (.c (.i 9))) [.ret (.tup [.c (.s "choose"), .tup [.c (.s "some"), .var 5], .call f_law_simple [.var 0, .var 1, .var 3], .tup [.c (.s "know"), .call f_law_thing [.var 0, .var 3]]])] [], .ife (.cmp .eq (.var 4) (.c (.i 10))) [.ret (.tup [.c (.s "item"), .tup [.c (.s "know"), .call f_law_take [.var 0, .c (.i 3)]], .var 5])] [], .asg (.n 7) (.ix (.tup [.c (.s "same"), .c (.s "less"), .c (.s "plus"), .c (.s "minus"), .c (.s "place"), .c (.s "item")]) (.call f_law_take [.var 0, .c (.i 6)])), .ret (.tup [.var 7, .var 5, .call f_law_simple [.var 0, .var 1, .var 3]])]⟩
def b_law_build : Def := ⟨4, 6, [.asg (.n 4) (.tup [.c (.s "of"), .bin .add (.var 1) (.call f_law_take [.var 0, .bin .sub (.var 2) (.var 1)])]), .asg (.n 5) (.call f_law_take [.var 0, .c (.i 6)]), .ife (.cmp .lt (.var 5) (.c (.i 2))) [.ret (.tup [.c (.s "join"), .call f_law_fall [.var 0, .var 1, .var 2, .var 3], .var 4])] [], .ife (.cmp .eq (.var 5) (.c (.i 2))) [.ret (.tup [.c (.s "more"), .call f_law_fall [.var 0, .var 1, .var 2, .var 3], .var 4])] [], .ife (.cmp .eq (.var 5) (.c (.i 3))) [.ret (.tup [.c (.s "rest"), .var 4])] [], .ife (.cmp .eq (.var 5) (.c (.i 4))) [.ret (.tup [.c (.s "put"), .tup [.c (.s "know"), .call f_law_take [.var 0, .c (.i 3)]], .var 4, .call f_law_fall [.var 0, .var 1, .var 2, .var 3]])] [], .ret (.var 4)]⟩
def l0_law_program : List S := [.asg (.n 9) (.call f_law_take [.var 0, .var 2]), .ife (.cmp .lt (.var 9) (.var 1)) [.ex (.meth .append (.var 7) [.tup [.var 9, .call f_law_fall [.var 0, .var 1, .var 2, .var 4]]])] [.ex (.meth .append (.var 7) [.tup [.var 9, .call f_law_build [.var 0, .var 1, .var 2, .var 4]]])]]
def l1_law_program : List S := [.asg (.n 7) (.lst []), .for (.n 8) (.r1 (.call f_law_take [.var 0, .c (.i 4)])) l0_law_program, .asg (.n 10) (.call f_law_take [.var 0, .c (.i 5)]), .ife (.or (.cmp .eq (.var 10) (.c (.i 0))) (.cmp .eq (.var 3) (.c (.i 1)))) [.asg (.n 11) (.tup [.c (.s "end"), .tup [.c (.s "of"), .call f_law_take [.var 0, .var 2]]])] [.ife (.cmp .eq (.var 10) (.c (.i 1))) [.asg (.n 11) (.tup [.c (.s "goto"), .call f_law_take [.var 0, .var 3]])] [.asg (.n 11) (.tup [.c (.s "test"), .call f_law_fall [.var 0, .var 1, .var 2, .var 4], .call f_law_take [.var 0, .var 3], .call f_law_take [.var 0, .var 3]])]], .ex (.meth .append (.var 5) [.tup [.bi .tuple [.var 7], .var 11]])]
def b_law_program : Def := ⟨5, 12, [.asg (.n 5) (.lst []), .for (.n 6) (.r1 (.var 3)) l1_law_program, .ret (.tup [.var 2, .bi .tuple [.var 5]])]⟩
def b_law_store : Def := ⟨3, 4, [.ret (.bi .tuple [.comp (.call f_law_thing [.var 0, .var 2]) (.n 3) (.r1 (.var 1)) .none])]⟩
def l0_law_same : List S := [.ife (.not (.call f_law_same [.ix (.var 0) (.var 2), .ix (.var 1) (.var 2)])) [.ret (.c (.b false))] []]
def b_law_same : Def := ⟨2, 3, [.ife (.bi .isBool [.var 1]) [.ret (.and (.bi .isBool [.var 0]) (.cmp .eq (.var 0) (.var 1)))] [], .ife (.bi .isInt [.var 1]) [.ret (.and (.bi .isInt [.var 0]) (.and (.not (.bi .isBool [.var 0])) (.cmp .eq (.var 0) (.var 1))))] [], .ife (.bi .isStr [.var 1]) [.ret (.and (.bi .isStr [.var 0]) (.cmp .eq (.var 0) (.var 1)))] [], .ife (.isN (.var 1)) [.ret (.isN (.var 0))] [], .ife (.or (.not (.bi .isTuple [.var 0])) (.cmp .ne (.bi .len [.var 0]) (.bi .len [.var 1]))) [.ret (.c (.b false))] [], .for (.n 2) (.r1 (.bi .len [.var 1])) l0_law_same, .ret (.c (.b true))]⟩
def b_law_renamed : Def := ⟨2, 3, [.ife (.cmp .eq (.ix (.var 0) (.c (.i 0))) (.c (.s "know"))) [.ret (.var 0)] [], .ife (.cmp .eq (.ix (.var 0) (.c (.i 0))) (.c (.s "of"))) [.ret (.tup [.c (.s "of"), .ix (.var 1) (.ix (.var 0) (.c (.i 1)))])] [], .ret (.bin .add (.tup [.ix (.var 0) (.c (.i 0))]) (.bi .tuple [.comp (.call f_law_renamed [.var 2, .var 1]) (.n 2) (.sq (.sl (.var 0) (.some (.c (.i 1))) .none)) .none]))]⟩
def l0_law_tricked : List S := [.asg (.n 9) (.bin .add (.var 8) (.c (.i 1))), .ife (.cmp .eq (.var 9) (.var 6)) [.asg (.n 9) (.bin .add (.bin .mul (.c (.i 2)) (.var 6)) (.bi .len [.var 4]))] [], .ex (.meth .append (.var 7) [.tup [.tup [], .tup [.c (.s "test"), .tup [.c (.s "same"), .tup [.c (.s "of"), .var 1], .tup [.c (.s "know"), .ix (.var 2) (.var 8)]], .bin .add (.var 6) (.var 8), .var 9]]])]
def l1_law_tricked : List S := [.ex (.meth .append (.var 7) [.tup [.tup [.tup [.var 3, .tup [.c (.s "know"), .ix (.var 2) (.var 8)]]], .tup [.c (.s "goto"), .bin .mul (.c (.i 2)) (.var 6)]]])]
def l2_law_tricked : List S := [.asg (.n 12) (.tup [.c (.s "end"), .tup []]), .ife (.cmp .eq (.ix (.var 11) (.c (.i 0))) (.c (.s "goto"))) [.asg (.n 12) (.tup [.c (.s "goto"), .bin .add (.ix (.var 11) (.c (.i 1))) (.bin .mul (.c (.i 2)) (.var 6))])] [.ife (.cmp .eq (.ix (.var 11) (.c (.i 0))) (.c (.s "test"))) [.asg (.n 12) (.tup [.c (.s "test"), .call f_law_renamed [.ix (.var 11) (.c (.i 1)), .var 5], .bin .add (.ix (.var 11) (.c (.i 2))) (.bin .mul (.c (.i 2)) (.var 6)), .bin .add (.ix (.var 11) (.c (.i 3))) (.bin .mul (.c (.i 2)) (.var 6))])] [.asg (.n 12) (.tup [.c (.s "end"), .call f_law_renamed [.ix (.var 11) (.c (.i 1)), .var 5]])]], .ex (.meth .append (.var 7) [.tup [.bi .tuple [.comp (.tup [.var 13, .call f_law_renamed [.var 14, .var 5]]) (.t [13, 14]) (.sq (.var 10)) .none], .var 12]])]
def b_law_tricked : Def := ⟨3, 15, [.asg (.t [3, 4]) (.var 0), .asg (.n 5) (.ofIt false (.r1 (.var 3))), .setix (.var 5) (.var 1) (.var 3), .asg (.n 6) (.bi .len [.var 2]), .asg (.n 7) (.lst []), .for (.n 8) (.r1 (.var 6)) l0_law_tricked, .for (.n 8) (.r1 (.var 6)) l1_law_tricked, .for (.t [10, 11]) (.sq (.var 4)) l2_law_tricked, .ret (.tup [.bin .add (.var 3) (.c (.i 1)), .bin .add (.bi .tuple [.var 7]) (.tup [.tup [.tup [], .tup [.c (.s "end"), .tup [.c (.s "know"), .tup []]]]])])]⟩
def b_law_unassigned : Def := ⟨2, 4, [.ret (.tup [.ix (.var 0) (.c (.i 0)), .bi .tuple [.comp (.tup [.bi .tuple [.comp (.var 3) (.n 3) (.sq (.ix (.var 2) (.c (.i 0)))) (.some (.cmp .ne (.ix (.var 3) (.c (.i 0))) (.var 1)))], .ix (.var 2) (.c (.i 1))]) (.n 2) (.sq (.ix (.var 0) (.c (.i 1)))) .none]])]⟩
def l0_law_unlike_things : List S := [.asg (.n 5) (.call f_law_thing [.var 0, .var 2]), .ife (.cmp .nin (.var 5) (.var 3)) [.ex (.meth .append (.var 3) [.var 5])] []]
def b_law_unlike_things : Def := ⟨3, 6, [.asg (.n 3) (.lst [.call f_law_thing [.var 0, .var 2]]), .for (.n 4) (.r1 (.bin .sub (.var 1) (.c (.i 1)))) l0_law_unlike_things, .ret (.bi .tuple [.var 3])]⟩
def b_law_with : Def := ⟨3, 3, [.ret (.bin .add (.bin .add (.bi .tuple [.sl (.var 0) .none (.some (.var 1))]) (.tup [.var 2])) (.bi .tuple [.sl (.var 0) (.some (.bin .add (.var 1) (.c (.i 1)))) .none]))]⟩
def b_law_known_part : Def := ⟨2, 3, [.ret (.bi .tuple [.comp (.ite (.ix (.var 0) (.var 2)) (.ix (.var 1) (.var 2)) (.c .none)) (.n 2) (.r1 (.bi .len [.var 1])) .none])]⟩
def b_law_is_told : Def := ⟨3, 4, [.asg (.n 3) (.call f_law_tricked [.var 0, .var 1, .var 2]), .ife (.or (.not (.call f_law_same [.call f_tricked [.var 0, .var 1, .var 2], .var 3])) (.not (.call f_law_same [.call f_tricked [.var 0, .var 1, .var 2], .var 3]))) [.ret (.c (.b false))] [], .ret (.isN (.call f_check_program [.var 3]))]⟩
def b_law_is_run : Def := ⟨5, 8, [.asg (.n 5) (.call f_tricked [.var 0, .var 1, .var 2]), .ife (.cmp .nin (.ix (.var 3) (.var 1)) (.var 2)) [.ret (.call f_law_same [.call f_run [.var 5, .call f_tricked_store [.var 3], .bin .add (.var 4) (.c (.i 9))], .tup [.c (.s "ended"), .bin .add (.bi .len [.var 2]) (.c (.i 1)), .tup []]])] [], .asg (.n 6) (.bin .add (.meth .index (.var 2) [.ix (.var 3) (.var 1)]) (.c (.i 2))), .asg (.n 7) (.call f_law_run [.var 0, .var 3, .var 4]), .ife (.cmp .eq (.ix (.var 7) (.c (.i 0))) (.c (.s "open"))) [.ret (.call f_law_same [.call f_run [.var 5, .call f_tricked_store [.var 3], .bin .add (.var 4) (.var 6)], .tup [.c (.s "open"), .bin .add (.var 4) (.var 6)]])] [], .ife (.and (.cmp .gt (.var 6) (.c (.i 2))) (.not (.call f_law_same [.call f_run [.var 5, .call f_tricked_store [.var 3], .bin .sub (.bin .add (.ix (.var 7) (.c (.i 1))) (.var 6)) (.c (.i 1))], .tup [.c (.s "open"), .bin .sub (.bin .add (.ix (.var 7) (.c (.i 1))) (.var 6)) (.c (.i 1))]]))) [.ret (.c (.b false))] [], .ret (.call f_law_same [.call f_run [.var 5, .call f_tricked_store [.var 3], .bin .add (.var 4) (.var 6)], .tup [.c (.s "ended"), .bin .add (.ix (.var 7) (.c (.i 1))) (.var 6), .ix (.var 7) (.c (.i 2))]])]⟩
def l0_law_v1 : List S := [.ife (.not (.call f_law_is_run [.var 6, .var 5, .var 7, .call f_law_with [.var 10, .var 5, .var 13], .c (.i 24)])) [.ret (.c (.b false))] []]
def b_law_v1 : Def := ⟨1, 15, [.asg (.n 1) (.call f_law_draws [.var 0, .c (.i 200)]), .asg (.n 2) (.call f_law_cell [.var 0]), .asg (.n 3) (.bin .add (.c (.i 1)) (.call f_law_take [.var 1, .c (.i 3)])), .asg (.n 4) (.bin .add (.var 3) (.call f_law_take [.var 1, .c (.i 3)])), .asg (.n 5) (.call f_law_take [.var 1, .var 4]), .asg (.n 6) (.call f_law_unassigned [.call f_law_program [.var 1, .var 3, .var 4, .bin .add (.c (.i 1)) (.call f_law_take [.var 1, .c (.i 5)]), .var 2], .var 5]), .asg (.n 7) (.call f_law_unlike_things [.var 1, .bin .add (.c (.i 1)) (.call f_law_take [.var 1, .c (.i 4)]), .var 2]), .ife (.not (.call f_law_is_told [.var 6, .var 5, .var 7])) [.ret (.c (.b false))] [], .asg (.n 8) (.bi .tuple [.comp (.cmp .eq (.call f_law_take [.var 1, .c (.i 2)]) (.c (.i 1))) (.n 14) (.r1 (.var 4)) .none]), .asg (.n 9) (.call f_law_greatest [.var 6, .call f_law_with [.var 8, .var 5, .c (.b true)]]), .asg (.n 10) (.call f_law_store [.var 1, .var 4, .var 2]), .asg (.n 11) (.bin .add (.bin .add (.bin .add (.bi .tuple [.sl (.var 9) .none (.some (.var 5))]) (.tup [.c (.b false)])) (.bi .tuple [.sl (.var 9) (.some (.bin .add (.var 5) (.c (.i 1)))) .none])) (.tup [.c (.b true)])), .ife (.or (.not (.call f_law_same [.call f_tricked_division [.var 9, .var 5], .var 11])) (.cmp .nisb (.call f_is_right [.call f_tricked [.var 6, .var 5, .var 7], .var 11]) (.c (.b true)))) [.ret (.c (.b false))] [], .asg (.n 12) (.call f_law_known_part [.var 9, .var 10]), .ife (.or (.not (.call f_law_same [.call f_tricked_known [.var 12, .var 5], .bin .add (.bin .add (.bin .add (.bi .tuple [.sl (.var 12) .none (.some (.var 5))]) (.tup [.c .none])) (.bi .tuple [.sl (.var 12) (.some (.bin .add (.var 5) (.c (.i 1)))) .none])) (.tup [.c (.i 0)])])) (.not (.call f_law_same [.call f_tricked_store [.var 10], .bin .add (.var 10) (.tup [.c (.i 0)])]))) [.ret (.c (.b false))] [], .for (.n 13) (.sq (.bin .add (.var 7) (.tup [.call f_law_thing [.var 1, .var 2]]))) l0_law_v1, .asg (.n 6) (.tup [.c (.i 2), .tup [.tup [.tup [.tup [.c (.i 1), .tup [.c (.s "plus"), .tup [.c (.s "of"), .c (.i 0)], .tup [.c (.s "of"), .c (.i 1)]]]], .tup [.c (.s "test"), .tup [.c (.s "of"), .c (.i 0)], .c (.i 1), .c (.i 0)]], .tup [.tup [], .tup [.c (.s "end"), .tup [.c (.s "of"), .c (.i 1)]]]]]), .ife (.or (.not (.call f_law_is_told [.var 6, .c (.i 0), .tup [.c (.i 3), .c (.i 0)]])) (.or (.not (.call f_law_is_run [.var 6, .c (.i 0), .tup [.c (.i 3), .c (.i 0)], .tup [.c (.i 3), .c (.i 4)], .c (.i 9)])) (.not (.call f_law_is_run [.var 6, .c (.i 0), .tup [.c (.i 3), .c (.i 0)], .tup [.c (.i 0), .c (.i 4)], .c (.i 9)])))) [.ret (.c (.b false))] [], .ret (.and (.call f_law_is_run [.var 6, .c (.i 0), .tup [.c (.i 3), .c (.i 0)], .tup [.tup [], .c (.i 4)], .c (.i 9)]) (.call f_law_same [.call f_run [.call f_tricked [.var 6, .c (.i 0), .tup [.c (.i 3), .c (.i 0)]], .tup [.c (.i 3), .c (.i 4), .c (.i 0)], .c (.i 9)], .tup [.c (.s "ended"), .c (.i 4), .c (.i 7)]]))]⟩
def l0_found_from : List S := [.ife (.cmp .nin (.var 4) (.var 2)) [.ex (.meth .append (.var 2) [.var 4])] []]
def l1_found_from : List S := [.for (.n 4) (.sq (.call f_goes_to [.ix (.ix (.ix (.var 0) (.c (.i 1))) (.ix (.var 2) (.var 3))) (.c (.i 1))])) l0_found_from, .aug .add 3 (.c (.i 1))]
def b_found_from : Def := ⟨2, 5, [.asg (.n 2) (.lst [.var 1]), .asg (.n 3) (.c (.i 0)), .whl (.cmp .lt (.var 3) (.bi .len [.var 2])) l1_found_from, .ret (.bi .tuple [.var 2])]⟩
def b_reached : Def := ⟨1, 1, [.ret (.bi .tuple [.bi .sorted [.call f_found_from [.var 0, .c (.i 0)]]])]⟩
def l0_states_of : List S := [.ex (.meth .append (.var 3) [.call f_next_state [.var 0, .ix (.var 3) (.neg (.c (.i 1)))]])]
def b_states_of : Def := ⟨3, 4, [.asg (.n 3) (.lst [.call f_first_state [.var 1]]), .whl (.and (.cmp .le (.bi .len [.var 3]) (.var 2)) (.cmp .eq (.ix (.ix (.var 3) (.neg (.c (.i 1)))) (.c (.i 0))) (.c (.s "at")))) l0_states_of, .ret (.var 3)]⟩
def b_gone_through : Def := ⟨3, 4, [.ret (.comp (.var 3) (.n 3) (.sq (.sl (.call f_states_of [.var 0, .var 1, .var 2]) .none (.some (.var 2)))) (.some (.cmp .eq (.ix (.var 3) (.c (.i 0))) (.c (.s "at")))))]⟩
def b_way_of : Def := ⟨3, 4, [.ret (.bi .tuple [.comp (.ix (.var 3) (.c (.i 1))) (.n 3) (.sq (.call f_gone_through [.var 0, .var 1, .var 2])) .none])]⟩
def b_takes : Def := ⟨1, 1, [.ret (.ite (.cmp .eq (.ix (.var 0) (.c (.i 0))) (.c (.s "do"))) (.call f_arity [.ix (.var 0) (.c (.i 1))]) (.dix 11 (.ix (.var 0) (.c (.i 0)))))]⟩
def b_goes_on_to : Def := ⟨2, 3, [.asg (.n 2) (.ix (.ix (.var 0) (.var 1)) (.c (.i 0))), .ife (.cmp .eq (.var 2) (.c (.s "halt"))) [.ret (.tup [])] [], .ife (.cmp .eq (.var 2) (.c (.s "jump"))) [.ret (.tup [.ix (.ix (.var 0) (.var 1)) (.c (.i 1))])] [], .ret (.ite (.cmp .eq (.var 2) (.c (.s "unless"))) (.tup [.bin .add (.var 1) (.c (.i 1)), .ix (.ix (.var 0) (.var 1)) (.c (.i 1))]) (.tup [.bin .add (.var 1) (.c (.i 1))]))]⟩
def l0_heights_or_none : List S := [.asg (.t [3, 4]) (.meth .pop (.var 2) []), .ife (.or (.not (.chain .le .lt (.c (.i 0)) (.var 3) (.bi .len [.var 0]))) (.or (.cmp .nin (.ix (.var 1) (.var 3)) (.tup [.c .none, .var 4])) (.cmp .lt (.var 4) (.call f_takes [.ix (.var 0) (.var 3)])))) [.ret (.c .none)] [], .ife (.isN (.ix (.var 1) (.var 3))) [.setix (.var 1) (.var 3) (.var 4), .asg (.n 5) (.bin .add (.bin .sub (.var 4) (.call f_takes [.ix (.var 0) (.var 3)])) (.dix 12 (.ix (.ix (.var 0) (.var 3)) (.c (.i 0))))), .aug .add 2 (.comp (.tup [.var 7, .var 5]) (.n 7) (.sq (.call f_goes_on_to [.var 0, .var 3])) .none)] []]
def b_heights_or_none : Def := ⟨1, 8, [.asg (.n 1) (.comp (.c .none) (.n 6) (.sq (.var 0)) .none), .asg (.n 2) (.lst [.tup [.c (.i 0), .c (.i 0)]]), .whl (.cmp .gt (.bi .len [.var 2]) (.c (.i 0))) l0_heights_or_none, .ret (.bi .tuple [.var 1])]⟩
def b_are_variables_there : Def := ⟨2, 3, [.ret (.bi .all [.comp (.chain .le .lt (.c (.i 0)) (.ix (.var 2) (.c (.i 1))) (.var 1)) (.n 2) (.sq (.var 0)) (.some (.cmp .isin (.ix (.var 2) (.c (.i 0))) (.glob 10)))])]⟩
def b_check_code : Def := ⟨2, 2, [.ife (.or (.cmp .eq (.bi .len [.var 0]) (.c (.i 0))) (.or (.not (.call f_are_variables_there [.var 0, .var 1])) (.isN (.call f_heights_or_none [.var 0])))) [.never] []]⟩
def b_code_heights : Def := ⟨1, 1, [.ret (.call f_heights_or_none [.var 0])]⟩
def l0_code_of : List S := [.aug .add 1 (.call f_code_of [.var 2])]
def b_code_of : Def := ⟨1, 3, [.ife (.cmp .eq (.ix (.var 0) (.c (.i 0))) (.c (.s "know"))) [.ret (.tup [.tup [.c (.s "push"), .ix (.var 0) (.c (.i 1))]])] [], .ife (.cmp .eq (.ix (.var 0) (.c (.i 0))) (.c (.s "of"))) [.ret (.tup [.tup [.c (.s "load"), .ix (.var 0) (.c (.i 1))]])] [], .asg (.n 1) (.tup []), .for (.n 2) (.sq (.call f_arguments_of [.var 0])) l0_code_of, .ret (.bin .add (.var 1) (.tup [.tup [.c (.s "do"), .ix (.var 0) (.c (.i 0))]]))]⟩
def l0_assigns_code : List S := [.aug .add 1 (.bin .add (.call f_code_of [.var 3]) (.tup [.tup [.c (.s "keep"), .var 2]]))]
def b_assigns_code : Def := ⟨1, 4, [.asg (.n 1) (.tup []), .for (.t [2, 3]) (.sq (.var 0)) l0_assigns_code, .ret (.var 1)]⟩
def b_jump_to : Def := ⟨3, 3, [.ret (.ite (.cmp .eq (.var 0) (.var 1)) (.tup []) (.tup [.tup [.c (.s "jump"), .ix (.var 2) (.var 0)]]))]⟩
def b_jump_code_v1 : Def := ⟨3, 3, [.ife (.cmp .eq (.ix (.var 0) (.c (.i 0))) (.c (.s "goto"))) [.ret (.call f_jump_to [.ix (.var 0) (.c (.i 1)), .var 1, .var 2])] [], .ife (.cmp .eq (.ix (.var 0) (.c (.i 0))) (.c (.s "end"))) [.ret (.bin .add (.call f_code_of [.ix (.var 0) (.c (.i 1))]) (.tup [.tup [.c (.s "halt")]]))] [], .ret (.bin .add (.bin .add (.call f_code_of [.ix (.var 0) (.c (.i 1))]) (.tup [.tup [.c (.s "unless"), .ix (.var 2) (.ix (.var 0) (.c (.i 3)))]])) (.call f_jump_to [.ix (.var 0) (.c (.i 2)), .var 1, .var 2]))]⟩
def b_code_of_block : Def := ⟨3, 3, [.ret (.bin .add (.call f_assigns_code [.ix (.var 0) (.c (.i 0))]) (.call f_jump_code_v1 [.ix (.var 0) (.c (.i 1)), .var 1, .var 2]))]⟩
def l0_addresses_in : List S := [.setix (.var 3) (.var 5) (.var 4), .aug .add 4 (.bi .len [.call f_code_of_block [.ix (.ix (.var 0) (.c (.i 1))) (.var 5), .ix (.var 2) (.var 5), .var 3]])]
def b_addresses_in : Def := ⟨3, 7, [.asg (.n 3) (.comp (.c (.i 0)) (.n 6) (.sq (.ix (.var 0) (.c (.i 1)))) .none), .asg (.n 4) (.c (.i 0)), .for (.n 5) (.sq (.var 1)) l0_addresses_in, .ret (.bi .tuple [.var 3])]⟩
def l0_code_in : List S := [.aug .add 4 (.call f_code_of_block [.ix (.ix (.var 0) (.c (.i 1))) (.var 5), .ix (.var 2) (.var 5), .var 3])]
def b_code_in : Def := ⟨3, 6, [.asg (.n 3) (.call f_addresses_in [.var 0, .var 1, .var 2]), .asg (.n 4) (.tup []), .for (.n 5) (.sq (.var 1)) l0_code_in, .ret (.var 4)]⟩
def b_none_follow : Def := ⟨1, 2, [.ret (.bi .tuple [.comp (.c .none) (.n 1) (.sq (.ix (.var 0) (.c (.i 1)))) .none])]⟩
def b_own_order : Def := ⟨1, 1, [.ret (.ofIt true (.r1 (.bi .len [.ix (.var 0) (.c (.i 1))])))]⟩
def b_target_of : Def := ⟨1, 1, [.ret (.call f_code_in [.var 0, .call f_own_order [.var 0], .call f_none_follow [.var 0]])]⟩
def b_block_addresses : Def := ⟨1, 1, [.ret (.call f_addresses_in [.var 0, .call f_own_order [.var 0], .call f_none_follow [.var 0]])]⟩
def b_goes_by : Def := ⟨3, 4, [.asg (.n 3) (.ix (.ix (.var 0) (.var 1)) (.c (.i 0))), .ife (.or (.cmp .eq (.var 3) (.c (.s "jump"))) (.and (.cmp .eq (.var 3) (.c (.s "unless"))) (.cmp .eq (.ix (.var 2) (.neg (.c (.i 1)))) (.c (.i 0))))) [.ret (.ix (.ix (.var 0) (.var 1)) (.c (.i 1)))] [], .ret (.bin .add (.var 1) (.c (.i 1)))]⟩
def b_pile_behind : Def := ⟨3, 4, [.ife (.cmp .eq (.ix (.var 0) (.c (.i 0))) (.c (.s "push"))) [.ret (.bin .add (.var 2) (.tup [.ix (.var 0) (.c (.i 1))]))] [], .ife (.cmp .eq (.ix (.var 0) (.c (.i 0))) (.c (.s "load"))) [.ret (.bin .add (.var 2) (.tup [.ix (.var 1) (.ix (.var 0) (.c (.i 1)))]))] [], .asg (.n 3) (.bin .sub (.bi .len [.var 2]) (.call f_takes [.var 0])), .ret (.bin .add (.sl (.var 2) .none (.some (.var 3))) (.ite (.cmp .eq (.ix (.var 0) (.c (.i 0))) (.c (.s "do"))) (.tup [.call f_applied [.ix (.var 0) (.c (.i 1)), .sl (.var 2) (.some (.var 3)) .none]]) (.tup [])))]⟩
def l0_run_code : List S := [.ife (.cmp .eq (.ix (.ix (.var 0) (.var 3)) (.c (.i 0))) (.c (.s "halt"))) [.ret (.tup [.c (.s "ended"), .bin .add (.var 5) (.c (.i 1)), .ix (.var 4) (.neg (.c (.i 1)))])] [], .asg (.n 6) (.call f_goes_by [.var 0, .var 3, .var 4]), .ife (.cmp .eq (.ix (.ix (.var 0) (.var 3)) (.c (.i 0))) (.c (.s "keep"))) [.asg (.n 1) (.call f_with_thing [.var 1, .ix (.ix (.var 0) (.var 3)) (.c (.i 1)), .ix (.var 4) (.neg (.c (.i 1)))])] [], .par 3 4 (.var 6) (.call f_pile_behind [.ix (.var 0) (.var 3), .var 1, .var 4])]
def b_run_code : Def := ⟨3, 7, [.asg (.t [3, 4]) (.tup [.c (.i 0), .tup []]), .for (.n 5) (.r1 (.var 2)) l0_run_code, .ret (.tup [.c (.s "open"), .var 2])]⟩
def b_jump_steps : Def := ⟨3, 4, [.ife (.cmp .eq (.ix (.var 0) (.c (.i 0))) (.c (.s "goto"))) [.ret (.bi .int [.cmp .ne (.ix (.var 0) (.c (.i 1))) (.var 1)])] [], .ife (.cmp .eq (.ix (.var 0) (.c (.i 0))) (.c (.s "end"))) [.ret (.bin .add (.bi .len [.call f_code_of [.ix (.var 0) (.c (.i 1))]]) (.c (.i 1)))] [], .asg (.n 3) (.and (.cmp .eq (.call f_answer_of [.var 0, .var 2]) (.c (.i 1))) (.cmp .ne (.ix (.var 0) (.c (.i 2))) (.var 1))), .ret (.bin .add (.bin .add (.bi .len [.call f_code_of [.ix (.var 0) (.c (.i 1))]]) (.c (.i 1))) (.bi .int [.var 3]))]⟩
def l0_steps_in : List S := [.asg (.t [6, 7]) (.ix (.ix (.var 0) (.c (.i 1))) (.ix (.var 5) (.c (.i 1)))), .asg (.n 8) (.call f_store_behind [.var 6, .ix (.var 5) (.c (.i 2))]), .aug .add 4 (.bin .add (.bi .len [.call f_assigns_code [.var 6]]) (.call f_jump_steps [.var 7, .ix (.var 1) (.ix (.var 5) (.c (.i 1))), .var 8]))]
def b_steps_in : Def := ⟨4, 9, [.asg (.n 4) (.c (.i 0)), .for (.n 5) (.sq (.call f_gone_through [.var 0, .var 2, .var 3])) l0_steps_in, .ret (.var 4)]⟩
def b_target_steps : Def := ⟨3, 3, [.ret (.call f_steps_in [.var 0, .call f_none_follow [.var 0], .var 1, .var 2])]⟩
def l0_line_of : List S := [.ex (.meth .append (.var 5) [.call f_worth [.var 7, .var 4]]), .asg (.n 4) (.call f_with_thing [.var 4, .var 6, .ix (.var 5) (.neg (.c (.i 1)))])]
def b_line_of : Def := ⟨2, 8, [.asg (.t [2, 3]) (.ix (.ix (.var 0) (.c (.i 1))) (.ix (.var 1) (.c (.i 1)))), .asg (.n 4) (.ix (.var 1) (.c (.i 2))), .asg (.n 5) (.lst []), .for (.t [6, 7]) (.sq (.var 2)) l0_line_of, .ife (.cmp .eq (.ix (.var 3) (.c (.i 0))) (.c (.s "end"))) [.ret (.tup [.ix (.var 1) (.c (.i 1)), .bi .tuple [.var 5], .neg (.c (.i 1))])] [], .ret (.tup [.ix (.var 1) (.c (.i 1)), .bi .tuple [.var 5], .call f_block_behind [.var 3, .var 4]])]⟩
def b_book_of : Def := ⟨3, 4, [.ret (.bi .tuple [.comp (.call f_line_of [.var 0, .var 3]) (.n 3) (.sq (.call f_gone_through [.var 0, .var 1, .var 2])) .none])]⟩
def l0_works_in : List S := [.aug .add 1 (.bin .add (.bi .len [.ix (.var 2) (.c (.i 1))]) (.c (.i 1)))]
def b_works_in : Def := ⟨1, 3, [.asg (.n 1) (.c (.i 0)), .for (.n 2) (.sq (.var 0)) l0_works_in, .ret (.var 1)]⟩
def b_law_arity : Def := ⟨1, 1, [.ret (.ix (.call f_law_arities []) (.meth .index (.call f_law_names []) [.var 0]))]⟩
def b_law_goes_on : Def := ⟨2, 2, [.ife (.cmp .eq (.ix (.ix (.var 0) (.var 1)) (.c (.i 0))) (.c (.s "halt"))) [.ret (.lst [])] [], .ife (.cmp .eq (.ix (.ix (.var 0) (.var 1)) (.c (.i 0))) (.c (.s "jump"))) [.ret (.lst [.ix (.ix (.var 0) (.var 1)) (.c (.i 1))])] [], .ife (.cmp .eq (.ix (.ix (.var 0) (.var 1)) (.c (.i 0))) (.c (.s "unless"))) [.ret (.lst [.bin .add (.var 1) (.c (.i 1)), .ix (.ix (.var 0) (.var 1)) (.c (.i 1))])] [], .ret (.lst [.bin .add (.var 1) (.c (.i 1))])]⟩
def b_law_effect : Def := ⟨1, 1, [.ife (.cmp .eq (.ix (.var 0) (.c (.i 0))) (.c (.s "do"))) [.ret (.tup [.call f_law_arity [.ix (.var 0) (.c (.i 1))], .c (.i 1)])] [], .ife (.or (.cmp .eq (.ix (.var 0) (.c (.i 0))) (.c (.s "push"))) (.cmp .eq (.ix (.var 0) (.c (.i 0))) (.c (.s "load")))) [.ret (.tup [.c (.i 0), .c (.i 1)])] [], .ret (.tup [.bi .int [.cmp .ne (.ix (.var 0) (.c (.i 0))) (.c (.s "jump"))], .c (.i 0)])]⟩
def l0_law_heights : List S := [.ife (.cmp .eq (.bi .len [.var 2]) (.c (.i 0))) [.brk] [], .asg (.t [4, 5]) (.meth .pop (.var 2) []), .ife (.or (.cmp .lt (.var 4) (.c (.i 0))) (.cmp .ge (.var 4) (.bi .len [.var 0]))) [.ret (.lst [])] [], .asg (.t [6, 7]) (.call f_law_effect [.ix (.var 0) (.var 4)]), .ife (.or (.cmp .lt (.var 5) (.var 6)) (.and (.isNN (.ix (.var 1) (.var 4))) (.cmp .ne (.ix (.var 1) (.var 4)) (.var 5)))) [.ret (.lst [])] [], .ife (.isN (.ix (.var 1) (.var 4))) [.setix (.var 1) (.var 4) (.var 5), .asg (.n 2) (.bin .add (.var 2) (.comp (.tup [.var 9, .bin .add (.bin .sub (.var 5) (.var 6)) (.var 7)]) (.n 9) (.sq (.call f_law_goes_on [.var 0, .var 4])) .none))] []]
def b_law_heights : Def := ⟨1, 10, [.asg (.n 1) (.comp (.c .none) (.n 8) (.sq (.var 0)) .none), .asg (.n 2) (.lst [.tup [.c (.i 0), .c (.i 0)]]), .for (.n 3) (.r1 (.bin .add (.bin .mul (.c (.i 4)) (.bi .len [.var 0])) (.c (.i 4)))) l0_law_heights, .ret (.var 1)]⟩
def l0_law_code_of : List S := [.asg (.n 1) (.bin .add (.var 1) (.call f_law_code_of [.var 2]))]
def b_law_code_of : Def := ⟨1, 3, [.ife (.cmp .eq (.ix (.var 0) (.c (.i 0))) (.c (.s "know"))) [.ret (.lst [.tup [.c (.s "push"), .ix (.var 0) (.c (.i 1))]])] [], .ife (.cmp .eq (.ix (.var 0) (.c (.i 0))) (.c (.s "of"))) [.ret (.lst [.tup [.c (.s "load"), .ix (.var 0) (.c (.i 1))]])] [], .asg (.n 1) (.lst []), .for (.n 2) (.sq (.sl (.var 0) (.some (.c (.i 1))) .none)) l0_law_code_of, .ret (.bin .add (.var 1) (.lst [.tup [.c (.s "do"), .ix (.var 0) (.c (.i 0))]]))]⟩
def l0_law_block_code : List S := [.asg (.n 3) (.bin .add (.bin .add (.var 3) (.call f_law_code_of [.var 5])) (.lst [.tup [.c (.s "keep"), .var 4]]))]
def b_law_block_code : Def := ⟨3, 8, [.asg (.n 3) (.lst []), .for (.t [4, 5]) (.sq (.ix (.var 0) (.c (.i 0)))) l0_law_block_code, .asg (.n 6) (.ix (.var 0) (.c (.i 1))), .ife (.cmp .eq (.ix (.var 6) (.c (.i 0))) (.c (.s "end"))) [.ret (.bin .add (.bin .add (.var 3) (.call f_law_code_of [.ix (.var 6) (.c (.i 1))])) (.lst [.tup [.c (.s "halt")]]))] [], .asg (.n 7) (.ix (.var 6) (.c (.i 1))), .ife (.cmp .eq (.ix (.var 6) (.c (.i 0))) (.c (.s "test"))) [.asg (.n 3) (.bin .add (.bin .add (.var 3) (.call f_law_code_of [.ix (.var 6) (.c (.i 1))])) (.lst [.tup [.c (.s "unless"), .ix (.var 2) (.ix (.var 6) (.c (.i 3)))]])), .asg (.n 7) (.ix (.var 6) (.c (.i 2)))] [], .ife (.cmp .eq (.var 7) (.var 1)) [.ret (.var 3)] [], .ret (.bin .add (.var 3) (.lst [.tup [.c (.s "jump"), .ix (.var 2) (.var 7)]]))]⟩
def l0_law_laid : List S := [.ife (.not (.var 2)) [.setix (.var 4) (.ix (.var 1) (.var 5)) (.ix (.var 1) (.bin .add (.var 5) (.c (.i 1))))] []]
def l1_law_laid : List S := [.setix (.var 6) (.var 8) (.var 7), .asg (.n 7) (.bin .add (.var 7) (.bi .len [.call f_law_block_code [.ix (.var 3) (.var 8), .ix (.var 4) (.var 8), .comp (.c (.i 0)) (.n 10) (.sq (.var 3)) .none]]))]
def l2_law_laid : List S := [.asg (.n 9) (.bin .add (.var 9) (.call f_law_block_code [.ix (.var 3) (.var 8), .ix (.var 4) (.var 8), .var 6]))]
def b_law_laid : Def := ⟨3, 11, [.asg (.n 3) (.ix (.var 0) (.c (.i 1))), .asg (.n 4) (.comp (.neg (.c (.i 1))) (.n 10) (.sq (.var 3)) .none), .for (.n 5) (.r1 (.bin .sub (.bi .len [.var 1]) (.c (.i 1)))) l0_law_laid, .asg (.n 6) (.comp (.c (.i 0)) (.n 10) (.sq (.var 3)) .none), .asg (.n 7) (.c (.i 0)), .for (.n 8) (.sq (.var 1)) l1_law_laid, .asg (.n 9) (.lst []), .for (.n 8) (.sq (.var 1)) l2_law_laid, .ret (.tup [.bi .tuple [.var 9], .bi .tuple [.var 6]])]⟩
def l0_law_store_steps : List S := [.setix (.var 14) (.var 15) (.call f_law_worth [.var 16, .var 14])]
def l1_law_store_steps : List S := [.asg (.n 10) (.neg (.c (.i 1))), .ife (.and (.not (.var 2)) (.cmp .lt (.bin .add (.meth .index (.var 1) [.var 6]) (.c (.i 1))) (.bi .len [.var 1]))) [.asg (.n 10) (.ix (.var 1) (.bin .add (.meth .index (.var 1) [.var 6]) (.c (.i 1))))] [], .asg (.n 11) (.bi .len [.call f_law_block_code [.ix (.var 5) (.var 6), .var 10, .comp (.c (.i 0)) (.n 17) (.sq (.var 5)) .none]]), .asg (.n 12) (.ix (.ix (.var 5) (.var 6)) (.c (.i 1))), .asg (.n 13) (.call f_law_step [.var 0, .var 6, .var 7]), .ife (.and (.cmp .eq (.ix (.var 12) (.c (.i 0))) (.c (.s "test"))) (.cmp .ne (.ix (.var 12) (.c (.i 2))) (.var 10))) [.asg (.n 14) (.bi .list [.var 7]), .for (.t [15, 16]) (.sq (.ix (.ix (.var 5) (.var 6)) (.c (.i 0)))) l0_law_store_steps, .asg (.n 11) (.bin .sub (.var 11) (.bi .int [.cmp .eq (.call f_law_worth [.ix (.var 12) (.c (.i 1)), .var 14]) (.c (.i 0))]))] [], .asg (.n 8) (.bin .add (.var 8) (.var 11)), .ife (.cmp .lt (.ix (.var 13) (.c (.i 0))) (.c (.i 0))) [.ret (.var 8)] [], .asg (.t [6, 7]) (.var 13)]
def b_law_store_steps : Def := ⟨5, 18, [.asg (.n 5) (.ix (.var 0) (.c (.i 1))), .par3 6 7 8 (.c (.i 0)) (.bi .tuple [.var 3]) (.c (.i 0)), .for (.n 9) (.r1 (.var 4)) l1_law_store_steps, .ret (.var 8)]⟩
def b_law_is_target : Def := ⟨1, 6, [.asg (.n 1) (.ofIt true (.r1 (.bi .len [.ix (.var 0) (.c (.i 1))]))), .asg (.t [2, 3]) (.call f_law_laid [.var 0, .var 1, .c (.b true)]), .ife (.or (.not (.call f_law_same [.call f_target_of [.var 0], .var 2])) (.or (.not (.call f_law_same [.call f_block_addresses [.var 0], .var 3])) (.isNN (.call f_check_code [.var 2, .ix (.var 0) (.c (.i 0))])))) [.ret (.c (.b false))] [], .asg (.n 4) (.call f_code_heights [.var 2]), .ife (.not (.call f_law_same [.var 4, .bi .tuple [.call f_law_heights [.var 2]]])) [.ret (.c (.b false))] [], .ret (.cmp .eq (.bi .len [.comp (.var 5) (.n 5) (.sq (.call f_reached [.var 0])) (.some (.cmp .ne (.ix (.var 4) (.ix (.var 3) (.var 5))) (.c (.i 0))))]) (.c (.i 0)))]⟩
def b_law_is_run_v1 : Def := ⟨3, 7, [.asg (.n 3) (.call f_target_of [.var 0]), .asg (.n 4) (.ofIt true (.r1 (.bi .len [.ix (.var 0) (.c (.i 1))]))), .asg (.n 5) (.call f_law_run [.var 0, .var 1, .var 2]), .asg (.n 6) (.call f_law_store_steps [.var 0, .var 4, .c (.b true), .var 1, .var 2]), .ife (.or (.not (.call f_law_same [.call f_target_steps [.var 0, .var 1, .var 2], .var 6])) (.not (.call f_law_same [.call f_run [.var 0, .var 1, .var 2], .var 5]))) [.ret (.c (.b false))] [], .ife (.cmp .gt (.var 6) (.c (.i 400))) [.ret (.call f_law_same [.call f_run_code [.var 3, .var 1, .c (.i 400)], .tup [.c (.s "open"), .c (.i 400)]])] [], .ife (.cmp .eq (.ix (.var 5) (.c (.i 0))) (.c (.s "ended"))) [.ife (.not (.call f_law_same [.call f_run_code [.var 3, .var 1, .var 6], .tup [.c (.s "ended"), .var 6, .ix (.var 5) (.c (.i 2))]])) [.ret (.c (.b false))] [], .ret (.or (.cmp .eq (.var 6) (.c (.i 1))) (.call f_law_same [.call f_run_code [.var 3, .var 1, .bin .sub (.var 6) (.c (.i 1))], .tup [.c (.s "open"), .bin .sub (.var 6) (.c (.i 1))]]))] [], .ret (.call f_law_same [.call f_run_code [.var 3, .var 1, .var 6], .tup [.c (.s "open"), .var 6]])]⟩
def b_law_are_blocks_met : Def := ⟨3, 9, [.asg (.n 3) (.call f_way_of [.var 0, .var 1, .var 2]), .asg (.n 4) (.call f_book_of [.var 0, .var 1, .var 2]), .asg (.n 5) (.bi .sum [.comp (.bin .add (.bi .len [.ix (.ix (.ix (.var 0) (.c (.i 1))) (.ix (.var 8) (.c (.i 0)))) (.c (.i 0))]) (.c (.i 1))) (.n 8) (.sq (.var 4)) .none]), .ife (.or (.not (.call f_law_same [.call f_works_in [.var 4], .var 5])) (.not (.call f_law_same [.bi .tuple [.comp (.ix (.var 8) (.c (.i 0))) (.n 8) (.sq (.var 4)) .none], .var 3]))) [.ret (.c (.b false))] [], .asg (.n 6) (.comp (.call f_law_store_steps [.var 0, .ofIt true (.r1 (.bi .len [.ix (.var 0) (.c (.i 1))])), .c (.b true), .var 1, .var 7]) (.n 7) (.r2 (.c (.i 1)) (.bin .add (.bi .len [.var 3]) (.c (.i 1)))) .none), .ret (.call f_law_same [.bi .tuple [.comp (.call f_target_steps [.var 0, .var 1, .var 7]) (.n 7) (.r2 (.c (.i 1)) (.bin .add (.bi .len [.var 3]) (.c (.i 1)))) .none], .bi .tuple [.var 6]])]⟩
def l0_law_v6 : List S := [.asg (.n 7) (.call f_law_store [.var 1, .var 4, .var 2]), .ife (.or (.not (.call f_law_is_run_v1 [.var 5, .var 7, .ix (.lst [.c (.i 1), .c (.i 5), .c (.i 16)]) (.var 6)])) (.not (.call f_law_are_blocks_met [.var 5, .var 7, .c (.i 6)]))) [.ret (.c (.b false))] []]
def b_law_v6 : Def := ⟨1, 9, [.asg (.n 1) (.call f_law_draws [.var 0, .c (.i 200)]), .asg (.n 2) (.call f_law_cell [.var 0]), .asg (.n 3) (.bin .add (.c (.i 1)) (.call f_law_take [.var 1, .c (.i 3)])), .asg (.n 4) (.bin .add (.var 3) (.call f_law_take [.var 1, .c (.i 2)])), .asg (.n 5) (.call f_law_program [.var 1, .var 3, .var 4, .bin .add (.c (.i 1)) (.call f_law_take [.var 1, .c (.i 5)]), .var 2]), .ife (.not (.call f_law_is_target [.var 5])) [.ret (.c (.b false))] [], .for (.n 6) (.r1 (.c (.i 3))) l0_law_v6, .asg (.n 5) (.tup [.c (.i 2), .tup [.tup [.tup [.tup [.c (.i 0), .tup [.c (.s "minus"), .tup [.c (.s "of"), .c (.i 0)], .tup [.c (.s "know"), .c (.i 1)]]]], .tup [.c (.s "test"), .tup [.c (.s "of"), .c (.i 0)], .c (.i 0), .c (.i 1)]], .tup [.tup [], .tup [.c (.s "end"), .tup [.c (.s "join"), .tup [.c (.s "of"), .c (.i 0)], .tup [.c (.s "of"), .c (.i 1)]]]]]]), .asg (.n 8) (.tup [.tup [.c (.s "load"), .c (.i 0)], .tup [.c (.s "push"), .c (.i 1)], .tup [.c (.s "do"), .c (.s "minus")], .tup [.c (.s "keep"), .c (.i 0)], .tup [.c (.s "load"), .c (.i 0)], .tup [.c (.s "unless"), .c (.i 7)], .tup [.c (.s "jump"), .c (.i 0)], .tup [.c (.s "load"), .c (.i 0)], .tup [.c (.s "load"), .c (.i 1)], .tup [.c (.s "do"), .c (.s "join")], .tup [.c (.s "halt")]]), .ife (.or (.not (.call f_law_same [.call f_target_of [.var 5], .var 8])) (.not (.call f_law_same [.call f_block_addresses [.var 5], .tup [.c (.i 0), .c (.i 7)]]))) [.ret (.c (.b false))] [], .ret (.and (.call f_law_is_run_v1 [.var 5, .tup [.c (.i 2), .tup [.c (.i 5)]], .c (.i 9)]) (.and (.call f_law_same [.call f_target_steps [.var 5, .tup [.c (.i 2), .tup [.c (.i 5)]], .c (.i 9)], .c (.i 17)]) (.call f_law_same [.call f_run_code [.var 8, .tup [.c (.i 2), .tup [.c (.i 5)]], .c (.i 17)], .tup [.c (.s "ended"), .c (.i 17), .tup [.c (.i 0), .c (.i 5)]]])))]⟩
def l0_follows_in : List S := [.setix (.var 1) (.ix (.var 0) (.bin .sub (.var 2) (.c (.i 1)))) (.ix (.var 0) (.var 2))]
def b_follows_in : Def := ⟨1, 4, [.asg (.n 1) (.comp (.c .none) (.n 3) (.sq (.var 0)) .none), .for (.n 2) (.r2 (.c (.i 1)) (.bi .len [.var 0])) l0_follows_in, .ret (.bi .tuple [.var 1])]⟩
def b_laid_out : Def := ⟨2, 2, [.ret (.call f_code_in [.var 0, .var 1, .call f_follows_in [.var 1]])]⟩
def b_jumps_in : Def := ⟨1, 2, [.ret (.bi .len [.comp (.c (.i 1)) (.n 1) (.sq (.var 0)) (.some (.cmp .eq (.ix (.var 1) (.c (.i 0))) (.c (.s "jump"))))])]⟩
def b_first_way : Def := ⟨1, 1, [.ife (.cmp .eq (.ix (.var 0) (.c (.i 0))) (.c (.s "end"))) [.ret (.c .none)] [], .ret (.ite (.cmp .eq (.ix (.var 0) (.c (.i 0))) (.c (.s "goto"))) (.ix (.var 0) (.c (.i 1))) (.ix (.var 0) (.c (.i 2))))]⟩
def b_needs_jump : Def := ⟨2, 3, [.asg (.n 2) (.call f_first_way [.ix (.var 0) (.c (.i 1))]), .ret (.and (.isNN (.var 2)) (.cmp .ne (.var 2) (.var 1)))]⟩
def b_jumps_by : Def := ⟨2, 4, [.asg (.n 2) (.call f_follows_in [.var 1]), .ret (.bi .len [.comp (.c (.i 1)) (.n 3) (.sq (.var 1)) (.some (.call f_needs_jump [.ix (.ix (.var 0) (.c (.i 1))) (.var 3), .ix (.var 2) (.var 3)]))])]⟩
def l0_all_orders : List S := [.asg (.n 1) (.comp2 (.bin .add (.var 3) (.tup [.var 4])) (.n 3) (.sq (.var 1)) (.n 4) (.r1 (.var 0)) (.some (.cmp .nin (.var 4) (.var 3))))]
def b_all_orders : Def := ⟨1, 5, [.asg (.n 1) (.lst [.tup [.c (.i 0)]]), .for (.n 2) (.r2 (.c (.i 1)) (.var 0)) l0_all_orders, .ret (.var 1)]⟩
def l0_fewest_jumps : List S := [.asg (.n 4) (.call f_jumps_by [.var 0, .var 3]), .ife (.or (.isN (.var 2)) (.cmp .lt (.var 4) (.var 2))) [.par 1 2 (.var 3) (.var 4)] []]
def b_fewest_jumps : Def := ⟨1, 5, [.asg (.t [1, 2]) (.tup [.c .none, .c .none]), .for (.n 3) (.sq (.call f_all_orders [.bi .len [.ix (.var 0) (.c (.i 1))]])) l0_fewest_jumps, .ret (.var 1)]⟩
def b_laid_steps : Def := ⟨4, 4, [.ret (.call f_steps_in [.var 0, .call f_follows_in [.var 1], .var 2, .var 3])]⟩
def l0_law_order : List S := [.ex (.meth .append (.var 3) [.meth .popAt (.var 2) [.call f_law_take [.var 0, .bi .len [.var 2]]]])]
def b_law_order : Def := ⟨2, 5, [.asg (.n 2) (.ofIt false (.r2 (.c (.i 1)) (.var 1))), .asg (.n 3) (.lst [.c (.i 0)]), .for (.n 4) (.r1 (.bin .sub (.var 1) (.c (.i 1)))) l0_law_order, .ret (.bi .tuple [.var 3])]⟩
def b_law_is_laid : Def := ⟨2, 5, [.asg (.n 2) (.ix (.call f_law_laid [.var 0, .var 1, .c (.b false)]) (.c (.i 0))), .ife (.or (.not (.call f_law_same [.call f_laid_out [.var 0, .var 1], .var 2])) (.isNN (.call f_check_code [.var 2, .ix (.var 0) (.c (.i 0))]))) [.ret (.c (.b false))] [], .ret (.and (.call f_law_same [.call f_jumps_in [.var 2], .bi .len [.comp (.c (.i 1)) (.n 3) (.sq (.var 2)) (.some (.cmp .eq (.ix (.var 3) (.c (.i 0))) (.c (.s "jump"))))]]) (.call f_law_same [.call f_jumps_in [.call f_target_of [.var 0]], .bi .len [.comp (.c (.i 1)) (.n 4) (.sq (.ix (.var 0) (.c (.i 1)))) (.some (.cmp .ne (.ix (.ix (.var 4) (.c (.i 1))) (.c (.i 0))) (.c (.s "end"))))]]))]⟩
def l0_law_orders : List S := [.asg (.n 3) (.bin .add (.var 3) (.comp (.bin .add (.var 4) (.tup [.var 5])) (.n 5) (.r1 (.var 0)) (.some (.cmp .nin (.var 5) (.var 4)))))]
def l1_law_orders : List S := [.asg (.n 3) (.lst []), .for (.n 4) (.sq (.var 1)) l0_law_orders, .asg (.n 1) (.var 3)]
def b_law_orders : Def := ⟨1, 6, [.asg (.n 1) (.lst [.tup [.c (.i 0)]]), .for (.n 2) (.r1 (.bin .sub (.var 0) (.c (.i 1)))) l1_law_orders, .ret (.var 1)]⟩
def l0_law_jumps : List S := [.asg (.n 4) (.ix (.ix (.ix (.var 0) (.c (.i 1))) (.ix (.var 1) (.var 3))) (.c (.i 1))), .asg (.n 5) (.ix (.bin .add (.var 1) (.tup [.neg (.c (.i 1))])) (.bin .add (.var 3) (.c (.i 1)))), .ife (.cmp .ne (.ix (.var 4) (.c (.i 0))) (.c (.s "end"))) [.asg (.n 6) (.ite (.cmp .eq (.ix (.var 4) (.c (.i 0))) (.c (.s "goto"))) (.ix (.var 4) (.c (.i 1))) (.ix (.var 4) (.c (.i 2)))), .asg (.n 2) (.bin .add (.var 2) (.bi .int [.cmp .ne (.var 6) (.var 5)]))] []]
def b_law_jumps : Def := ⟨2, 7, [.asg (.n 2) (.c (.i 0)), .for (.n 3) (.r1 (.bi .len [.var 1])) l0_law_jumps, .ret (.var 2)]⟩
def b_law_is_run_v2 : Def := ⟨4, 7, [.asg (.n 4) (.call f_law_run [.var 0, .var 2, .var 3]), .asg (.n 5) (.call f_law_store_steps [.var 0, .var 1, .c (.b false), .var 2, .var 3]), .ife (.or (.not (.call f_law_same [.call f_laid_steps [.var 0, .var 1, .var 2, .var 3], .var 5])) (.cmp .gt (.var 5) (.call f_target_steps [.var 0, .var 2, .var 3]))) [.ret (.c (.b false))] [], .asg (.n 6) (.call f_laid_out [.var 0, .var 1]), .ife (.cmp .gt (.var 5) (.c (.i 400))) [.ret (.call f_law_same [.call f_run_code [.var 6, .var 2, .c (.i 400)], .tup [.c (.s "open"), .c (.i 400)]])] [], .ife (.cmp .eq (.ix (.var 4) (.c (.i 0))) (.c (.s "ended"))) [.ret (.and (.call f_law_same [.call f_run_code [.var 6, .var 2, .var 5], .tup [.c (.s "ended"), .var 5, .ix (.var 4) (.c (.i 2))]]) (.call f_law_same [.call f_run [.var 0, .var 2, .var 3], .var 4]))] [], .ret (.call f_law_same [.call f_run_code [.var 6, .var 2, .bi .max2 [.c (.i 1), .var 5]], .tup [.c (.s "open"), .bi .max2 [.c (.i 1), .var 5]]])]⟩
def l0_law_v7 : List S := [.asg (.n 10) (.call f_law_jumps [.var 5, .var 9]), .ife (.or (.cmp .lt (.var 8) (.c (.i 0))) (.cmp .lt (.var 10) (.var 8))) [.par 7 8 (.var 9) (.var 10)] []]
def l1_law_v7 : List S := [.ife (.or (.not (.call f_law_is_laid [.var 5, .var 9])) (.not (.call f_law_is_run_v2 [.var 5, .var 9, .call f_law_store [.var 1, .var 4, .var 2], .c (.i 16)]))) [.ret (.c (.b false))] []]
def b_law_v7 : Def := ⟨1, 13, [.asg (.n 1) (.call f_law_draws [.var 0, .c (.i 200)]), .asg (.n 2) (.call f_law_cell [.var 0]), .asg (.n 3) (.bin .add (.c (.i 1)) (.call f_law_take [.var 1, .c (.i 3)])), .asg (.n 4) (.bin .add (.var 3) (.call f_law_take [.var 1, .c (.i 2)])), .asg (.n 5) (.call f_law_program [.var 1, .var 3, .var 4, .bin .add (.c (.i 1)) (.call f_law_take [.var 1, .c (.i 5)]), .var 2]), .asg (.n 6) (.bi .len [.ix (.var 5) (.c (.i 1))]), .asg (.n 7) (.tup [.c (.i 0)]), .asg (.n 8) (.neg (.c (.i 1))), .for (.n 9) (.sq (.call f_law_orders [.var 6])) l0_law_v7, .ife (.or (.not (.call f_law_same [.call f_fewest_jumps [.var 5], .var 7])) (.not (.call f_law_same [.call f_jumps_in [.call f_laid_out [.var 5, .var 7]], .var 8]))) [.ret (.c (.b false))] [], .for (.n 9) (.sq (.lst [.var 7, .ofIt true (.r1 (.var 6)), .call f_law_order [.var 1, .var 6]])) l1_law_v7, .asg (.n 11) (.tup [.tup [.tup [.tup [.c (.i 0), .tup [.c (.s "minus"), .tup [.c (.s "of"), .c (.i 0)], .tup [.c (.s "know"), .c (.i 1)]]]], .tup [.c (.s "goto"), .c (.i 2)]], .tup [.tup [], .tup [.c (.s "end"), .tup [.c (.s "of"), .c (.i 0)]]], .tup [.tup [], .tup [.c (.s "test"), .tup [.c (.s "of"), .c (.i 0)], .c (.i 0), .c (.i 1)]]]), .asg (.n 5) (.tup [.c (.i 1), .var 11]), .ife (.or (.not (.call f_law_same [.call f_fewest_jumps [.var 5], .tup [.c (.i 0), .c (.i 2), .c (.i 1)]])) (.or (.not (.call f_law_same [.call f_jumps_in [.call f_laid_out [.var 5, .tup [.c (.i 0), .c (.i 2), .c (.i 1)]]], .c (.i 1)])) (.not (.call f_law_is_laid [.var 5, .tup [.c (.i 0), .c (.i 2), .c (.i 1)]])))) [.ret (.c (.b false))] [], .asg (.n 12) (.tup [.tup [.c (.s "load"), .c (.i 0)], .tup [.c (.s "push"), .c (.i 1)], .tup [.c (.s "do"), .c (.s "minus")], .tup [.c (.s "keep"), .c (.i 0)], .tup [.c (.s "load"), .c (.i 0)], .tup [.c (.s "unless"), .c (.i 7)], .tup [.c (.s "jump"), .c (.i 0)], .tup [.c (.s "load"), .c (.i 0)], .tup [.c (.s "halt")]]), .ife (.or (.not (.call f_law_same [.call f_laid_out [.var 5, .tup [.c (.i 0), .c (.i 2), .c (.i 1)]], .var 12])) (.not (.call f_law_is_run_v2 [.var 5, .tup [.c (.i 0), .c (.i 2), .c (.i 1)], .tup [.c (.i 2)], .c (.i 9)]))) [.ret (.c (.b false))] [], .ret (.and (.call f_law_same [.call f_laid_steps [.var 5, .tup [.c (.i 0), .c (.i 2), .c (.i 1)], .tup [.c (.i 2)], .c (.i 9)], .c (.i 15)]) (.call f_law_is_run_v2 [.var 5, .tup [.c (.i 0), .c (.i 1), .c (.i 2)], .tup [.c (.i 3)], .c (.i 9)]))]⟩
def F (n : Nat) : Option Def := (bif Nat.blt n 218 then (bif Nat.blt n 148 then (bif Nat.blt n 21 then (bif Nat.blt n 11 then (bif Nat.blt n 5 then (bif Nat.blt n 3 then (bif Nat.blt n 2 then (bif Nat.beq n 1 then some b_arity else none) else (bif Nat.beq n 2 then some b_items_of else none)) else (bif Nat.blt n 4 then (bif Nat.beq n 3 then some b_number_of else none) else (bif Nat.beq n 4 then some b_item_of else none))) else (bif Nat.blt n 8 then (bif Nat.blt n 6 then (bif Nat.beq n 5 then some b_with_item else none) else (bif Nat.beq n 6 then some b_place_of else none)) else (bif Nat.blt n 10 then (bif Nat.beq n 8 then some b_look else none) else (bif Nat.beq n 10 then some b_compare else none)))) else (bif Nat.blt n 16 then (bif Nat.blt n 14 then (bif Nat.blt n 13 then (bif Nat.beq n 11 then some b_combine else none) else (bif Nat.beq n 13 then some b_is_expression_code else none)) else (bif Nat.blt n 15 then (bif Nat.beq n 14 then some b_is_fixed else none) else (bif Nat.beq n 15 then some b_told_by else none))) else (bif Nat.blt n 18 then (bif Nat.blt n 17 then (bif Nat.beq n 16 then some b_lessened_by else none) else (bif Nat.beq n 17 then some b_reflect else none)) else (bif Nat.blt n 19 then (bif Nat.beq n 18 then some b_applied else none) else (bif Nat.blt n 20 then (bif Nat.beq n 19 then some b_worth else none) else (bif Nat.beq n 20 then some b_arguments_of else none)))))) else (bif Nat.blt n 34 then (bif Nat.blt n 27 then (bif Nat.blt n 25 then (bif Nat.blt n 22 then (bif Nat.beq n 21 then some b_all_within else none) else (bif Nat.beq n 22 then some b_is_known_by else none)) else (bif Nat.blt n 26 then (bif Nat.beq n 25 then some b_goes_to else none) else (bif Nat.beq n 26 then some b_asked_by else none))) else (bif Nat.blt n 29 then (bif Nat.blt n 28 then (bif Nat.beq n 27 then some b_is_expression_for else none) else (bif Nat.beq n 28 then some b_is_block_for else none)) else (bif Nat.blt n 30 then (bif Nat.beq n 29 then some b_is_program else none) else (bif Nat.blt n 31 then (bif Nat.beq n 30 then some b_check_program else none) else (bif Nat.beq n 31 then some b_assignments_of else none))))) else (bif Nat.blt n 143 then (bif Nat.blt n 38 then (bif Nat.blt n 37 then (bif Nat.beq n 34 then some b_jump_code_v1 else none) else (bif Nat.beq n 37 then some b_with_thing else none)) else (bif Nat.blt n 39 then (bif Nat.beq n 38 then some b_answer_of else none) else (bif Nat.beq n 39 then some b_block_behind else none))) else (bif Nat.blt n 145 then (bif Nat.blt n 144 then (bif Nat.beq n 143 then some b_law_draws else none) else (bif Nat.beq n 144 then some b_law_take else none)) else (bif Nat.blt n 146 then (bif Nat.beq n 145 then some b_law_cell else none) else (bif Nat.blt n 147 then (bif Nat.beq n 146 then some b_law_names else none) else (bif Nat.beq n 147 then some b_law_arities else none))))))) else (bif Nat.blt n 183 then (bif Nat.blt n 156 then (bif Nat.blt n 152 then (bif Nat.blt n 150 then (bif Nat.blt n 149 then (bif Nat.beq n 148 then some b_law_row else none) else (bif Nat.beq n 149 then some b_law_item else none)) else (bif Nat.blt n 151 then (bif Nat.beq n 150 then some b_law_of_one else none) else (bif Nat.beq n 151 then some b_law_of_two else none))) else (bif Nat.blt n 154 then (bif Nat.blt n 153 then (bif Nat.beq n 152 then some b_law_of_three else none) else (bif Nat.beq n 153 then some b_law_is_code else none)) else (bif Nat.blt n 155 then (bif Nat.beq n 154 then some b_law_is_fixed else none) else (bif Nat.beq n 155 then some b_law_told else none)))) else (bif Nat.blt n 160 then (bif Nat.blt n 158 then (bif Nat.blt n 157 then (bif Nat.beq n 156 then some b_law_less_code else none) else (bif Nat.beq n 157 then some b_law_apply else none)) else (bif Nat.blt n 159 then (bif Nat.beq n 158 then some b_law_worth else none) else (bif Nat.beq n 159 then some b_law_step else none))) else (bif Nat.blt n 166 then (bif Nat.blt n 161 then (bif Nat.beq n 160 then some b_law_run else none) else (bif Nat.beq n 161 then some b_law_same else none)) else (bif Nat.blt n 177 then (bif Nat.beq n 166 then some b_law_known_part else none) else (bif Nat.blt n 182 then (bif Nat.beq n 177 then some b_law_v1 else none) else (bif Nat.beq n 182 then some b_law_v6 else none)))))) else (bif Nat.blt n 209 then (bif Nat.blt n 204 then (bif Nat.blt n 202 then (bif Nat.blt n 201 then (bif Nat.beq n 183 then some b_law_v7 else none) else (bif Nat.beq n 201 then some b_put_in else none)) else (bif Nat.blt n 203 then (bif Nat.beq n 202 then some b_last_block else none) else (bif Nat.beq n 203 then some b_asking_block else none))) else (bif Nat.blt n 206 then (bif Nat.blt n 205 then (bif Nat.beq n 204 then some b_telling_block else none) else (bif Nat.beq n 205 then some b_with_other else none)) else (bif Nat.blt n 207 then (bif Nat.beq n 206 then some b_moved_jump else none) else (bif Nat.blt n 208 then (bif Nat.beq n 207 then some b_moved_block else none) else (bif Nat.beq n 208 then some b_tricked else none))))) else (bif Nat.blt n 213 then (bif Nat.blt n 211 then (bif Nat.blt n 210 then (bif Nat.beq n 209 then some b_tricked_division else none) else (bif Nat.beq n 210 then some b_tricked_known else none)) else (bif Nat.blt n 212 then (bif Nat.beq n 211 then some b_tricked_store else none) else (bif Nat.beq n 212 then some b_mixing else none))) else (bif Nat.blt n 215 then (bif Nat.blt n 214 then (bif Nat.beq n 213 then some b_is_right else none) else (bif Nat.beq n 214 then some b_first_state else none)) else (bif Nat.blt n 216 then (bif Nat.beq n 215 then some b_store_behind else none) else (bif Nat.blt n 217 then (bif Nat.beq n 216 then some b_next_state else none) else (bif Nat.beq n 217 then some b_run else none)))))))) else (bif Nat.blt n 308 then (bif Nat.blt n 237 then (bif Nat.blt n 226 then (bif Nat.blt n 222 then (bif Nat.blt n 220 then (bif Nat.blt n 219 then (bif Nat.beq n 218 then some b_law_thing else none) else (bif Nat.beq n 219 then some b_law_variables else none)) else (bif Nat.blt n 221 then (bif Nat.beq n 220 then some b_law_known else none) else (bif Nat.beq n 221 then some b_law_greatest else none))) else (bif Nat.blt n 224 then (bif Nat.blt n 223 then (bif Nat.beq n 222 then some b_law_simple else none) else (bif Nat.beq n 223 then some b_law_fall else none)) else (bif Nat.blt n 225 then (bif Nat.beq n 224 then some b_law_build else none) else (bif Nat.beq n 225 then some b_law_program else none)))) else (bif Nat.blt n 230 then (bif Nat.blt n 228 then (bif Nat.blt n 227 then (bif Nat.beq n 226 then some b_law_store else none) else (bif Nat.beq n 227 then some b_law_renamed else none)) else (bif Nat.blt n 229 then (bif Nat.beq n 228 then some b_law_tricked else none) else (bif Nat.beq n 229 then some b_law_unassigned else none))) else (bif Nat.blt n 232 then (bif Nat.blt n 231 then (bif Nat.beq n 230 then some b_law_unlike_things else none) else (bif Nat.beq n 231 then some b_law_with else none)) else (bif Nat.blt n 235 then (bif Nat.beq n 232 then some b_law_is_told else none) else (bif Nat.blt n 236 then (bif Nat.beq n 235 then some b_law_is_run else none) else (bif Nat.beq n 236 then some b_law_is_run_v1 else none)))))) else (bif Nat.blt n 299 then (bif Nat.blt n 294 then (bif Nat.blt n 290 then (bif Nat.blt n 238 then (bif Nat.beq n 237 then some b_law_is_run_v2 else none) else (bif Nat.beq n 238 then some b_found_from else none)) else (bif Nat.blt n 291 then (bif Nat.beq n 290 then some b_states_of else none) else (bif Nat.beq n 291 then some b_gone_through else none))) else (bif Nat.blt n 296 then (bif Nat.blt n 295 then (bif Nat.beq n 294 then some b_takes else none) else (bif Nat.beq n 295 then some b_goes_on_to else none)) else (bif Nat.blt n 297 then (bif Nat.beq n 296 then some b_heights_or_none else none) else (bif Nat.blt n 298 then (bif Nat.beq n 297 then some b_are_variables_there else none) else (bif Nat.beq n 298 then some b_check_code else none))))) else (bif Nat.blt n 303 then (bif Nat.blt n 301 then (bif Nat.blt n 300 then (bif Nat.beq n 299 then some b_code_of else none) else (bif Nat.beq n 300 then some b_assigns_code else none)) else (bif Nat.blt n 302 then (bif Nat.beq n 301 then some b_jump_to else none) else (bif Nat.beq n 302 then some b_code_of_block else none))) else (bif Nat.blt n 305 then (bif Nat.blt n 304 then (bif Nat.beq n 303 then some b_addresses_in else none) else (bif Nat.beq n 304 then some b_code_in else none)) else (bif Nat.blt n 306 then (bif Nat.beq n 305 then some b_none_follow else none) else (bif Nat.blt n 307 then (bif Nat.beq n 306 then some b_own_order else none) else (bif Nat.beq n 307 then some b_target_of else none))))))) else (bif Nat.blt n 336 then (bif Nat.blt n 318 then (bif Nat.blt n 312 then (bif Nat.blt n 310 then (bif Nat.blt n 309 then (bif Nat.beq n 308 then some b_goes_by else none) else (bif Nat.beq n 309 then some b_pile_behind else none)) else (bif Nat.blt n 311 then (bif Nat.beq n 310 then some b_run_code else none) else (bif Nat.beq n 311 then some b_jump_steps else none))) else (bif Nat.blt n 315 then (bif Nat.blt n 313 then (bif Nat.beq n 312 then some b_steps_in else none) else (bif Nat.beq n 313 then some b_target_steps else none)) else (bif Nat.blt n 316 then (bif Nat.beq n 315 then some b_code_heights else none) else (bif Nat.blt n 317 then (bif Nat.beq n 316 then some b_law_arity else none) else (bif Nat.beq n 317 then some b_law_goes_on else none))))) else (bif Nat.blt n 323 then (bif Nat.blt n 321 then (bif Nat.blt n 319 then (bif Nat.beq n 318 then some b_law_effect else none) else (bif Nat.beq n 319 then some b_law_heights else none)) else (bif Nat.blt n 322 then (bif Nat.beq n 321 then some b_law_code_of else none) else (bif Nat.beq n 322 then some b_law_block_code else none))) else (bif Nat.blt n 333 then (bif Nat.blt n 332 then (bif Nat.beq n 323 then some b_law_laid else none) else (bif Nat.beq n 332 then some b_reached else none)) else (bif Nat.blt n 334 then (bif Nat.beq n 333 then some b_way_of else none) else (bif Nat.blt n 335 then (bif Nat.beq n 334 then some b_block_addresses else none) else (bif Nat.beq n 335 then some b_line_of else none)))))) else (bif Nat.blt n 345 then (bif Nat.blt n 340 then (bif Nat.blt n 338 then (bif Nat.blt n 337 then (bif Nat.beq n 336 then some b_book_of else none) else (bif Nat.beq n 337 then some b_works_in else none)) else (bif Nat.blt n 339 then (bif Nat.beq n 338 then some b_law_store_steps else none) else (bif Nat.beq n 339 then some b_law_is_target else none))) else (bif Nat.blt n 342 then (bif Nat.blt n 341 then (bif Nat.beq n 340 then some b_law_are_blocks_met else none) else (bif Nat.beq n 341 then some b_follows_in else none)) else (bif Nat.blt n 343 then (bif Nat.beq n 342 then some b_laid_out else none) else (bif Nat.blt n 344 then (bif Nat.beq n 343 then some b_jumps_in else none) else (bif Nat.beq n 344 then some b_first_way else none))))) else (bif Nat.blt n 349 then (bif Nat.blt n 347 then (bif Nat.blt n 346 then (bif Nat.beq n 345 then some b_needs_jump else none) else (bif Nat.beq n 346 then some b_jumps_by else none)) else (bif Nat.blt n 348 then (bif Nat.beq n 347 then some b_all_orders else none) else (bif Nat.beq n 348 then some b_fewest_jumps else none))) else (bif Nat.blt n 351 then (bif Nat.blt n 350 then (bif Nat.beq n 349 then some b_laid_steps else none) else (bif Nat.beq n 350 then some b_law_order else none)) else (bif Nat.blt n 352 then (bif Nat.beq n 351 then some b_law_is_laid else none) else (bif Nat.blt n 353 then (bif Nat.beq n 352 then some b_law_orders else none) else (bif Nat.beq n 353 then some b_law_jumps else none)))))))))
def c_NAMES : D := .t [.s "first", .s "rest", .s "join", .s "more", .s "item", .s "put", .s "length", .s "place", .s "same", .s "less", .s "some", .s "listed", .s "plus", .s "minus", .s "choose", .s "fixed", .s "told", .s "lessened"]
def c_ABOUT_VARIABLES : D := .t [.s "load", .s "keep"]
def G : Nat → Option D
  | 0 => some c_NAMES
  | 10 => some c_ABOUT_VARIABLES
  | _ => none
def Tb : Nat → String → Option D
  | 1, "first" => some (.i 1)
  | 1, "rest" => some (.i 1)
  | 1, "join" => some (.i 2)
  | 1, "more" => some (.i 2)
  | 1, "item" => some (.i 2)
  | 1, "put" => some (.i 3)
  | 1, "length" => some (.i 1)
  | 1, "place" => some (.i 2)
  | 1, "same" => some (.i 2)
  | 1, "less" => some (.i 2)
  | 1, "some" => some (.i 1)
  | 1, "listed" => some (.i 1)
  | 1, "plus" => some (.i 2)
  | 1, "minus" => some (.i 2)
  | 1, "choose" => some (.i 3)
  | 1, "fixed" => some (.i 2)
  | 1, "told" => some (.i 2)
  | 1, "lessened" => some (.i 3)
  | 11, "push" => some (.i 0)
  | 11, "load" => some (.i 0)
  | 11, "keep" => some (.i 1)
  | 11, "jump" => some (.i 0)
  | 11, "unless" => some (.i 1)
  | 11, "halt" => some (.i 1)
  | 12, "push" => some (.i 1)
  | 12, "load" => some (.i 1)
  | 12, "keep" => some (.i 0)
  | 12, "do" => some (.i 1)
  | 12, "jump" => some (.i 0)
  | 12, "unless" => some (.i 0)
  | 12, "halt" => some (.i 0)
  | _, _ => none
def JP : Prog := ⟨G, Tb, F, 100000⟩
end J
set_option maxRecDepth 10000
/-! Things, expressions and programs with Lean types; what operations give. -/
namespace J
abbrev Pu (k f : Nat) (ws : List W) (r : D) : Prop := ∀ j, k ≤ j → ∀ h, call JP j f ws h = some (.d r, h)
abbrev cx (j : Nat) : Ctx := ⟨G, Tb, call JP j, JP.wf⟩
theorem pu {k f : Nat} {d : Def} {ws : List W} {r : D} (hF : JP.F f = some d) (hl : ws.length = d.np) (H : ∀ j, k ≤ j → ∀ h, ret h.length (execs (cx j) d.body (ws.map some ++ List.replicate (d.ns - d.np) none) h) = some (.d r, h)) : Pu (k + 1) f ws r := by
  intro j hj h
  obtain ⟨i, rfl⟩ : ∃ i, j = i + 1 := ⟨j - 1, by omega⟩
  rw [call_def hF hl]
  exact H i (by omega) h
theorem pl {k f : Nat} {d : Def} {ws : List W} {h : LH} {R : Option (W × LH)} (hF : JP.F f = some d) (hl : ws.length = d.np) (H : ret h.length (execs (cx k) d.body (ws.map some ++ List.replicate (d.ns - d.np) none) h) = R) : call JP (k + 1) f ws h = R := by
  rw [call_def hF hl]
  exact H
/-- the same of a call that changes nothing and may look at the heap -/
theorem pc {k f : Nat} {d : Def} {ws : List W} {r : D} {h : LH} (hF : JP.F f = some d) (hl : ws.length = d.np) (H : ∀ j, k ≤ j → ret h.length (execs (cx j) d.body (ws.map some ++ List.replicate (d.ns - d.np) none) h) = some (.d r, h)) : ∀ j, k + 1 ≤ j → call JP j f ws h = some (.d r, h) := by
  intro j hj
  obtain ⟨i, rfl⟩ : ∃ i, j = i + 1 := ⟨j - 1, by omega⟩
  rw [call_def hF hl]
  exact H i (by omega)
theorem cutL_to {α : Type} (xs : List α) (k : Nat) (hk : k ≤ xs.length) : cutL xs none (some (k : Int)) = xs.take k := by
  unfold cutL cutAt
  have : ¬ ((k : Int) < 0) := by omega
  simp [Nat.min_eq_left hk, this]
theorem cutL_from {α : Type} (xs : List α) (k : Nat) (hk : k ≤ xs.length) : cutL xs (some (k : Int)) none = xs.drop k := by
  unfold cutL cutAt
  have : ¬ ((k : Int) < 0) := by omega
  simp [Nat.min_eq_left hk, this]
theorem cutL_from1 {α : Type} (xs : List α) (k : Nat) (hk : k + 1 ≤ xs.length) : cutL xs (some ((k : Int) + 1)) none = xs.drop (k + 1) := by
  have := cutL_from xs (k + 1) hk
  simpa using this
@[simp] theorem cutL_1' (xs : List D) : cutL xs (some 1) none = xs.drop 1 := by
  unfold cutL cutAt
  rcases xs with _ | ⟨x, xs⟩
  · simp
  · simp
@[simp] theorem allD_mc {α : Type} (g : α → D) (xs : List α) : allD (xs.map (W.d ∘ g)) = some (xs.map g) := by
  have := allD_map' (xs.map g)
  simpa using this
@[simp] theorem allD_app : ∀ (xs ys : List W), allD (xs ++ ys) = (allD xs).bind fun a => (allD ys).map (a ++ ·)
  | [], ys => by simp
  | .d x :: r, ys => by
    simp only [List.cons_append, allD_cons, allD_app r ys]
    cases allD r <;> cases allD ys <;> simp
  | .l a :: r, ys => by simp [allD]
@[simp] theorem ixN_4 (n : Nat) : ixN (n + 5) 4 = some 4 := by unfold ixN; rw [if_pos (by omega), if_pos (by omega)]; rfl
@[simp] theorem ixN_5 (n : Nat) : ixN (n + 6) 5 = some 5 := by unfold ixN; rw [if_pos (by omega), if_pos (by omega)]; rfl
@[simp] theorem ixN_6 (n : Nat) : ixN (n + 7) 6 = some 6 := by unfold ixN; rw [if_pos (by omega), if_pos (by omega)]; rfl
@[simp] theorem ixN_7 (n : Nat) : ixN (n + 8) 7 = some 7 := by unfold ixN; rw [if_pos (by omega), if_pos (by omega)]; rfl
@[simp] theorem ixN_8 (n : Nat) : ixN (n + 9) 8 = some 8 := by unfold ixN; rw [if_pos (by omega), if_pos (by omega)]; rfl
@[simp] theorem ixN_9 (n : Nat) : ixN (n + 10) 9 = some 9 := by unfold ixN; rw [if_pos (by omega), if_pos (by omega)]; rfl
/-! ### things -/
/-- a thing nesting at most d deep, its tuples of at most n items -/
inductive Tn : Nat → Nat → D → Prop where
  | i (d n : Nat) (x : Int) : Tn d n (.i x)
  | t (d n : Nat) (xs : List D) : xs.length ≤ n → (∀ x ∈ xs, Tn d n x) → Tn (d + 1) n (.t xs)
theorem Tn.mono {d n : Nat} {x : D} (h : Tn d n x) : ∀ {d' n' : Nat}, d ≤ d' → n ≤ n' → Tn d' n' x := by
  induction h with
  | i d n x => intro d' n' _ _; exact .i _ _ _
  | t d n xs hl hx ih =>
    intro d' n' h1 h2
    obtain ⟨e, rfl⟩ : ∃ e, d' = e + 1 := ⟨d' - 1, by omega⟩
    exact .t _ _ _ (by omega) (fun x hx => ih x hx (by omega) h2)
theorem depthL_le {d : Nat} : ∀ {xs : List D}, (∀ x ∈ xs, depth x ≤ d) → depthL xs ≤ d
  | [], _ => by simp
  | x :: xs, h => by
    have h1 := h x (by simp)
    have h2 := depthL_le (fun y hy => h y (List.mem_cons_of_mem _ hy))
    rw [depthL_cons]; omega
theorem Tn.depth {d n : Nat} {x : D} (h : Tn d n x) : J.depth x ≤ d := by
  induction h with
  | i d n x => simp
  | t d n xs hl hx ih => have := depthL_le ih; rw [depth_t]; omega
theorem Tn.zero {n : Nat} {x : D} (h : Tn 0 n x) : ∃ k, x = .i k := by
  cases h with
  | i => exact ⟨_, rfl⟩
/-- a thing that the machine takes -/
abbrev Th (x : D) : Prop := Tn 60 1000000 x
mutual
theorem eqv_symm : ∀ x y : D, eqv x y = eqv y x
  | .none, .none => rfl
  | .b a, .b c => by simp [eqv]; cases a <;> cases c <;> rfl
  | .b a, .i j => by simp [eqv]; exact Bool.eq_iff_iff.2 ⟨fun h => by simp at h ⊢; exact h.symm, fun h => by simp at h ⊢; exact h.symm⟩
  | .i k, .b c => by simp [eqv]; exact Bool.eq_iff_iff.2 ⟨fun h => by simp at h ⊢; exact h.symm, fun h => by simp at h ⊢; exact h.symm⟩
  | .i k, .i j => by simp [eqv]; exact Bool.eq_iff_iff.2 ⟨fun h => by simp at h ⊢; exact h.symm, fun h => by simp at h ⊢; exact h.symm⟩
  | .s x, .s y => by simp [eqv]; exact Bool.eq_iff_iff.2 ⟨fun h => by simp at h ⊢; exact h.symm, fun h => by simp at h ⊢; exact h.symm⟩
  | .t xs, .t ys => by simp [eqv]; exact eqvL_symm xs ys
  | .fl xs, .fl ys => by simp [eqv]; exact eqvL_symm xs ys
  | .none, .b _ | .none, .i _ | .none, .s _ | .none, .t _ | .none, .fl _ => by simp [eqv]
  | .b _, .none | .b _, .s _ | .b _, .t _ | .b _, .fl _ => by simp [eqv]
  | .i _, .none | .i _, .s _ | .i _, .t _ | .i _, .fl _ => by simp [eqv]
  | .s _, .none | .s _, .b _ | .s _, .i _ | .s _, .t _ | .s _, .fl _ => by simp [eqv]
  | .t _, .none | .t _, .b _ | .t _, .i _ | .t _, .s _ | .t _, .fl _ => by simp [eqv]
  | .fl _, .none | .fl _, .b _ | .fl _, .i _ | .fl _, .s _ | .fl _, .t _ => by simp [eqv]
theorem eqvL_symm : ∀ x y : List D, eqvL x y = eqvL y x
  | [], [] => rfl
  | x :: xs, y :: ys => by simp only [eqvL_cons]; rw [eqv_symm x y, eqvL_symm xs ys]
  | [], _ :: _ => by simp
  | _ :: _, [] => by simp
end
def itemsD : D → List D
  | .t xs => xs
  | _ => []
@[simp] theorem itemsD_t (xs : List D) : itemsD (.t xs) = xs := (rfl)
@[simp] theorem itemsD_i (x : Int) : itemsD (.i x) = [] := (rfl)
def numD : D → Int
  | .i k => k
  | _ => 0
@[simp] theorem numD_t (xs : List D) : numD (.t xs) = 0 := (rfl)
@[simp] theorem numD_i (x : Int) : numD (.i x) = x := (rfl)
def itemD (n r : D) : D := match n with
  | .i k => if 0 ≤ k then (itemsD r)[k.toNat]?.getD (.i 0) else .i 0
  | _ => .i 0
@[simp] theorem itemD_t (xs : List D) (r : D) : itemD (.t xs) r = .i 0 := (rfl)
theorem itemD_i (k : Int) (r : D) : itemD (.i k) r = if 0 ≤ k then (itemsD r)[k.toNat]?.getD (.i 0) else .i 0 := rfl
def withD (n r c : D) : D := match n, r with
  | .i k, .t xs => if 0 ≤ k ∧ k < xs.length then .t (xs.set k.toNat c) else .t xs
  | _, r => r
def placeD (a : D) (xs : List D) : Int := match xs.findIdx? (fun z => eqv z a) with
  | some k => k
  | none => -1
inductive O1 | first | rest | length | some | listed
inductive O2 | join | more | item | place | same | less | plus | minus
inductive O3 | put | choose
@[simp] def O1.nm : O1 → String
  | .first => "first"
  | .rest => "rest"
  | .length => "length"
  | .some => "some"
  | .listed => "listed"
@[simp] def O2.nm : O2 → String
  | .join => "join"
  | .more => "more"
  | .item => "item"
  | .place => "place"
  | .same => "same"
  | .less => "less"
  | .plus => "plus"
  | .minus => "minus"
@[simp] def O3.nm : O3 → String
  | .put => "put"
  | .choose => "choose"
def ap1 : O1 → D → D
  | .first, a => itemD (.i 0) a
  | .rest, a => .t ((itemsD a).drop 1)
  | .length, a => .i (itemsD a).length
  | .some, a => .i (if 0 < (itemsD a).length then 1 else 0)
  | .listed, a => .i (if isTupleW (.d a) = true then 1 else 0)
def lessD : D → D → Bool
  | .i x, .i y => decide (x < y)
  | _, _ => false
def ap2 : O2 → D → D → D
  | .join, a, b => .t (a :: itemsD b)
  | .more, a, b => .t (itemsD b ++ [a])
  | .item, a, b => itemD a b
  | .place, a, b => .i (placeD a (itemsD b))
  | .same, a, b => .i (if eqv a b = true then 1 else 0)
  | .less, a, b => .i (if lessD a b = true then 1 else 0)
  | .plus, a, b => .i (numD a + numD b)
  | .minus, a, b => .i (numD a - numD b)
def zeroB (a : D) : Bool := eqv a (.i 0)
def ap3 : O3 → D → D → D → D
  | .put, a, b, c => withD a b c
  | .choose, a, b, c => if zeroB a = true then c else b
theorem Tn.items {d n : Nat} {x : D} (h : Tn d n x) : (itemsD x).length ≤ n ∧ ∀ y ∈ itemsD x, Tn (d - 1) n y := by
  cases h with
  | i => simp
  | t d n xs hl hx => exact ⟨hl, by simpa using hx⟩
theorem Tn.item {d n : Nat} (k : D) {x : D} (h : Tn d n x) : Tn (d - 1) n (itemD k x) := by
  obtain ⟨_, hi⟩ := h.items
  unfold itemD
  split
  · split
    · rename_i k _
      cases hq : (itemsD x)[k.toNat]? with
      | none => exact .i _ _ _
      | some y => exact hi y (List.mem_of_getElem? hq)
    · exact .i _ _ _
  · exact .i _ _ _
/-- how deep an operation's thing may nest -/
def db1 : O1 → Nat → Nat
  | .first, a => a - 1
  | .rest, a => max 1 a
  | _, _ => 0
def db2 : O2 → Nat → Nat → Nat
  | .join, a, b => max (a + 1) b
  | .more, a, b => max (a + 1) b
  | .item, _, b => b - 1
  | _, _, _ => 0
def db3 : O3 → Nat → Nat → Nat → Nat
  | .put, _, b, c => max b (c + 1)
  | .choose, _, b, c => max b c
theorem ap1_tg (o : O1) {a n : Nat} {x : D} (h : Tn a n x) : Tn (db1 o a) n (ap1 o x) := by
  cases o
  · exact (h.item (.i 0) : Tn (a - 1) n (itemD (.i 0) x))
  · obtain ⟨h1, h2⟩ := h.items
    cases h with
    | i d n x => exact (Tn.t 0 n [] (by simp) (by simp)).mono (by show 1 ≤ max 1 _; omega) (Nat.le_refl _)
    | t d n xs hl hx =>
      exact (Tn.t d n (xs.drop 1) (by simp; omega) (fun y hy => hx y (List.mem_of_mem_drop hy))).mono (by show d + 1 ≤ max 1 (d + 1); omega) (Nat.le_refl _)
  · exact .i _ _ _
  · exact .i _ _ _
  · exact .i _ _ _
theorem ap2_tg (o : O2) {a b n : Nat} {x y : D} (hx : Tn a n x) (hy : Tn b n y) : Tn (db2 o a b) (n + 1) (ap2 o x y) := by
  obtain ⟨h1, h2⟩ := hy.items
  cases o
  · refine (Tn.t (max a (b - 1)) (n + 1) (x :: itemsD y) (by simp; omega) ?_).mono (by show max a (b - 1) + 1 ≤ max (a + 1) b; omega) (Nat.le_refl _)
    intro z hz
    rcases List.mem_cons.1 hz with rfl | hz
    · exact hx.mono (by omega) (by omega)
    · exact (h2 z hz).mono (by omega) (by omega)
  · refine (Tn.t (max a (b - 1)) (n + 1) (itemsD y ++ [x]) (by simp; omega) ?_).mono (by show max a (b - 1) + 1 ≤ max (a + 1) b; omega) (Nat.le_refl _)
    intro z hz
    rcases List.mem_append.1 hz with hz | hz
    · exact (h2 z hz).mono (by omega) (by omega)
    · simp at hz; subst hz; exact hx.mono (by omega) (by omega)
  · exact ((hy.item x).mono (Nat.le_refl _) (by omega) : Tn (b - 1) (n + 1) (itemD x y))
  all_goals exact .i _ _ _
theorem ap3_tg (o : O3) {a b c n : Nat} {x y z : D} (hx : Tn a n x) (hy : Tn b n y) (hz : Tn c n z) : Tn (db3 o a b c) n (ap3 o x y z) := by
  cases o
  · show Tn (max b (c + 1)) n (withD x y z)
    unfold withD
    split
    · rename_i k xs
      obtain ⟨h1, h2⟩ := hy.items
      have hb : b = b - 1 + 1 := by cases hy; omega
      split
      · refine (Tn.t (max (b - 1) c) n _ (by simpa using h1) ?_).mono (by omega) (Nat.le_refl _)
        intro w hw
        rcases List.mem_or_eq_of_mem_set hw with hw | rfl
        · exact (h2 w hw).mono (by omega) (Nat.le_refl _)
        · exact hz.mono (by omega) (Nat.le_refl _)
      · exact hy.mono (by omega) (Nat.le_refl _)
    · exact hy.mono (by omega) (Nat.le_refl _)
  · show Tn (max b c) n (if zeroB x = true then z else y)
    split
    · exact hz.mono (by omega) (Nat.le_refl _)
    · exact hy.mono (by omega) (Nat.le_refl _)
/-! ### expressions -/
inductive Exp where
  | know (x : D)
  | of (v : Nat)
  | o1 (o : O1) (a : Exp)
  | o2 (o : O2) (a b : Exp)
  | o3 (o : O3) (a b c : Exp)
def Exp.d : Exp → D
  | .know x => .t [.s "know", x]
  | .of v => .t [.s "of", .i v]
  | .o1 o a => .t [.s o.nm, a.d]
  | .o2 o a b => .t [.s o.nm, a.d, b.d]
  | .o3 o a b c => .t [.s o.nm, a.d, b.d, c.d]
def Exp.nest : Exp → Nat
  | .know _ => 1
  | .of _ => 1
  | .o1 _ a => a.nest + 1
  | .o2 _ a b => max a.nest b.nest + 1
  | .o3 _ a b c => max a.nest (max b.nest c.nest) + 1
/-- its variables are among the first M, its things are small -/
def Exp.Ok (M : Nat) : Exp → Prop
  | .know x => Tn 3 10 x
  | .of v => v < M
  | .o1 _ a => a.Ok M
  | .o2 _ a b => a.Ok M ∧ b.Ok M
  | .o3 _ a b c => a.Ok M ∧ b.Ok M ∧ c.Ok M
def at0 (st : List D) (v : Nat) : D := st[v]?.getD (.i 0)
def wo (st : List D) : Exp → D
  | .know x => x
  | .of v => at0 st v
  | .o1 o a => ap1 o (wo st a)
  | .o2 o a b => ap2 o (wo st a) (wo st b)
  | .o3 o a b c => ap3 o (wo st a) (wo st b) (wo st c)
/-- how deep its thing may nest -/
def db (dv : Nat → Nat) : Exp → Nat
  | .know x => J.depth x
  | .of v => dv v
  | .o1 o a => db1 o (db dv a)
  | .o2 o a b => db2 o (db dv a) (db dv b)
  | .o3 o a b c => db3 o (db dv a) (db dv b) (db dv c)
/-- how deep things on the way to it may nest -/
def dbx (dv : Nat → Nat) : Exp → Nat
  | .know x => J.depth x
  | .of v => dv v
  | .o1 o a => max (dbx dv a) (db1 o (db dv a))
  | .o2 o a b => max (dbx dv a) (max (dbx dv b) (db2 o (db dv a) (db dv b)))
  | .o3 o a b c => max (dbx dv a) (max (dbx dv b) (max (dbx dv c) (db3 o (db dv a) (db dv b) (db dv c))))
/-- a store: its things nest as told, with at most n items -/
def StOk (dv : Nat → Nat) (n : Nat) (st : List D) : Prop := ∀ v x, st[v]? = some x → Tn (dv v) n x
theorem Tn.self {d n : Nat} {x : D} (h : Tn d n x) : Tn (J.depth x) n x := by
  induction h with
  | i d n x => exact .i _ _ _
  | t d n xs hl hx ih =>
    rw [depth_t]
    refine .t _ _ _ hl (fun x h => (ih x h).mono ?_ (Nat.le_refl _))
    clear hl hx ih
    induction xs with
    | nil => cases h
    | cons y ys ihy =>
      rw [depthL_cons]
      rcases List.mem_cons.1 h with rfl | h
      · omega
      · have := ihy h; omega
theorem wo_ok {dv : Nat → Nat} {n M : Nat} {st : List D} (hs : StOk dv n st) (hn : 10 ≤ n) (hl : st.length = M) : ∀ e : Exp, e.Ok M → Tn (db dv e) (n + e.nest) (wo st e)
  | .know x, h => (Tn.self h).mono (Nat.le_refl _) (by simp [Exp.nest]; omega)
  | .of v, h => by
    have h : v < M := h
    have : st[v]? = some st[v] := List.getElem?_eq_getElem (by omega)
    show Tn (dv v) _ (at0 st v)
    unfold at0
    rw [this]
    exact (hs v _ this).mono (Nat.le_refl _) (by omega)
  | .o1 o a, h => (ap1_tg o (wo_ok hs hn hl a h)).mono (Nat.le_refl _) (by simp only [Exp.nest]; omega)
  | .o2 o a b, h => by
    have h1 := (wo_ok hs hn hl a h.1).mono (Nat.le_refl _) (show n + a.nest ≤ n + max a.nest b.nest by omega)
    have h2 := (wo_ok hs hn hl b h.2).mono (Nat.le_refl _) (show n + b.nest ≤ n + max a.nest b.nest by omega)
    exact (ap2_tg o h1 h2).mono (Nat.le_refl _) (by simp [Exp.nest]; omega)
  | .o3 o a b c, h => by
    have h1 := (wo_ok hs hn hl a h.1).mono (Nat.le_refl _) (show n + a.nest ≤ n + max a.nest (max b.nest c.nest) by omega)
    have h2 := (wo_ok hs hn hl b h.2.1).mono (Nat.le_refl _) (show n + b.nest ≤ n + max a.nest (max b.nest c.nest) by omega)
    have h3 := (wo_ok hs hn hl c h.2.2).mono (Nat.le_refl _) (show n + c.nest ≤ n + max a.nest (max b.nest c.nest) by omega)
    exact (ap3_tg o h1 h2 h3).mono (Nat.le_refl _) (by simp only [Exp.nest]; omega)
end J
set_option maxRecDepth 10000
/-! The operations of the program and of the laws give what is told. -/
namespace J
theorem range_nat (n : Nat) : range 0 (n : Int) = (List.range n).map fun (k : Nat) => W.d (.i k) := by
  simp [range]
theorem inR_nat (n : Nat) (h : n ≤ 1000000) : inR (n : Int) := inR_of (by omega) (by omega)
theorem find_aux {f : W → Env → LH → Option (Fl × Env × LH)} {h : LH} {xs : List D} {q : D → Bool} (I : Env → Prop) (hf : ∀ (k : Nat) (hk : k < xs.length) ρ, I ρ → ∃ ρ', I ρ' ∧ f (.d (.i k)) ρ h = if q xs[k] = true then some (.ret (.d (.i k)), ρ', h) else some (.nxt, ρ', h)) : ∀ (m s : Nat), s + m = xs.length → ∀ ρ, I ρ → ∃ ρ', I ρ' ∧ forItems f ((List.range' s m).map fun (k : Nat) => W.d (.i k)) ρ h = match (xs.drop s).findIdx? q with
    | some k => some (.ret (.d (.i ((s + k : Nat) : Int))), ρ', h)
    | none => some (.nxt, ρ', h)
  | 0, s, e, ρ, hi => by
    have : xs.drop s = [] := List.drop_of_length_le (by omega)
    exact ⟨ρ, hi, by simp [this, forItems]⟩
  | m + 1, s, e, ρ, hi => by
    obtain ⟨ρ1, h1, e1⟩ := hf s (by omega) ρ hi
    rw [List.drop_eq_getElem_cons (show s < xs.length by omega), List.findIdx?_cons]
    simp only [List.range'_succ, List.map_cons, forItems, e1]
    by_cases hq : q xs[s] = true
    · exact ⟨ρ1, h1, by simp [hq]⟩
    · obtain ⟨ρ2, h2, e2⟩ := find_aux I hf m (s + 1) (by omega) ρ1 h1
      refine ⟨ρ2, h2, ?_⟩
      simp only [hq]
      simp only [Bool.false_eq_true, if_false]
      rw [e2]
      cases (xs.drop (s + 1)).findIdx? q with
      | none => rfl
      | some k => simp; omega
theorem find_loop {f : W → Env → LH → Option (Fl × Env × LH)} {h : LH} {xs : List D} {q : D → Bool} (I : Env → Prop) (hf : ∀ (k : Nat) (hk : k < xs.length) ρ, I ρ → ∃ ρ', I ρ' ∧ f (.d (.i k)) ρ h = if q xs[k] = true then some (.ret (.d (.i k)), ρ', h) else some (.nxt, ρ', h)) (ρ : Env) (hi : I ρ) : ∃ ρ', I ρ' ∧ forItems f (range 0 xs.length) ρ h = match xs.findIdx? q with
    | some k => some (.ret (.d (.i (k : Int))), ρ', h)
    | none => some (.nxt, ρ', h) := by
  obtain ⟨ρ', h1, e⟩ := find_aux I hf xs.length 0 (by omega) ρ hi
  refine ⟨ρ', h1, ?_⟩
  rw [range_nat, List.range_eq_range', e]
  simp
theorem le_big {a b : Nat} (h : a ≤ b) {c : Nat} (hc : b ≤ c) : (a ≤ c) = True := by simp; omega
/-! ### the program's -/
theorem items_of (x : D) (hx : Th x) : Pu 1 f_items_of [.d x] (.t (itemsD x)) := by
  refine pu (d := b_items_of) rfl rfl fun j hj h => ?_
  cases hx <;> simp [b_items_of]
theorem number_of (x : D) (hx : Th x) : Pu 1 f_number_of [.d x] (.i (numD x)) := by
  refine pu (d := b_number_of) rfl rfl fun j hj h => ?_
  cases hx <;> simp [b_number_of]
theorem item_of (n x : D) (hn : Th n) (hx : Th x) : Pu 1 f_item_of [.d n, .d x] (itemD n x) := by
  refine pu (d := b_item_of) rfl rfl fun j hj h => ?_
  cases hn with
  | i _ _ k =>
    cases hx with
    | i => simp [b_item_of, itemD_i]
    | t _ _ xs hl hx =>
      by_cases h0 : 0 ≤ k
      · obtain ⟨m, rfl⟩ : ∃ m : Nat, k = m := ⟨k.toNat, by omega⟩
        by_cases h1 : m < xs.length
        · simp [b_item_of, itemD_i, h1, ixN_nat _ _ h1]
        · simp [b_item_of, itemD_i, h1]
      · simp [b_item_of, itemD_i, h0]
  | t => simp [b_item_of]
theorem set_cut (xs : List D) (m : Nat) (h : m < xs.length) (c : D) : xs.take m ++ c :: xs.drop (m + 1) = xs.set m c := by
  rw [List.set_eq_take_append_cons_drop, if_pos h]
theorem with_item (n x c : D) (hn : Th n) (hx : Th x) : Pu 1 f_with_item [.d n, .d x, .d c] (withD n x c) := by
  refine pu (d := b_with_item) rfl rfl fun j hj h => ?_
  cases hn with
  | i _ _ k =>
    cases hx with
    | i => simp [b_with_item, withD]
    | t _ _ xs hl hx =>
      by_cases h0 : 0 ≤ k
      · obtain ⟨m, rfl⟩ : ∃ m : Nat, k = m := ⟨k.toNat, by omega⟩
        by_cases h1 : m < xs.length
        · have c1 := cutL_to xs m (by omega)
          have c2 := cutL_from1 xs m (by omega)
          have l1 : min m xs.length = m := by omega
          have l2 : m + 1 + (xs.length - (m + 1)) ≤ 16777216 := by omega
          simp [b_with_item, withD, h1, c1, c2, set_cut, le_big hl, le_big (show m ≤ 1000000 by omega), l1, l2]
        · simp [b_with_item, withD, h1]
      · simp [b_with_item, withD, h0]
  | t => cases hx <;> simp [b_with_item, withD]
theorem place_of (a x : D) (ha : Th a) (hx : Th x) : Pu 2 f_place_of [.d a, .d x] (.i (placeD a (itemsD x))) := by
  refine pu (d := b_place_of) rfl rfl fun j hj h => ?_
  have hl : (itemsD x).length ≤ 1000000 := hx.items.1
  have hd := ha.depth
  have e1 := items_of x hx j (by omega) h
  generalize itemsD x = xs at *
  obtain ⟨ρ', ⟨z, rfl⟩, e⟩ := find_loop (f := fb (cx j) (.n 2) l0_place_of) (h := h) (xs := xs) (q := fun z => eqv z a) (fun ρ => ∃ z, ρ = [some (.d a), some (.d (.t xs)), z]) (by
    rintro k hk ρ ⟨z, rfl⟩
    refine ⟨_, ⟨some (.d (.i k)), rfl⟩, ?_⟩
    simp [fb, l0_place_of, hk, ixN_nat _ _ hk, le_big hd, eq_dl]) [some (.d a), some (.d (.t xs)), none] ⟨_, rfl⟩
  simp [b_place_of, e1, inR_nat _ hl, e]
  unfold placeD
  cases xs.findIdx? (fun z => eqv z a) <;> simp
theorem look (o : O1) (x : D) (hx : Th x) : Pu 3 f_look [.d (.s o.nm), .d x] (ap1 o x) := by
  refine pu (d := b_look) rfl rfl fun j hj h => ?_
  have e1 := items_of x hx j (by omega) h
  cases hx with
  | i _ _ k => cases o <;> simp [b_look, e1, ap1, itemD_i] <;> rfl
  | t _ _ xs hl hx =>
    cases o
    · rcases xs with _ | ⟨y, ys⟩ <;> simp [b_look, e1, ap1, itemD_i]
    · simp [b_look, e1, ap1]
    · simp [b_look, e1, ap1]
    · rcases xs with _ | ⟨y, ys⟩ <;> simp [b_look, e1, ap1]
    · simp [b_look, e1, ap1]
theorem Tn.dle {d n : Nat} {x : D} (h : Tn d n x) {c : Nat} (hc : d ≤ c) : (J.depth x ≤ c) = True := le_big h.depth hc
theorem compare_same (x y : D) (hx : Th x) : Pu 1 f_compare [.d (.s "same"), .d x, .d y] (ap2 .same x y) := by
  refine pu (d := b_compare) rfl rfl fun j hj h => ?_
  simp [b_compare, hx.dle, eq_dl, ap2]
  split <;> rfl
theorem compare_less (x y : D) (hx : Th x) (hy : Th y) : Pu 1 f_compare [.d (.s "less"), .d x, .d y] (ap2 .less x y) := by
  refine pu (d := b_compare) rfl rfl fun j hj h => ?_
  cases hx <;> cases hy <;> simp [b_compare, ap2, lessD]
  split <;> rfl
theorem combine (o : O2) (x y : D) (hx : Th x) (hy : Th y) : Pu 4 f_combine [.d (.s o.nm), .d x, .d y] (ap2 o x y) := by
  refine pu (d := b_combine) rfl rfl fun j hj h => ?_
  have hl := hy.items.1
  have e1 := items_of y hy j (by omega) h
  have l1 : 1 + (itemsD y).length ≤ 16777216 := by omega
  have l2 : (itemsD y).length ≤ 16777215 := by omega
  cases o
  · simp [b_combine, e1, l1, ap2]
  · simp [b_combine, e1, l2, ap2]
  · simp [b_combine, item_of x y hx hy j (by omega), ap2]
  · simp [b_combine, place_of x y hx hy j (by omega), ap2]
  · simp [b_combine, compare_same x y hx j (by omega)]
  · simp [b_combine, compare_less x y hx hy j (by omega)]
  · simp [b_combine, number_of x hx j (by omega), number_of y hy j (by omega), ap2]
  · simp [b_combine, number_of x hx j (by omega), number_of y hy j (by omega), ap2]
theorem applied1 (o : O1) (x : D) (hx : Th x) : Pu 5 f_applied [.d (.s o.nm), .d (.t [x])] (ap1 o x) := by
  refine pu (d := b_applied) rfl rfl fun j hj h => ?_
  have e := look o x hx j (by omega) h
  cases o <;> simp at e <;> simp [b_applied, e]
theorem applied2 (o : O2) (x y : D) (hx : Th x) (hy : Th y) : Pu 5 f_applied [.d (.s o.nm), .d (.t [x, y])] (ap2 o x y) := by
  refine pu (d := b_applied) rfl rfl fun j hj h => ?_
  have e := combine o x y hx hy j (by omega) h
  cases o <;> simp at e <;> simp [b_applied, e]
theorem applied3 (o : O3) (x y z : D) (hx : Th x) (hy : Th y) : Pu 5 f_applied [.d (.s o.nm), .d (.t [x, y, z])] (ap3 o x y z) := by
  refine pu (d := b_applied) rfl rfl fun j hj h => ?_
  have e := with_item x y z hx hy j (by omega) h
  cases o
  · simp [b_applied, e, ap3]
  · simp [b_applied, ap3, zeroB]
    split <;> simp_all
/-! ### the laws' -/
theorem law_row (x : D) (hx : Th x) : Pu 1 f_law_row [.d x] (.t (itemsD x)) := by
  refine pu (d := b_law_row) rfl rfl fun j hj h => ?_
  cases hx <;> simp [b_law_row]
theorem law_item (n x : D) (hn : Th n) (hx : Th x) : Pu 1 f_law_item [.d n, .d x] (itemD n x) := by
  refine pu (d := b_law_item) rfl rfl fun j hj h => ?_
  cases hn with
  | i _ _ k =>
    cases hx with
    | i => simp [b_law_item, itemD_i]
    | t _ _ xs hl hx =>
      by_cases h0 : 0 ≤ k
      · obtain ⟨m, rfl⟩ : ∃ m : Nat, k = m := ⟨k.toNat, by omega⟩
        by_cases h1 : m < xs.length
        · simp [b_law_item, itemD_i, h1, ixN_nat _ _ h1]
        · simp [b_law_item, itemD_i, h1]
      · simp [b_law_item, itemD_i, h0]
  | t => simp [b_law_item]
theorem law_of_one (o : O1) (x : D) (hx : Th x) : Pu 2 f_law_of_one [.d (.s o.nm), .d x] (ap1 o x) := by
  refine pu (d := b_law_of_one) rfl rfl fun j hj h => ?_
  have e1 := law_row x hx j (by omega) h
  have e2 := law_item (.i 0) x (.i _ _ _) hx j (by omega) h
  cases o
  · simp [b_law_of_one, e2, ap1]
  · simp [b_law_of_one, e1, ap1]
  · simp [b_law_of_one, e1, ap1]
  · simp [b_law_of_one, e1, ap1]
    split <;> simp
  · cases hx <;> simp [b_law_of_one, ap1]
theorem law_place (a x : D) (ha : Th a) (hx : Th x) : Pu 2 f_law_of_two [.d (.s "place"), .d a, .d x] (.i (placeD a (itemsD x))) := by
  refine pu (d := b_law_of_two) rfl rfl fun j hj h => ?_
  have e1 := law_row x hx j (by omega) h
  cases hx with
  | i => simp at e1; simp [b_law_of_two, e1, range, forItems, placeD]
  | t _ _ xs hl hx =>
    simp at e1
    obtain ⟨ρ', ⟨z, rfl⟩, e⟩ := find_loop (f := fb (cx j) (.n 3) l0_law_of_two) (h := h) (xs := xs) (q := fun z => eqv z a) (fun ρ => ∃ z, ρ = [some (.d (.s "place")), some (.d a), some (.d (.t xs)), z, none, none]) (by
      rintro k hk ρ ⟨z, rfl⟩
      refine ⟨_, ⟨some (.d (.i k)), rfl⟩, ?_⟩
      simp [fb, l0_law_of_two, hk, ixN_nat _ _ hk, ha.dle, eq_dr]) [some (.d (.s "place")), some (.d a), some (.d (.t xs)), none, none, none] ⟨_, rfl⟩
    simp [b_law_of_two, e1, inR_nat _ hl, e]
    unfold placeD
    cases xs.findIdx? (fun z => eqv z a) <;> simp
theorem law_of_two (o : O2) (x y : D) (hx : Th x) (hy : Th y) : Pu 4 f_law_of_two [.d (.s o.nm), .d x, .d y] (ap2 o x y) := by
  cases o
  case place => exact fun j hj => law_place x y hx hy j (by omega)
  all_goals refine pu (d := b_law_of_two) rfl rfl fun j hj h => ?_
  all_goals
    have hl := hy.items.1
    have e1 := law_row y hy j (by omega) h
    have l1 : 1 + (itemsD y).length ≤ 16777216 := by omega
    have l2 : (itemsD y).length ≤ 16777215 := by omega
  · simp [b_law_of_two, e1, l1, ap2]
  · simp [b_law_of_two, e1, l2, ap2]
  · simp [b_law_of_two, law_item x y hx hy j (by omega), ap2]
  · simp [b_law_of_two, hx.dle, eq_dl, ap2]
    split <;> rfl
  · clear e1 l1 l2 hl
    cases hx <;> cases hy <;> simp [b_law_of_two, ap2, lessD]
    split <;> rfl
  · clear e1 l1 l2 hl
    cases hx <;> cases hy <;> simp [b_law_of_two, ap2]
  · clear e1 l1 l2 hl
    cases hx <;> cases hy <;> simp [b_law_of_two, ap2]
theorem law_of_three (o : O3) (x y z : D) (hx : Th x) (hy : Th y) : Pu 1 f_law_of_three [.d (.s o.nm), .d x, .d y, .d z] (ap3 o x y z) := by
  refine pu (d := b_law_of_three) rfl rfl fun j hj h => ?_
  cases o
  · cases hx with
    | i _ _ k =>
      cases hy with
      | i => simp [b_law_of_three, ap3, withD]
      | t _ _ xs hl hx =>
        by_cases h0 : 0 ≤ k
        · obtain ⟨m, rfl⟩ : ∃ m : Nat, k = m := ⟨k.toNat, by omega⟩
          by_cases h1 : m < xs.length
          · have c1 := cutL_to xs m (by omega)
            have c2 := cutL_from1 xs m (by omega)
            have l1 : min m xs.length = m := by omega
            have l2 : m + 1 + (xs.length - (m + 1)) ≤ 16777216 := by omega
            simp [b_law_of_three, ap3, withD, h1, c1, c2, set_cut, le_big hl, le_big (show m ≤ 1000000 by omega), l1, l2]
          · simp [b_law_of_three, ap3, withD, h1]
        · simp [b_law_of_three, ap3, withD, h0]
    | t => cases hy <;> simp [b_law_of_three, ap3, withD]
  · simp [b_law_of_three, ap3, zeroB]
    split <;> simp_all
/-- the laws' apply takes a live list -/
theorem law_apply1 (o : O1) (x : D) (hx : Th x) {b : Nat} {h : LH} (hb : h[b]? = some [.d x]) : ∀ j, 5 ≤ j → call JP j f_law_apply [.d (.s o.nm), .l b] h = some (.d (ap1 o x), h) := by
  refine pc (k := 4) (d := b_law_apply) rfl rfl fun j hj => ?_
  have e := law_of_one o x hx j (by omega) h
  cases o <;> simp at e <;> simp [b_law_apply, hb, e]
theorem law_apply2 (o : O2) (x y : D) (hx : Th x) (hy : Th y) {b : Nat} {h : LH} (hb : h[b]? = some [.d x, .d y]) : ∀ j, 5 ≤ j → call JP j f_law_apply [.d (.s o.nm), .l b] h = some (.d (ap2 o x y), h) := by
  refine pc (k := 4) (d := b_law_apply) rfl rfl fun j hj => ?_
  have e := law_of_two o x y hx hy j (by omega) h
  cases o <;> simp at e <;> simp [b_law_apply, hb, e]
theorem law_apply3 (o : O3) (x y z : D) (hx : Th x) (hy : Th y) {b : Nat} {h : LH} (hb : h[b]? = some [.d x, .d y, .d z]) : ∀ j, 5 ≤ j → call JP j f_law_apply [.d (.s o.nm), .l b] h = some (.d (ap3 o x y z), h) := by
  refine pc (k := 4) (d := b_law_apply) rfl rfl fun j hj => ?_
  have e := law_of_three o x y z hx hy j (by omega) h
  cases o <;> simp at e <;> simp [b_law_apply, hb, e]
end J
set_option maxRecDepth 10000
/-! Expressions: what they give, by the program and by the laws. -/
namespace J
/-- all things on the way are such that the machine takes them -/
def AllTh (st : List D) : Exp → Prop
  | .know x => Th x
  | .of v => v < st.length ∧ Th (at0 st v)
  | .o1 o a => AllTh st a ∧ Th (wo st (.o1 o a))
  | .o2 o a b => (AllTh st a ∧ AllTh st b) ∧ Th (wo st (.o2 o a b))
  | .o3 o a b c => (AllTh st a ∧ AllTh st b ∧ AllTh st c) ∧ Th (wo st (.o3 o a b c))
theorem AllTh.th {st : List D} : ∀ {e : Exp}, AllTh st e → Th (wo st e)
  | .know x, h => h
  | .of v, h => h.2
  | .o1 o a, h => h.2
  | .o2 o a b, h => h.2
  | .o3 o a b c, h => h.2
theorem db_le {dv : Nat → Nat} : ∀ e : Exp, db dv e ≤ dbx dv e
  | .know x => Nat.le_refl _
  | .of v => Nat.le_refl _
  | .o1 o a => by simp only [db, dbx]; omega
  | .o2 o a b => by simp only [db, dbx]; omega
  | .o3 o a b c => by simp only [db, dbx]; omega
theorem allTh {dv : Nat → Nat} {n M : Nat} {st : List D} (hs : StOk dv n st) (hn : 10 ≤ n) (hl : st.length = M) : ∀ e : Exp, e.Ok M → dbx dv e ≤ 60 → n + e.nest ≤ 1000000 → AllTh st e
  | .know x, h, hx, hw => Tn.mono h (by omega) (by omega)
  | .of v, h, hx, hw => ⟨by rw [hl]; exact h, (wo_ok hs hn hl (.of v) h).mono hx hw⟩
  | .o1 o a, h, hx, hw => by
    have hw' := hw
    simp only [dbx] at hx
    simp only [Exp.nest] at hw
    exact ⟨allTh hs hn hl a h (by omega) (by omega), (wo_ok hs hn hl (.o1 o a) h).mono (by simp only [db]; omega) hw'⟩
  | .o2 o a b, h, hx, hw => by
    have hw' := hw
    simp only [dbx] at hx
    simp only [Exp.nest] at hw
    exact ⟨⟨allTh hs hn hl a h.1 (by omega) (by omega), allTh hs hn hl b h.2 (by omega) (by omega)⟩, (wo_ok hs hn hl (.o2 o a b) h).mono (by simp only [db]; omega) hw'⟩
  | .o3 o a b c, h, hx, hw => by
    have hw' := hw
    simp only [dbx] at hx
    simp only [Exp.nest] at hw
    exact ⟨⟨allTh hs hn hl a h.1 (by omega) (by omega), allTh hs hn hl b h.2.1 (by omega) (by omega), allTh hs hn hl c h.2.2 (by omega) (by omega)⟩, (wo_ok hs hn hl (.o3 o a b c) h).mono (by simp only [db]; omega) hw'⟩
theorem worth {st : List D} : ∀ (e : Exp), AllTh st e → Pu (e.nest + 6) f_worth [.d e.d, .d (.t st)] (wo st e)
  | .know x, h => by
    refine pu (d := b_worth) rfl rfl fun j hj h => ?_
    simp [b_worth, Exp.d, wo]
  | .of v, hv => by
    refine pu (d := b_worth) rfl rfl fun j hj h => ?_
    have hv' := hv.1
    simp [b_worth, Exp.d, wo, ixN_nat _ _ hv', hv', at0]
  | .o1 o a, hv => by
    refine pu (d := b_worth) rfl rfl fun j hj h => ?_
    have ea := worth a hv.1 j (by simp only [Exp.nest] at hj; omega) h
    have eb := applied1 o _ hv.1.th j (by omega)
    cases o <;> simp at eb <;> simp [b_worth, Exp.d, wo, compItems, ea, eb]
  | .o2 o a b, hv => by
    refine pu (d := b_worth) rfl rfl fun j hj h => ?_
    have ea := worth a hv.1.1 j (by simp only [Exp.nest] at hj; omega) h
    have eb := worth b hv.1.2 j (by simp only [Exp.nest] at hj; omega) h
    have ec := applied2 o _ _ hv.1.1.th hv.1.2.th j (by omega)
    cases o <;> simp at ec <;> simp [b_worth, Exp.d, wo, compItems, ea, eb, ec]
  | .o3 o a b c, hv => by
    refine pu (d := b_worth) rfl rfl fun j hj h => ?_
    have ea := worth a hv.1.1 j (by simp only [Exp.nest] at hj; omega) h
    have eb := worth b hv.1.2.1 j (by simp only [Exp.nest] at hj; omega) h
    have ec := worth c hv.1.2.2 j (by simp only [Exp.nest] at hj; omega) h
    have ed := applied3 o _ _ (wo st c) hv.1.1.th hv.1.2.1.th j (by omega)
    cases o <;> simp at ed <;> simp [b_worth, Exp.d, wo, compItems, ea, eb, ec, ed]
/-- the store is a tuple, or a live list -/
theorem law_worth {st : List D} : ∀ (e : Exp), AllTh st e → ∀ (w : W) (h : LH), items h w = some (st.map .d) → ∀ j, e.nest + 6 ≤ j → call JP j f_law_worth [.d e.d, w] h = some (.d (wo st e), h)
  | .know x, hv, w, h, hw => by
    refine pc (d := b_law_worth) rfl rfl fun j hj => ?_
    simp [b_law_worth, Exp.d, wo]
  | .of v, hv, w, h, hw => by
    refine pc (d := b_law_worth) rfl rfl fun j hj => ?_
    have hv' := hv.1
    simp [b_law_worth, Exp.d, wo, hw, ixN_nat _ _ hv', hv', at0]
  | .o1 o a, hv, w, h, hw => by
    refine pc (d := b_law_worth) rfl rfl fun j hj => ?_
    have ea := law_worth a hv.1 w h hw j (by simp only [Exp.nest] at hj; omega)
    have eb := law_apply1 o _ hv.1.th (b := h.length) (h := h ++ [[.d (wo st a)]]) (by simp) j (by omega)
    cases o <;> simp at eb <;> simp [b_law_worth, Exp.d, wo, compItems, ea, eb]
  | .o2 o a b, hv, w, h, hw => by
    refine pc (d := b_law_worth) rfl rfl fun j hj => ?_
    have ea := law_worth a hv.1.1 w h hw j (by simp only [Exp.nest] at hj; omega)
    have eb := law_worth b hv.1.2 w h hw j (by simp only [Exp.nest] at hj; omega)
    have ec := law_apply2 o _ _ hv.1.1.th hv.1.2.th (b := h.length) (h := h ++ [[.d (wo st a), .d (wo st b)]]) (by simp) j (by omega)
    cases o <;> simp at ec <;> simp [b_law_worth, Exp.d, wo, compItems, ea, eb, ec]
  | .o3 o a b c, hv, w, h, hw => by
    refine pc (d := b_law_worth) rfl rfl fun j hj => ?_
    have ea := law_worth a hv.1.1 w h hw j (by simp only [Exp.nest] at hj; omega)
    have eb := law_worth b hv.1.2.1 w h hw j (by simp only [Exp.nest] at hj; omega)
    have ec := law_worth c hv.1.2.2 w h hw j (by simp only [Exp.nest] at hj; omega)
    have ed := law_apply3 o _ _ (wo st c) hv.1.1.th hv.1.2.1.th (b := h.length) (h := h ++ [[.d (wo st a), .d (wo st b), .d (wo st c)]]) (by simp) j (by omega)
    cases o <;> simp at ed <;> simp [b_law_worth, Exp.d, wo, compItems, ea, eb, ec, ed]
end J
set_option maxRecDepth 10000
/-! Programs and their runs, by the program and by the laws. -/
namespace J
inductive Jmp where
  | goto (l : Nat)
  | test (e : Exp) (l m : Nat)
  | fin (e : Exp)
structure Blk where
  as : List (Nat × Exp)
  j : Jmp
structure Prg where
  many : Nat
  bl : List Blk
def asD (a : Nat × Exp) : D := .t [.i a.1, a.2.d]
def Jmp.d : Jmp → D
  | .goto l => .t [.s "goto", .i l]
  | .test e l m => .t [.s "test", e.d, .i l, .i m]
  | .fin e => .t [.s "end", e.d]
def Blk.d (b : Blk) : D := .t [.t (b.as.map asD), b.j.d]
def Prg.d (p : Prg) : D := .t [.i p.many, .t (p.bl.map Blk.d)]
def asg (st : List D) (a : Nat × Exp) : List D := st.set a.1 (wo st a.2)
def sb (st : List D) (as : List (Nat × Exp)) : List D := as.foldl asg st
@[simp] theorem asg_len (st : List D) (a : Nat × Exp) : (asg st a).length = st.length := by simp [asg]
@[simp] theorem sb_len : ∀ (as : List (Nat × Exp)) (st : List D), (sb st as).length = st.length
  | [], st => rfl
  | a :: r, st => by
    show (sb (asg st a) r).length = _
    rw [sb_len r]; simp
theorem sb_app (st : List D) (as : List (Nat × Exp)) (a : Nat × Exp) : sb st (as ++ [a]) = asg (sb st as) a := by simp [sb]
inductive Out where
  | go (b : Nat) (st : List D)
  | ended (x : D)
def stepB (bl : Blk) (st : List D) : Out := match bl.j with
  | .goto l => .go l (sb st bl.as)
  | .test e l m => if zeroB (wo (sb st bl.as) e) = true then .go m (sb st bl.as) else .go l (sb st bl.as)
  | .fin e => .ended (wo (sb st bl.as) e)
def stepP (p : Prg) (b : Nat) (st : List D) : Out := match p.bl[b]? with
  | some bl => stepB bl st
  | none => .ended (.i 0)
def runP (p : Prg) : Nat → Nat → List D → Option (Nat × D)
  | 0, _, _ => none
  | n + 1, b, st => match stepP p b st with
    | .ended x => some (1, x)
    | .go b' st' => (runP p n b' st').map fun r => (r.1 + 1, r.2)
def resD (most : Nat) : Option (Nat × D) → D
  | some (k, x) => .t [.s "ended", .i k, x]
  | none => .t [.s "open", .i most]
def Jmp.Ok (M size : Nat) : Jmp → Prop
  | .goto l => l < size
  | .test e l m => e.Ok M ∧ l < size ∧ m < size
  | .fin e => e.Ok M
def Blk.Ok (M size : Nat) (b : Blk) : Prop := b.as.length ≤ 1000 ∧ (∀ a ∈ b.as, a.1 < M ∧ a.2.Ok M) ∧ b.j.Ok M size
structure Prg.Ok (p : Prg) : Prop where
  ne : 1 ≤ p.bl.length
  small : p.bl.length ≤ 1000
  vars : p.many ≤ 1000
  bl : ∀ b ∈ p.bl, b.Ok p.many p.bl.length
/-! ### what goes well -/
def SafeAs : List D → List (Nat × Exp) → Prop
  | _, [] => True
  | st, a :: r => (AllTh st a.2 ∧ a.1 < st.length ∧ a.2.nest ≤ 40) ∧ SafeAs (asg st a) r
def SafeJ (st : List D) : Jmp → Prop
  | .goto _ => True
  | .test e _ _ => AllTh st e ∧ e.nest ≤ 40
  | .fin e => AllTh st e ∧ e.nest ≤ 40
def SafeB (st : List D) (bl : Blk) : Prop := SafeAs st bl.as ∧ SafeJ (sb st bl.as) bl.j ∧ st.length ≤ 1000
def SafeRun (p : Prg) : Nat → Nat → List D → Prop
  | 0, _, _ => True
  | n + 1, b, st => (∃ bl, p.bl[b]? = some bl ∧ SafeB st bl) ∧ match stepP p b st with
    | .ended _ => True
    | .go b' st' => SafeRun p n b' st'
theorem SafeAs.mid : ∀ {as pre : List (Nat × Exp)} {a : Nat × Exp} {post : List (Nat × Exp)} {st : List D}, SafeAs st as → as = pre ++ a :: post → AllTh (sb st pre) a.2 ∧ a.1 < st.length ∧ a.2.nest ≤ 40
  | _, [], a, post, st, h, e => by subst e; exact h.1
  | _, x :: pre, a, post, st, h, e => by
    subst e
    have := SafeAs.mid (as := pre ++ a :: post) h.2 rfl
    simpa [sb] using this
/-- a loop whose turns are told -/
theorem forItems_fold {α : Type} {f : W → Env → LH → Option (Fl × Env × LH)} {h : LH} {g : α → W} (I : List α → Env → Prop) : ∀ (xs done : List α) (ρ : Env), I done ρ → (∀ pre x post, done ++ xs = pre ++ x :: post → ∀ ρ, I pre ρ → ∃ ρ', I (pre ++ [x]) ρ' ∧ f (g x) ρ h = some (.nxt, ρ', h)) → ∃ ρ', I (done ++ xs) ρ' ∧ forItems f (xs.map g) ρ h = some (.nxt, ρ', h)
  | [], done, ρ, hi, _ => ⟨ρ, by simpa using hi, rfl⟩
  | x :: xs, done, ρ, hi, hs => by
    obtain ⟨ρ1, h1, e1⟩ := hs done x xs rfl ρ hi
    obtain ⟨ρ2, h2, e2⟩ := forItems_fold I xs (done ++ [x]) ρ1 h1 (fun pre y post e => hs pre y post (by simpa using e))
    exact ⟨ρ2, by simpa using h2, by simp [forItems, e1, e2]⟩
theorem with_thing (st : List D) (v : Nat) (hv : v < st.length) (hl : st.length ≤ 1000) (x : D) : Pu 1 f_with_thing [.d (.t st), .d (.i v), .d x] (.t (st.set v x)) := by
  refine pu (d := b_with_thing) rfl rfl fun j hj h => ?_
  have c1 := cutL_to st v (by omega)
  have c2 := cutL_from1 st v (by omega)
  have l1 : min v st.length = v := by omega
  have l2 : v + 1 + (st.length - (v + 1)) ≤ 16777216 := by omega
  simp [b_with_thing, c1, c2, set_cut, hv, l1, l2, le_big (show v ≤ 1000 by omega)]
theorem store_behind {st : List D} (as : List (Nat × Exp)) (hs : SafeAs st as) (hl : st.length ≤ 1000) : Pu 47 f_store_behind [.d (.t (as.map asD)), .d (.t st)] (.t (sb st as)) := by
  refine pu (d := b_store_behind) rfl rfl fun j hj h => ?_
  obtain ⟨ρ', ⟨z2, z3, rfl⟩, e⟩ := forItems_fold (f := fb (cx j) (.t [2, 3]) l0_store_behind) (h := h) (g := W.d ∘ asD) (fun pre ρ => ∃ z2 z3, ρ = [some (.d (.t (as.map asD))), some (.d (.t (sb st pre))), z2, z3]) as [] [some (.d (.t (as.map asD))), some (.d (.t st)), none, none] ⟨_, _, rfl⟩ (by
    rintro pre a post e ρ ⟨z2, z3, rfl⟩
    obtain ⟨h1, h2, h3⟩ := hs.mid e
    refine ⟨_, ⟨some (.d (.i a.1)), some (.d a.2.d), rfl⟩, ?_⟩
    have e1 := worth a.2 h1 j (by omega) h
    have e2 := with_thing (sb st pre) a.1 (by simpa using h2) (by simpa using hl) (wo (sb st pre) a.2) j (by omega) h
    simp [fb, l0_store_behind, asD, e1, e2, sb_app, asg])
  simp at e
  simp [b_store_behind, e]

theorem goes_to_goto (l : Nat) : Pu 1 f_goes_to [.d (Jmp.goto l).d] (.t [.i l]) := by
  refine pu (d := b_goes_to) rfl rfl fun j hj h => ?_
  simp [b_goes_to, Jmp.d]
theorem goes_to_test (e : Exp) (l m : Nat) : Pu 1 f_goes_to [.d (Jmp.test e l m).d] (.t [.i l, .i m]) := by
  refine pu (d := b_goes_to) rfl rfl fun j hj h => ?_
  simp [b_goes_to, Jmp.d]
theorem goes_to_fin (e : Exp) : Pu 1 f_goes_to [.d (Jmp.fin e).d] (.t []) := by
  refine pu (d := b_goes_to) rfl rfl fun j hj h => ?_
  simp [b_goes_to, Jmp.d]
theorem answer_of {st : List D} (e : Exp) (l m : Nat) (he : AllTh st e) (hn : e.nest ≤ 40) : Pu 47 f_answer_of [.d (Jmp.test e l m).d, .d (.t st)] (.i (if zeroB (wo st e) = true then 0 else 1)) := by
  refine pu (d := b_answer_of) rfl rfl fun j hj h => ?_
  have e1 := worth e he j (by omega) h
  simp [b_answer_of, Jmp.d, e1, zeroB]
  split <;> simp_all
def outD : Out → D
  | .go b st => .t [.s "at", .i b, .t st]
  | .ended x => .t [.s "ended", x]
theorem block_goto {st : List D} (l : Nat) : Pu 48 f_block_behind [.d (Jmp.goto l).d, .d (.t st)] (.i l) := by
  refine pu (d := b_block_behind) rfl rfl fun j hj h => ?_
  simp [b_block_behind, Jmp.d]
theorem block_test {st : List D} (e : Exp) (l m : Nat) (he : AllTh st e) (hn : e.nest ≤ 40) : Pu 48 f_block_behind [.d (Jmp.test e l m).d, .d (.t st)] (.i (if zeroB (wo st e) = true then m else l)) := by
  refine pu (d := b_block_behind) rfl rfl fun j hj h => ?_
  have e1 := answer_of e l m he hn j (by omega) h
  have e2 := goes_to_test e l m j (by omega) h
  simp only [Jmp.d] at e1 e2
  by_cases hz : zeroB (wo st e) = true
  · simp [hz] at e1; simp [b_block_behind, Jmp.d, e1, e2, hz]
  · simp [hz] at e1; simp [b_block_behind, Jmp.d, e1, e2, hz]
theorem next_state {p : Prg} {b : Nat} {st : List D} {bl : Blk} (hb : p.bl[b]? = some bl) (hs : SafeB st bl) : Pu 50 f_next_state [.d p.d, .d (.t [.s "at", .i b, .t st])] (outD (stepP p b st)) := by
  refine pu (d := b_next_state) rfl rfl fun j hj h => ?_
  have hbl : b < p.bl.length := (List.getElem?_eq_some_iff.1 hb).1
  have hbm : (p.bl.map (W.d ∘ Blk.d))[b]? = some (.d bl.d) := by simp [hb]
  have e1 := store_behind bl.as hs.1 hs.2.2 j (by omega) h
  have hj' := hs.2.1
  unfold stepP
  rw [hb]
  simp only
  unfold stepB
  obtain ⟨as, jp⟩ := bl
  have hb2 : (List.map (W.d ∘ Blk.d) p.bl)[b]? = some (.d (.t [.t (as.map asD), jp.d])) := hbm
  simp only at e1 hj'
  cases jp with
  | goto l =>
    have e2 := block_goto (st := sb st as) l j (by omega) h
    simp only [Jmp.d] at e2
    simp [b_next_state, Prg.d, ixN_nat _ _ hbl, hb, Blk.d, Jmp.d, e1, e2, outD]
  | test e l m =>
    have e2 := block_test e l m hj'.1 hj'.2 j (by omega) h
    simp only [Jmp.d] at e2
    simp [b_next_state, Prg.d, ixN_nat _ _ hbl, hb, Blk.d, Jmp.d, e1, e2]
    split <;> simp [outD]
  | fin e =>
    have e2 := worth e hj'.1 j (by have := hj'.2; omega) h
    simp [b_next_state, Prg.d, ixN_nat _ _ hbl, hb, Blk.d, Jmp.d, e1, e2, outD]
end J
set_option maxRecDepth 10000
namespace J
theorem run_loop {p : Prg} {j : Nat} (hj : 51 ≤ j) {h : LH} {S M : Option W} : ∀ (m s b : Nat) (st : List D) (x4 : Option W), SafeRun p m b st → ∃ ρ', (∃ y3 y4, ρ' = [some (.d p.d), S, M, y3, y4]) ∧ forItems (fb (cx j) (.n 4) l0_run) ((List.range' s m).map fun (k : Nat) => W.d (.i k)) [some (.d p.d), S, M, some (.d (.t [.s "at", .i b, .t st])), x4] h = match runP p m b st with
    | some (k, x) => some (.ret (.d (.t [.s "ended", .i ((s + k : Nat) : Int), x])), ρ', h)
    | none => some (.nxt, ρ', h)
  | 0, s, b, st, x4, _ => ⟨_, ⟨_, _, rfl⟩, rfl⟩
  | m + 1, s, b, st, x4, hs => by
    obtain ⟨⟨bl, hb, hsb⟩, hrest⟩ := hs
    have e1 := next_state hb hsb j (by omega) h
    simp only [List.range'_succ, List.map_cons, forItems]
    unfold runP
    cases ho : stepP p b st with
    | ended x =>
      rw [ho] at e1
      simp only [outD] at e1
      exact ⟨_, ⟨some (.d (.t [.s "ended", x])), some (.d (.i s)), rfl⟩, by simp [fb, l0_run, e1]⟩
    | go b' st' =>
      rw [ho] at e1 hrest
      simp only [outD] at e1
      obtain ⟨ρ', hρ, e2⟩ := run_loop hj m (s + 1) b' st' (some (.d (.i s))) hrest
      refine ⟨ρ', hρ, ?_⟩
      simp [fb, l0_run, e1]
      simp [fb, l0_run] at e2
      rw [e2]
      cases runP p m b' st' with
      | none => rfl
      | some r => simp; omega
theorem run_ok {p : Prg} {st : List D} {most : Nat} (hm : most ≤ 1000000) (hs : SafeRun p most 0 st) : Pu 53 f_run [.d p.d, .d (.t st), .d (.i most)] (resD most (runP p most 0 st)) := by
  refine pu (d := b_run) rfl rfl fun j hj h => ?_
  have e1 : call JP j f_first_state [.d (.t st)] h = some (.d (.t [.s "at", .i 0, .t st]), h) := (pu (k := 0) (d := b_first_state) rfl rfl fun j hj h => by simp [b_first_state]) j (by omega) h
  obtain ⟨ρ', ⟨y3, y4, rfl⟩, e2⟩ := run_loop (p := p) (j := j) (by omega) (h := h) (S := some (.d (.t st))) (M := some (.d (.i most))) most 0 0 st none hs
  rw [← List.range_eq_range'] at e2
  simp [b_run, e1, inR_nat _ hm, range_nat]
  simp at e2
  rw [e2]
  cases runP p most 0 st with
  | none => simp [resD]
  | some r => simp [resD]
/-! ### the laws' -/
def outL : Out → D
  | .go b st => .t [.i b, .t st]
  | .ended x => .t [.i (-1), x]
theorem law_step {p : Prg} {b : Nat} {st : List D} {bl : Blk} (hb : p.bl[b]? = some bl) (hs : SafeB st bl) : Pu 50 f_law_step [.d p.d, .d (.i b), .d (.t st)] (outL (stepP p b st)) := by
  refine pu (d := b_law_step) rfl rfl fun j hj h => ?_
  have hbl : b < p.bl.length := (List.getElem?_eq_some_iff.1 hb).1
  have hj' := hs.2.1
  unfold stepP
  rw [hb]
  simp only
  unfold stepB
  obtain ⟨as, jp⟩ := bl
  have hl := hs.2.2
  have hsa := hs.1
  simp only at hj' hsa
  have hloop : ∃ ρ' , forItems (fb (cx j) (.n 4) l0_law_step) (as.map (W.d ∘ asD)) [some (.d p.d), some (.d (.i b)), some (.d (.t st)), some (.l h.length), none, none] (h ++ [st.map .d]) = some (.nxt, ρ', h ++ [(sb st as).map .d]) ∧ ∃ x4, ρ' = [some (.d p.d), some (.d (.i b)), some (.d (.t st)), some (.l h.length), x4, none] := by
    have := wp_items (f := fb (cx j) (.n 4) l0_law_step) (g := W.d ∘ asD) (Q := ⟨fun q => q.1 = .nxt ∧ q.2.2 = h ++ [(sb st as).map .d] ∧ ∃ x4, q.2.1 = [some (.d p.d), some (.d (.i b)), some (.d (.t st)), some (.l h.length), x4, none]⟩) (xs := as) (fun pre ρ H => H = h ++ [(sb st pre).map .d] ∧ ∃ x4, ρ = [some (.d p.d), some (.d (.i b)), some (.d (.t st)), some (.l h.length), x4, none]) [] (ρ := [some (.d p.d), some (.d (.i b)), some (.d (.t st)), some (.l h.length), none, none]) (h := h ++ [st.map .d]) ⟨rfl, _, rfl⟩ (by
      rintro pre a post e ρ H ⟨rfl, x4, rfl⟩
      obtain ⟨h1, h2, h3⟩ := hsa.mid e
      have e1 := law_worth a.2 h1 (.l h.length) (h ++ [(sb st pre).map .d]) (by simp) j (by omega)
      refine ⟨(.nxt, [some (.d p.d), some (.d (.i b)), some (.d (.t st)), some (.l h.length), some (.d (asD a)), none], h ++ [(sb st (pre ++ [a])).map .d]), ?_, rfl, _, rfl⟩
      have h2' : a.1 < (sb st pre).length := by simpa using h2
      simp [fb, l0_law_step, asD, e1, ixN_nat _ _ h2', ixN_nat _ _ h2, sb_app, asg, List.map_set])
      (fun ρ H hh => ⟨rfl, hh.1, hh.2⟩)
    obtain ⟨⟨fl, ρ', H'⟩, e, h1, h2, h3⟩ := this
    simp only at h1 h2 h3
    subst h1 h2
    exact ⟨ρ', e, h3⟩
  obtain ⟨ρ', e1, x4, rfl⟩ := hloop
  simp only [Prg.d] at e1
  have len : st.length ≤ 16777216 := by omega
  have hw : items (h ++ [(sb st as).map .d]) (.l h.length) = some ((sb st as).map .d) := by simp
  cases jp with
  | goto l => simp [b_law_step, Prg.d, ixN_nat _ _ hbl, hb, Blk.d, Jmp.d, e1, outL, len]
  | test e l m =>
    have e2 := law_worth e hj'.1 _ _ hw j (by have := hj'.2; omega)
    by_cases hz : eqv (wo (sb st as) e) (.i 0) = true
    · simp [b_law_step, Prg.d, ixN_nat _ _ hbl, hb, Blk.d, Jmp.d, e1, len, e2, zeroB, hz, outL]
    · simp [b_law_step, Prg.d, ixN_nat _ _ hbl, hb, Blk.d, Jmp.d, e1, len, e2, zeroB, hz, outL]
  | fin e =>
    have e2 := law_worth e hj'.1 _ _ hw j (by have := hj'.2; omega)
    simp [b_law_step, Prg.d, ixN_nat _ _ hbl, hb, Blk.d, Jmp.d, e1, outL, len, e2]
theorem law_run_loop {p : Prg} {j : Nat} (hj : 51 ≤ j) {h : LH} {S M : Option W} : ∀ (m s b : Nat) (st : List D) (x4 : Option W), SafeRun p m b st → ∃ ρ', (∃ y3 y4, ρ' = [some (.d p.d), S, M, y3, y4]) ∧ forItems (fb (cx j) (.n 4) l0_law_run) ((List.range' s m).map fun (k : Nat) => W.d (.i k)) [some (.d p.d), S, M, some (.d (.t [.i b, .t st])), x4] h = match runP p m b st with
    | some (k, x) => some (.ret (.d (.t [.s "ended", .i ((s + k : Nat) : Int), x])), ρ', h)
    | none => some (.nxt, ρ', h)
  | 0, s, b, st, x4, _ => ⟨_, ⟨_, _, rfl⟩, rfl⟩
  | m + 1, s, b, st, x4, hs => by
    obtain ⟨⟨bl, hb, hsb⟩, hrest⟩ := hs
    have e1 := law_step hb hsb j (by omega) h
    simp only [List.range'_succ, List.map_cons, forItems]
    unfold runP
    cases ho : stepP p b st with
    | ended x =>
      rw [ho] at e1
      simp only [outL] at e1
      exact ⟨_, ⟨some (.d (.t [.i (-1), x])), some (.d (.i s)), rfl⟩, by simp [fb, l0_law_run, e1]⟩
    | go b' st' =>
      rw [ho] at e1 hrest
      simp only [outL] at e1
      obtain ⟨ρ', hρ, e2⟩ := law_run_loop hj m (s + 1) b' st' (some (.d (.i s))) hrest
      refine ⟨ρ', hρ, ?_⟩
      have hn : ¬ ((b' : Int) < 0) := by omega
      simp [fb, l0_law_run, e1, hn]
      simp [fb, l0_law_run] at e2
      rw [e2]
      cases runP p m b' st' with
      | none => rfl
      | some r => simp; omega
theorem law_run_ok {p : Prg} {st : List D} {most : Nat} (hm : most ≤ 1000000) (hl : st.length ≤ 1000) (hs : SafeRun p most 0 st) : Pu 53 f_law_run [.d p.d, .d (.t st), .d (.i most)] (resD most (runP p most 0 st)) := by
  refine pu (d := b_law_run) rfl rfl fun j hj h => ?_
  obtain ⟨ρ', ⟨y3, y4, rfl⟩, e2⟩ := law_run_loop (p := p) (j := j) (by omega) (h := h) (S := some (.d (.t st))) (M := some (.d (.i most))) most 0 0 st none hs
  rw [← List.range_eq_range'] at e2
  have len : st.length ≤ 16777216 := by omega
  simp [b_law_run, inR_nat _ hm, range_nat, len]
  simp at e2
  rw [e2]
  cases runP p most 0 st with
  | none => simp [resD]
  | some r => simp [resD]
end J
set_option maxRecDepth 10000
/-! Runs of programs whose variables nest as told go well. -/
namespace J
/-- each assignment keeps its variable's bound -/
structure Prg.Bd (p : Prg) (dv : Nat → Nat) (N A : Nat) : Prop where
  lim : ∀ v, dv v ≤ 60
  len : ∀ b ∈ p.bl, b.as.length ≤ A
  as : ∀ b ∈ p.bl, ∀ a ∈ b.as, dbx dv a.2 ≤ 60 ∧ db dv a.2 ≤ dv a.1 ∧ a.2.nest ≤ N
  jt : ∀ b ∈ p.bl, ∀ e l m, b.j = .test e l m → dbx dv e ≤ 60 ∧ e.nest ≤ N
  jf : ∀ b ∈ p.bl, ∀ e, b.j = .fin e → dbx dv e ≤ 60 ∧ e.nest ≤ N
theorem StOk.mono {dv : Nat → Nat} {n m : Nat} {st : List D} (h : StOk dv n st) (hm : n ≤ m) : StOk dv m st := fun v x e => (h v x e).mono (Nat.le_refl _) hm
theorem StOk.asg {dv : Nat → Nat} {n N M : Nat} {st : List D} {a : Nat × Exp} (h : StOk dv n st) (hn : 10 ≤ n) (hl : st.length = M) (he : a.2.Ok M) (hd : db dv a.2 ≤ dv a.1) (hN : a.2.nest ≤ N) : StOk dv (n + N) (asg st a) := by
  intro v x e
  unfold J.asg at e
  rw [List.getElem?_set] at e
  split at e
  · rename_i hv
    subst hv
    split at e
    · cases e
      exact (wo_ok h hn hl a.2 he).mono hd (by omega)
    · cases e
  · exact (h v x e).mono (Nat.le_refl _) (by omega)
theorem StOk.sb {dv : Nat → Nat} {N M : Nat} (hN : N ≤ 40) : ∀ (as : List (Nat × Exp)) {n : Nat} {st : List D}, StOk dv n st → 10 ≤ n → st.length = M → n + N * as.length + N ≤ 1000000 → (∀ a ∈ as, (a.1 < M ∧ a.2.Ok M) ∧ dbx dv a.2 ≤ 60 ∧ db dv a.2 ≤ dv a.1 ∧ a.2.nest ≤ N) → StOk dv (n + N * as.length) (J.sb st as) ∧ SafeAs st as
  | [], n, st, h, _, _, _, _ => ⟨by simpa [J.sb] using h, trivial⟩
  | a :: r, n, st, h, hn, hl, hb, ha => by
    obtain ⟨⟨h1, h2⟩, h3, h4, h5⟩ := ha a (by simp)
    have e1 : N * (a :: r).length = N + N * r.length := by rw [List.length_cons, Nat.mul_succ]; omega
    rw [e1] at hb ⊢
    obtain ⟨i1, i2⟩ := StOk.sb hN r (h.asg hn hl h2 h4 h5) (by omega) (by rw [asg_len]; exact hl) (by omega) (fun b hb => ha b (List.mem_cons_of_mem _ hb))
    refine ⟨i1.mono (by omega), ⟨allTh h hn hl a.2 h2 h3 (by omega), by omega, by omega⟩, i2⟩
theorem safe_run {p : Prg} {dv : Nat → Nat} {N A : Nat} (ok : p.Ok) (bd : p.Bd dv N A) (hN : N ≤ 40) : ∀ (m b n : Nat) (st : List D), b < p.bl.length → StOk dv n st → 10 ≤ n → st.length = p.many → n + N * A * (m + 1) + N ≤ 1000000 → SafeRun p m b st
  | 0, b, n, st, _, _, _, _, _ => trivial
  | m + 1, b, n, st, hb, hs, hn, hl, hc => by
    have hbl : p.bl[b]? = some p.bl[b] := List.getElem?_eq_getElem hb
    have hmem := List.getElem_mem hb
    obtain ⟨k1, k2, k3⟩ := ok.bl _ hmem
    have hlen := bd.len _ hmem
    have hv := ok.vars
    have c0 : N * A * (m + 1 + 1) = N * A * (m + 1) + N * A := Nat.mul_succ _ _
    have c1 : N * p.bl[b].as.length ≤ N * A := Nat.mul_le_mul_left _ hlen
    obtain ⟨i1, i2⟩ := StOk.sb hN p.bl[b].as hs hn hl (by omega) (fun a ha => ⟨k2 a ha, bd.as _ hmem a ha⟩)
    have i3 := i1.mono (m := n + N * A) (by omega)
    have len : (sb st p.bl[b].as).length = p.many := by rw [sb_len]; exact hl
    refine ⟨⟨_, hbl, i2, ?_, by omega⟩, ?_⟩
    · cases hj : p.bl[b].j with
      | goto l => trivial
      | test e l m =>
        rw [hj] at k3
        obtain ⟨q1, q2⟩ := bd.jt _ hmem e l m hj
        exact ⟨allTh i3 (by omega) len e k3.1 q1 (by omega), by omega⟩
      | fin e =>
        rw [hj] at k3
        obtain ⟨q1, q2⟩ := bd.jf _ hmem e hj
        exact ⟨allTh i3 (by omega) len e k3 q1 (by omega), by omega⟩
    · unfold stepP
      rw [hbl]
      simp only
      unfold stepB
      cases hj : p.bl[b].j with
      | goto l =>
        rw [hj] at k3
        exact safe_run ok bd hN m l _ _ k3 i3 (by omega) len (by omega)
      | test e l k =>
        rw [hj] at k3
        by_cases hz : zeroB (wo (sb st p.bl[b].as) e) = true
        · simp only [hz, if_true]
          exact safe_run ok bd hN m k _ _ k3.2.2 i3 (by omega) len (by omega)
        · simp only [hz, if_false]
          exact safe_run ok bd hN m l _ _ k3.2.1 i3 (by omega) len (by omega)
      | fin e => trivial
end J
set_option maxRecDepth 10000
/-! check_program lets right programs by. -/
namespace J
def subs : Exp → List Exp
  | .know x => [.know x]
  | .of v => [.of v]
  | .o1 o a => .o1 o a :: subs a
  | .o2 o a b => .o2 o a b :: (subs a ++ subs b)
  | .o3 o a b c => .o3 o a b c :: (subs a ++ (subs b ++ subs c))
theorem subs_ok {M : Nat} : ∀ {e : Exp}, e.Ok M → ∀ x ∈ subs e, x.Ok M
  | .know x, h, y, hy => by simp [subs] at hy; subst hy; exact h
  | .of v, h, y, hy => by simp [subs] at hy; subst hy; exact h
  | .o1 o a, h, y, hy => by
    simp [subs] at hy
    rcases hy with rfl | hy
    · exact h
    · exact subs_ok (e := a) h y hy
  | .o2 o a b, h, y, hy => by
    simp [subs] at hy
    rcases hy with rfl | hy | hy
    · exact h
    · exact subs_ok h.1 y hy
    · exact subs_ok h.2 y hy
  | .o3 o a b c, h, y, hy => by
    simp [subs] at hy
    rcases hy with rfl | hy | hy | hy
    · exact h
    · exact subs_ok h.1 y hy
    · exact subs_ok h.2.1 y hy
    · exact subs_ok h.2.2 y hy
theorem subs_len : ∀ e : Exp, (subs e).length ≤ 4 ^ e.nest
  | .know x => by simp [subs, Exp.nest]
  | .of v => by simp [subs, Exp.nest]
  | .o1 o a => by
    have h1 := subs_len a
    have h2 : 1 ≤ 4 ^ a.nest := Nat.one_le_pow _ _ (by omega)
    simp only [subs, Exp.nest, List.length_cons, Nat.pow_succ]; omega
  | .o2 o a b => by
    have h1 := subs_len a
    have h2 := subs_len b
    have h3 : 4 ^ a.nest ≤ 4 ^ max a.nest b.nest := Nat.pow_le_pow_right (by omega) (by omega)
    have h4 : 4 ^ b.nest ≤ 4 ^ max a.nest b.nest := Nat.pow_le_pow_right (by omega) (by omega)
    have h5 : 1 ≤ 4 ^ a.nest := Nat.one_le_pow _ _ (by omega)
    simp only [subs, Exp.nest, List.length_cons, List.length_append, Nat.pow_succ]; omega
  | .o3 o a b c => by
    have h1 := subs_len a
    have h2 := subs_len b
    have h6 := subs_len c
    have h3 : 4 ^ a.nest ≤ 4 ^ max a.nest (max b.nest c.nest) := Nat.pow_le_pow_right (by omega) (by omega)
    have h4 : 4 ^ b.nest ≤ 4 ^ max a.nest (max b.nest c.nest) := Nat.pow_le_pow_right (by omega) (by omega)
    have h7 : 4 ^ c.nest ≤ 4 ^ max a.nest (max b.nest c.nest) := Nat.pow_le_pow_right (by omega) (by omega)
    have h5 : 1 ≤ 4 ^ a.nest := Nat.one_le_pow _ _ (by omega)
    simp only [subs, Exp.nest, List.length_cons, List.length_append, Nat.pow_succ]; omega
theorem okAll_map {α : Type} (g : α → D) (b : Nat) (xs : List α) : okAll b (xs.map (W.d ∘ g)) = true := by
  have := okAll_d b (xs.map g)
  simpa using this
theorem args_know (x : D) : Pu 1 f_arguments_of [.d (Exp.know x).d] (.t []) := by
  refine pu (d := b_arguments_of) rfl rfl fun j hj h => ?_
  simp [b_arguments_of, Exp.d]
theorem args_of (v : Nat) : Pu 1 f_arguments_of [.d (Exp.of v).d] (.t []) := by
  refine pu (d := b_arguments_of) rfl rfl fun j hj h => ?_
  simp [b_arguments_of, Exp.d]
theorem args_1 (o : O1) (a : Exp) : Pu 1 f_arguments_of [.d (Exp.o1 o a).d] (.t [a.d]) := by
  refine pu (d := b_arguments_of) rfl rfl fun j hj h => ?_
  cases o <;> simp [b_arguments_of, Exp.d]
theorem args_2 (o : O2) (a b : Exp) : Pu 1 f_arguments_of [.d (Exp.o2 o a b).d] (.t [a.d, b.d]) := by
  refine pu (d := b_arguments_of) rfl rfl fun j hj h => ?_
  cases o <;> simp [b_arguments_of, Exp.d]
theorem args_3 (o : O3) (a b c : Exp) : Pu 1 f_arguments_of [.d (Exp.o3 o a b c).d] (.t [a.d, b.d, c.d]) := by
  refine pu (d := b_arguments_of) rfl rfl fun j hj h => ?_
  cases o <;> simp [b_arguments_of, Exp.d]
theorem all_within : ∀ (e : Exp), e.nest ≤ 11 → ∀ j, e.nest + 2 ≤ j → ∀ h, call JP j f_all_within [.d e.d] h = some (.l h.length, h ++ [(subs e).map (W.d ∘ Exp.d)])
  | .know x, _, j + 1, hj, h => by
    have e1 := args_know x j (by simp only [Exp.nest] at hj; omega)
    exact pl (d := b_all_within) rfl rfl (by simp [b_all_within, e1, forItems, fin, subs])
  | .of v, _, j + 1, hj, h => by
    have e1 := args_of v j (by simp only [Exp.nest] at hj; omega)
    exact pl (d := b_all_within) rfl rfl (by simp [b_all_within, e1, forItems, fin, subs])
  | .o1 o a, hn, j + 1, hj, h => by
    have e1 := args_1 o a j (by simp only [Exp.nest] at hj; omega)
    simp only [Exp.nest] at hn hj
    have e2 := all_within a (by omega) j (by omega)
    have l1 := subs_len a
    have p1 : 4 ^ a.nest ≤ 4 ^ 10 := Nat.pow_le_pow_right (by omega) (by omega)
    have q1 : 1 + (subs a).length ≤ 16777216 := by omega
    exact pl (d := b_all_within) rfl rfl (by simp [b_all_within, e1, e2, forItems, fb, l0_all_within, fin, subs, okAll_map, q1])
  | .o2 o a b, hn, j + 1, hj, h => by
    have e1 := args_2 o a b j (by simp only [Exp.nest] at hj; omega)
    simp only [Exp.nest] at hn hj
    have e2 := all_within a (by omega) j (by omega)
    have e3 := all_within b (by omega) j (by omega)
    have l1 := subs_len a
    have p1 : 4 ^ a.nest ≤ 4 ^ 10 := Nat.pow_le_pow_right (by omega) (by omega)
    have l2 := subs_len b
    have p2 : 4 ^ b.nest ≤ 4 ^ 10 := Nat.pow_le_pow_right (by omega) (by omega)
    have q1 : 1 + (subs a).length ≤ 16777216 := by omega
    have q2 : (subs a).length + 1 + (subs b).length ≤ 16777216 := by omega
    exact pl (d := b_all_within) rfl rfl (by simp [b_all_within, e1, e2, e3, forItems, fb, l0_all_within, fin, subs, okAll_map, q1, q2])
  | .o3 o a b c, hn, j + 1, hj, h => by
    have e1 := args_3 o a b c j (by simp only [Exp.nest] at hj; omega)
    simp only [Exp.nest] at hn hj
    have e2 := all_within a (by omega) j (by omega)
    have e3 := all_within b (by omega) j (by omega)
    have e4 := all_within c (by omega) j (by omega)
    have l1 := subs_len a
    have p1 : 4 ^ a.nest ≤ 4 ^ 10 := Nat.pow_le_pow_right (by omega) (by omega)
    have l2 := subs_len b
    have p2 : 4 ^ b.nest ≤ 4 ^ 10 := Nat.pow_le_pow_right (by omega) (by omega)
    have l3 := subs_len c
    have p3 : 4 ^ c.nest ≤ 4 ^ 10 := Nat.pow_le_pow_right (by omega) (by omega)
    have q1 : 1 + (subs a).length ≤ 16777216 := by omega
    have q2 : (subs a).length + 1 + (subs b).length ≤ 16777216 := by omega
    have q3 : (subs a).length + (subs b).length + 1 + (subs c).length ≤ 16777216 := by omega
    exact pl (d := b_all_within) rfl rfl (by simp [b_all_within, e1, e2, e3, e4, forItems, fb, l0_all_within, fin, subs, okAll_map, q1, q2, q3])

theorem arity1 (o : O1) : Pu 1 f_arity [.d (.s o.nm)] (.i 1) := by
  refine pu (d := b_arity) rfl rfl fun j hj h => ?_
  cases o <;> simp [b_arity, Tb]
theorem arity2 (o : O2) : Pu 1 f_arity [.d (.s o.nm)] (.i 2) := by
  refine pu (d := b_arity) rfl rfl fun j hj h => ?_
  cases o <;> simp [b_arity, Tb]
theorem arity3 (o : O3) : Pu 1 f_arity [.d (.s o.nm)] (.i 3) := by
  refine pu (d := b_arity) rfl rfl fun j hj h => ?_
  cases o <;> simp [b_arity, Tb]
theorem expr_for {M : Nat} {e : Exp} (he : e.Ok M) (hn : e.nest ≤ 11) : Pu 15 f_is_expression_for [.d (.i M), .d e.d] (.b true) := by
  refine pu (d := b_is_expression_for) rfl rfl fun j hj h => ?_
  have e1 := all_within e hn j (by omega) h
  have ok := subs_ok he
  have e2 := wp_live (f := fb (cx j) (.n 2) l0_is_expression_for) (g := W.d ∘ Exp.d) (a := h.length) (xs := subs e) (Q := ⟨fun q => q.1 = .nxt ∧ q.2.2.take h.length = h⟩) (n := (subs e).length + 1) (fun pre ρ H => H = h ++ [(subs e).map (W.d ∘ Exp.d)] ∧ ∃ x2, ρ = [some (.d (.i M)), some (.d e.d), x2]) (ρ := [some (.d (.i M)), some (.d e.d), none]) (h := h ++ [(subs e).map (W.d ∘ Exp.d)]) ⟨rfl, _, rfl⟩
    (by rintro pre ρ H ⟨rfl, x2, rfl⟩; simp)
    (by
      rintro pre x post hx ρ H ⟨rfl, x2, rfl⟩
      have hxo := ok x (by rw [hx]; simp)
      refine ⟨(.nxt, [some (.d (.i M)), some (.d e.d), some (.d x.d)], h ++ [(subs e).map (W.d ∘ Exp.d)]), ?_, rfl, _, rfl⟩
      cases x with
      | know y => simp [fb, l0_is_expression_for, Exp.d]
      | of v =>
        have hv : (v : Int) < M := by have : v < M := hxo; omega
        simp [fb, l0_is_expression_for, Exp.d, hv]
      | o1 o a =>
        have ea := arity1 o j (by omega)
        cases o <;> simp at ea <;> simp [fb, l0_is_expression_for, Exp.d, ea]
      | o2 o a b =>
        have ea := arity2 o j (by omega)
        cases o <;> simp at ea <;> simp [fb, l0_is_expression_for, Exp.d, ea]
      | o3 o a b c =>
        have ea := arity3 o j (by omega)
        cases o <;> simp at ea <;> simp [fb, l0_is_expression_for, Exp.d, ea])
    (by rintro ρ H ⟨rfl, x2, rfl⟩; exact ⟨rfl, by simp⟩) (by omega)
  obtain ⟨⟨fl, ρ', H'⟩, e3, h1, h2⟩ := e2
  simp only at h1 h2
  subst h1
  simp [b_is_expression_for, e1, e3, h2]
theorem asked_goto (l : Nat) : Pu 1 f_asked_by [.d (Jmp.goto l).d] (.t []) := by
  refine pu (d := b_asked_by) rfl rfl fun j hj h => ?_
  simp [b_asked_by, Jmp.d]
theorem asked_test (e : Exp) (l m : Nat) : Pu 1 f_asked_by [.d (Jmp.test e l m).d] (.t [e.d]) := by
  refine pu (d := b_asked_by) rfl rfl fun j hj h => ?_
  simp [b_asked_by, Jmp.d]
theorem asked_fin (e : Exp) : Pu 1 f_asked_by [.d (Jmp.fin e).d] (.t [e.d]) := by
  refine pu (d := b_asked_by) rfl rfl fun j hj h => ?_
  simp [b_asked_by, Jmp.d]
/-- all expressions nest at most 11 deep -/
def Blk.Nest (b : Blk) (N : Nat) : Prop := (∀ a ∈ b.as, a.2.nest ≤ N) ∧ (∀ e l m, b.j = .test e l m → e.nest ≤ N) ∧ (∀ e, b.j = .fin e → e.nest ≤ N)
theorem block_for {M size : Nat} {b : Blk} (hb : b.Ok M size) (hn : b.Nest 11) : Pu 17 f_is_block_for [.d (.i M), .d (.i size), .d b.d] (.b true) := by
  refine pu (d := b_is_block_for) rfl rfl fun j hj h => ?_
  obtain ⟨as, jp⟩ := b
  obtain ⟨hl, ha, hjp⟩ := hb
  obtain ⟨n1, n2, n3⟩ := hn
  simp only at ha hjp n1 n2 n3
  have e1 := forItems_fold (f := fb (cx j) (.t [3, 4]) l0_is_block_for) (h := h) (g := W.d ∘ asD) (fun pre ρ => ∃ z3 z4, ρ = [some (.d (.i M)), some (.d (.i size)), some (.d (.t [.t (as.map asD), jp.d])), z3, z4, none]) as [] [some (.d (.i M)), some (.d (.i size)), some (.d (.t [.t (as.map asD), jp.d])), none, none, none] ⟨_, _, rfl⟩ (by
    rintro pre a post hx ρ ⟨z3, z4, rfl⟩
    have hm : a ∈ as := by rw [show as = pre ++ a :: post from by simpa using hx]; simp
    obtain ⟨h1, h2⟩ := ha a hm
    have e1 := expr_for h2 (n1 a hm) j (by omega) h
    have h1' : (a.1 : Int) < M := by omega
    refine ⟨_, ⟨some (.d (.i a.1)), some (.d a.2.d), rfl⟩, ?_⟩
    simp [fb, l0_is_block_for, asD, e1, h1'])
  obtain ⟨ρ', ⟨z3, z4, rfl⟩, e1⟩ := e1
  cases jp with
  | goto l =>
    have e2 := asked_goto l j (by omega) h
    have e3 := goes_to_goto l j (by omega) h
    have hll : (l : Int) < size := by have : l < size := hjp; omega
    simp only [Jmp.d] at e1 e2 e3
    simp [b_is_block_for, Blk.d, Jmp.d, e1, e2, e3, forItems, fb, l2_is_block_for, hll]
  | test e l m =>
    have e2 := asked_test e l m j (by omega) h
    have e3 := goes_to_test e l m j (by omega) h
    have e4 := expr_for hjp.1 (n2 e l m rfl) j (by omega) h
    have hll : (l : Int) < size := by have := hjp.2.1; omega
    have hmm : (m : Int) < size := by have := hjp.2.2; omega
    simp only [Jmp.d] at e1 e2 e3
    simp [b_is_block_for, Blk.d, Jmp.d, e1, e2, e3, e4, forItems, fb, l1_is_block_for, l2_is_block_for, hll, hmm]
  | fin e =>
    have e2 := asked_fin e j (by omega) h
    have e3 := goes_to_fin e j (by omega) h
    have e4 := expr_for hjp (n3 e rfl) j (by omega) h
    simp only [Jmp.d] at e1 e2 e3
    simp [b_is_block_for, Blk.d, Jmp.d, e1, e2, e3, e4, forItems, fb, l1_is_block_for]
theorem check_ok {p : Prg} (hp : p.Ok) (hn : ∀ b ∈ p.bl, b.Nest 11) : Pu 20 f_check_program [.d p.d] .none := by
  have main : Pu 19 f_is_program [.d p.d] (.b true) := by
    refine pu (d := b_is_program) rfl rfl fun j hj h => ?_
    obtain ⟨M, bl⟩ := p
    have e1 := forItems_fold (f := fb (cx j) (.n 3) l0_is_program) (h := h) (g := W.d ∘ Blk.d) (fun pre ρ => ∃ z3, ρ = [some (.d (Prg.d ⟨M, bl⟩)), some (.d (.i M)), some (.d (.t (bl.map Blk.d))), z3]) bl [] [some (.d (Prg.d ⟨M, bl⟩)), some (.d (.i M)), some (.d (.t (bl.map Blk.d))), none] ⟨_, rfl⟩ (by
      rintro pre b post hx ρ ⟨z3, rfl⟩
      have hm : b ∈ bl := by rw [show bl = pre ++ b :: post from by simpa using hx]; simp
      have e1 := block_for (hp.bl b hm) (hn b hm) j (by omega) h
      refine ⟨_, ⟨some (.d b.d), rfl⟩, ?_⟩
      simp at e1
      simp [fb, l0_is_program, e1])
    obtain ⟨ρ', ⟨z3, rfl⟩, e1⟩ := e1
    have hne : ¬ ((bl.length : Int) = 0) := by have := hp.ne; simp only at this; omega
    have hne2 : ¬ bl = [] := by intro z; rw [z] at hne; simp at hne
    have hM : ¬ ((M : Int) < 0) := by omega
    simp only [Prg.d] at e1
    simp [b_is_program, Prg.d, e1, hne2, hM]
  refine pu (d := b_check_program) rfl rfl fun j hj h => ?_
  simp [b_check_program, main j (by omega) h]
end J
set_option maxRecDepth 10000
/-! _law_same of data with itself. -/
namespace J
/-- data nesting at most n deep, without lists -/
inductive Dt : Nat → D → Prop where
  | none (n : Nat) : Dt n .none
  | b (n : Nat) (x : Bool) : Dt n (.b x)
  | i (n : Nat) (x : Int) : Dt n (.i x)
  | s (n : Nat) (x : String) : Dt n (.s x)
  | t (n : Nat) (xs : List D) : xs.length ≤ 1000000 → (∀ x ∈ xs, Dt n x) → Dt (n + 1) (.t xs)
theorem Dt.up {n m : Nat} {x : D} (h : Dt n x) (hm : n ≤ m) : Dt m x := by
  induction h generalizing m with
  | none => exact .none _
  | b => exact .b _ _
  | i => exact .i _ _
  | s => exact .s _ _
  | t n xs hl hx ih =>
    obtain ⟨k, rfl⟩ : ∃ k, m = k + 1 := ⟨m - 1, by omega⟩
    exact .t _ _ hl (fun x hx => ih x hx (by omega))
@[simp] theorem dt_i (n : Nat) (x : Int) : Dt n (.i x) := .i _ _
@[simp] theorem dt_s (n : Nat) (x : String) : Dt n (.s x) := .s _ _
@[simp] theorem dt_b (n : Nat) (x : Bool) : Dt n (.b x) := .b _ _
@[simp] theorem dt_n (n : Nat) : Dt n .none := .none _
theorem dt_t (n : Nat) (xs : List D) : Dt (n + 1) (.t xs) ↔ xs.length ≤ 1000000 ∧ ∀ x ∈ xs, Dt n x := by
  constructor
  · intro h; cases h with | t _ _ h1 h2 => exact ⟨h1, h2⟩
  · rintro ⟨h1, h2⟩; exact .t _ _ h1 h2
theorem Tn.dt {d n : Nat} {x : D} (h : Tn d n x) (hn : n ≤ 1000000) : Dt d x := by
  induction h with
  | i => exact .i _ _
  | t d n xs hl hx ih => exact .t _ _ (by omega) (fun x h => ih x h hn)
theorem same_step (j : Nat) (h : LH) (xs : List D) (k : Nat) (y : Option W) (hk : k < xs.length) (h1 : call JP j f_law_same [.d xs[k], .d xs[k]] h = some (.d (.b true), h)) : fb (cx j) (.n 2) l0_law_same (.d (.i k)) [some (.d (.t xs)), some (.d (.t xs)), y] h = some (.nxt, [some (.d (.t xs)), some (.d (.t xs)), some (.d (.i k))], h) := by
  simp [fb, l0_law_same, ixN_nat _ _ hk, hk, h1]
theorem same {n : Nat} {x : D} (hx : Dt n x) : Pu (n + 1) f_law_same [.d x, .d x] (.b true) := by
  induction hx with
  | none n => exact fun j hj => (pu (k := 0) (d := b_law_same) rfl rfl fun j hj h => by simp [b_law_same]) j (by omega)
  | b n x => exact fun j hj => (pu (k := 0) (d := b_law_same) rfl rfl fun j hj h => by simp [b_law_same]) j (by omega)
  | i n x => exact fun j hj => (pu (k := 0) (d := b_law_same) rfl rfl fun j hj h => by simp [b_law_same]) j (by omega)
  | s n x => exact fun j hj => (pu (k := 0) (d := b_law_same) rfl rfl fun j hj h => by simp [b_law_same]) j (by omega)
  | t n xs hl hx ih =>
    refine pu (d := b_law_same) rfl rfl fun j hj h => ?_
    have e := forItems_fold (f := fb (cx j) (.n 2) l0_law_same) (h := h) (g := fun (k : Nat) => W.d (.i k)) (fun pre ρ => ∃ y, ρ = [some (.d (.t xs)), some (.d (.t xs)), y]) (List.range xs.length) [] [some (.d (.t xs)), some (.d (.t xs)), none] ⟨_, rfl⟩ (by
      rintro pre k post e ρ ⟨y, rfl⟩
      have hk : k < xs.length := by
        have : k ∈ List.range xs.length := by rw [show List.range xs.length = pre ++ k :: post from by simpa using e]; simp
        simpa using this
      exact ⟨_, ⟨_, rfl⟩, same_step j h xs k y hk (ih xs[k] (List.getElem_mem hk) j (by omega) h)⟩)
    obtain ⟨ρ', ⟨y, rfl⟩, e⟩ := e
    rw [← range_nat] at e
    simp [b_law_same, inR_nat _ hl, e]
/-! typed things as data -/
theorem Exp.dt {M : Nat} : ∀ {e : Exp}, e.Ok M → Dt (e.nest + 4) e.d
  | .know x, h => by
    rw [show (Exp.know x).nest + 4 = 4 + 1 from rfl]
    have := (Tn.dt h (by omega)).up (show 3 ≤ 4 by omega)
    simp [Exp.d, dt_t, this]
  | .of v, h => by
    rw [show (Exp.of v).nest + 4 = 4 + 1 from rfl]
    simp [Exp.d, dt_t]
  | .o1 o a, h => by
    have h1 := Exp.dt (e := a) h
    rw [show (Exp.o1 o a).nest + 4 = (a.nest + 4) + 1 from by simp only [Exp.nest] <;> omega]
    simp [Exp.d, dt_t, h1]
  | .o2 o a b, h => by
    have h1 := (Exp.dt (e := a) h.1).up (show a.nest + 4 ≤ max a.nest b.nest + 4 by omega)
    have h2 := (Exp.dt (e := b) h.2).up (show b.nest + 4 ≤ max a.nest b.nest + 4 by omega)
    rw [show (Exp.o2 o a b).nest + 4 = (max a.nest b.nest + 4) + 1 from by simp only [Exp.nest] <;> omega]
    simp [Exp.d, dt_t, h1, h2]
  | .o3 o a b c, h => by
    have h1 := (Exp.dt (e := a) h.1).up (show a.nest + 4 ≤ max a.nest (max b.nest c.nest) + 4 by omega)
    have h2 := (Exp.dt (e := b) h.2.1).up (show b.nest + 4 ≤ max a.nest (max b.nest c.nest) + 4 by omega)
    have h3 := (Exp.dt (e := c) h.2.2).up (show c.nest + 4 ≤ max a.nest (max b.nest c.nest) + 4 by omega)
    rw [show (Exp.o3 o a b c).nest + 4 = (max a.nest (max b.nest c.nest) + 4) + 1 from by simp only [Exp.nest] <;> omega]
    simp [Exp.d, dt_t, h1, h2, h3]
theorem Blk.dt {M size N : Nat} {b : Blk} (h : b.Ok M size) (hn : b.Nest N) : Dt (N + 7) b.d := by
  obtain ⟨as, jp⟩ := b
  obtain ⟨hl, ha, hj⟩ := h
  obtain ⟨n1, n2, n3⟩ := hn
  simp only at hl ha hj n1 n2 n3
  have q1 : ∀ a ∈ as, Dt (N + 5) (asD a) := fun a hm => by
    have := (Exp.dt (ha a hm).2).up (show a.2.nest + 4 ≤ N + 4 by have := n1 a hm; omega)
    rw [show N + 5 = (N + 4) + 1 from rfl]
    simp [asD, dt_t, this]
  have q2 : Dt (N + 6) jp.d := by
    cases jp with
    | goto l => rw [show N + 6 = (N + 5) + 1 from rfl]; simp [Jmp.d, dt_t]
    | test e l m =>
      have := (Exp.dt hj.1).up (show e.nest + 4 ≤ N + 5 by have := n2 e l m rfl; omega)
      rw [show N + 6 = (N + 5) + 1 from rfl]; simp [Jmp.d, dt_t, this]
    | fin e =>
      have := (Exp.dt hj).up (show e.nest + 4 ≤ N + 5 by have := n3 e rfl; omega)
      rw [show N + 6 = (N + 5) + 1 from rfl]; simp [Jmp.d, dt_t, this]
  have q3 : Dt (N + 6) (.t (as.map asD)) := by
    rw [show N + 6 = (N + 5) + 1 from rfl, dt_t]
    exact ⟨by simp; omega, fun x hx => by obtain ⟨a, ha, rfl⟩ := List.mem_map.1 hx; exact q1 a ha⟩
  rw [show N + 7 = (N + 6) + 1 from rfl]
  simp [Blk.d, dt_t, q2, q3]
theorem Prg.dt {N : Nat} {p : Prg} (h : p.Ok) (hn : ∀ b ∈ p.bl, b.Nest N) : Dt (N + 9) p.d := by
  have q : Dt (N + 8) (.t (p.bl.map Blk.d)) := by
    rw [show N + 8 = (N + 7) + 1 from rfl, dt_t]
    refine ⟨by have := h.small; simp; omega, ?_⟩
    intro x hx
    obtain ⟨b, hb, rfl⟩ := List.mem_map.1 hx
    exact Blk.dt (h.bl b hb) (hn b hb)
  rw [show N + 9 = (N + 8) + 1 from rfl]
  simp [Prg.d, dt_t, q]
end J
set_option maxRecDepth 10000
/-! What the laws draw. -/
namespace J
def Pd (k f : Nat) (args : List W) (Q : D → Prop) : Prop := ∀ j, k ≤ j → ∀ a H (ds : List Int), H[a]? = some (dl ds) → ∃ r ds', Q r ∧ call JP j f (.l a :: args) H = some (.d r, H.set a (dl ds'))
theorem take (m : Int) (hm : 1 ≤ m) : Pd 1 f_law_take [.d (.i m)] (fun r => ∃ x, r = .i x ∧ 0 ≤ x ∧ x < m) := by
  intro j hj a H ds ha
  obtain ⟨j, rfl⟩ : ∃ i, j = i + 1 := ⟨j - 1, by omega⟩
  rcases List.eq_nil_or_concat ds with rfl | ⟨ds, x, rfl⟩
  · refine ⟨.i 0, [], ⟨0, rfl, by omega, by omega⟩, ?_⟩
    refine pl (d := b_law_take) rfl rfl ?_
    simp [b_law_take, ha]
    rw [set_self ha]
  · refine ⟨.i (x % m), ds, ⟨_, rfl, Int.emod_nonneg _ (by omega), Int.emod_lt_of_pos _ (by omega)⟩, ?_⟩
    refine pl (d := b_law_take) rfl rfl ?_
    have h0 : 0 < m := by omega
    have h1 : ((ds.length : Int) + 1 = 0) = False := by simp; omega
    have h2 : ¬ ((ds.length : Int) + 1 = 0) := by omega
    have h3 : (dl (ds ++ [x])).getLast? = some (.d (.i x)) := by simp [dl]
    have h4 : (dl (ds ++ [x])).dropLast = dl ds := by simp [dl]
    have hl := (List.getElem?_eq_some_iff.1 ha).1
    simp at h3 h4 ha
    simp [b_law_take, ha, h0, h2, h3, h4]
theorem draws_step (j : Nat) (S N : W) (h : LH) (cells rest draws : List Int) (hc : 1 ≤ cells.length) (hr : rest.length = cells.length) (k : Nat) (hd : draws.length < 100000) (x6 x7 x8 y : Option W) (x5 : Option W) : ∃ rest' d y6 y7, rest'.length = cells.length ∧ fb (cx j) (.n 5) l0_law_draws (.d (.i k)) [some S, some N, some (.l h.length), some (.l (h.length + 1)), some (.l (h.length + 2)), x5, x6, x7, x8] (h ++ [dl cells, dl rest, dl draws]) = some (.nxt, [some S, some N, some (.l h.length), some (.l (h.length + 1)), some (.l (h.length + 2)), some (.d (.i k)), y6, y7, x8], h ++ [dl cells, dl rest', dl (draws ++ [d])]) := by
  have hk : k % cells.length < cells.length := Nat.mod_lt _ hc
  obtain ⟨c, hcc⟩ : ∃ c, cells[k % cells.length]? = some c := ⟨_, List.getElem?_eq_getElem hk⟩
  obtain ⟨r, hrr⟩ : ∃ c, rest[k % cells.length]? = some c := ⟨_, List.getElem?_eq_getElem (by omega)⟩
  have hc2 : (dl cells)[k % cells.length]? = some (.d (.i c)) := by simp [dl, hcc]
  have hr2 : (dl rest)[k % cells.length]? = some (.d (.i r)) := by simp [dl, hrr]
  have hm : ixN cells.length ((k : Int) % (cells.length : Int)) = some (k % cells.length) := ixN_mod _ _ hc
  have h0 : (0 : Int) < cells.length := by omega
  have hcN : 0 < cells.length := hc
  have hd' : draws.length < 16777216 := by omega
  by_cases h1 : c < 1000000000000000000
  · have e0 : (0 : Int) ≤ (c * 48271 + k * 69621 + 11) % 2147483647 := Int.emod_nonneg _ (by omega)
    have e1 : (c * 48271 + k * 69621 + 11) % 2147483647 < 2147483647 := Int.emod_lt_of_pos _ (by omega)
    refine ⟨rest, (((c * 48271 + k * 69621 + 11) % 2147483647) * ((c * 48271 + k * 69621 + 11) % 2147483647) + 3 * ((c * 48271 + k * 69621 + 11) % 2147483647) + k) % 1000003, some (.d (.i ((k : Int) % (cells.length : Int)))), some (.d (.i ((c * 48271 + k * 69621 + 11) % 2147483647))), hr, ?_⟩
    have m1 := mul_ii (h ++ [dl cells, dl rest, dl draws]) c 48271 (by omega)
    have m2 := mul_ii (h ++ [dl cells, dl rest, dl draws]) k 69621 (by omega)
    generalize hz : (c * 48271 + k * 69621 + 11) % 2147483647 = z at e0 e1 ⊢
    have m3 := mul_ii (h ++ [dl cells, dl rest, dl draws]) z z (by omega)
    have m4 := mul_ii (h ++ [dl cells, dl rest, dl draws]) 3 z (by omega)
    have h1' : ¬ 1000000000000000000 ≤ c := by omega
    simp -implicitDefEqProofs [fb, l0_law_draws, h0, hcN, hm, hc2, pow_18, h1', m1, m2, hz, m3, m4, hd']
    simp [dl]
  · by_cases h2 : 0 < r
    · refine ⟨rest.set (k % cells.length) (r / 1000), r % 1000, some (.d (.i ((k : Int) % (cells.length : Int)))), x7, by simp [hr], ?_⟩
      have f1 := fdiv_ii (h ++ [dl cells, dl rest, dl draws ++ [.d (.i (r % 1000))]]) r 1000 (by omega) (by omega)
      have h1' : 1000000000000000000 ≤ c := by omega
      simp -implicitDefEqProofs [fb, l0_law_draws, h0, hcN, hm, hc2, hr2, pow_18, h1', h2, hd', f1, hr]
      simp [dl, List.map_set]
    · have e0 : (0 : Int) ≤ (c * 48271 + k * 69621 + 11) % 2147483647 := Int.emod_nonneg _ (by omega)
      have e1 : (c * 48271 + k * 69621 + 11) % 2147483647 < 2147483647 := Int.emod_lt_of_pos _ (by omega)
      refine ⟨rest, (((c * 48271 + k * 69621 + 11) % 2147483647) * ((c * 48271 + k * 69621 + 11) % 2147483647) + 3 * ((c * 48271 + k * 69621 + 11) % 2147483647) + k) % 1000003, some (.d (.i ((k : Int) % (cells.length : Int)))), some (.d (.i ((c * 48271 + k * 69621 + 11) % 2147483647))), hr, ?_⟩
      have m1 := mul_ii (h ++ [dl cells, dl rest, dl draws]) c 48271 (by omega)
      have m2 := mul_ii (h ++ [dl cells, dl rest, dl draws]) k 69621 (by omega)
      generalize hz : (c * 48271 + k * 69621 + 11) % 2147483647 = z at e0 e1 ⊢
      have m3 := mul_ii (h ++ [dl cells, dl rest, dl draws]) z z (by omega)
      have m4 := mul_ii (h ++ [dl cells, dl rest, dl draws]) 3 z (by omega)
      have h1' : 1000000000000000000 ≤ c := by omega
      simp -implicitDefEqProofs [fb, l0_law_draws, h0, hcN, hm, hc2, hr2, pow_18, h1', h2, m1, m2, hz, m3, m4, hd', hr]
      simp [dl]
theorem draws_loop (j : Nat) (S N : W) (h : LH) (cells : List Int) (hc : 1 ≤ cells.length) : ∀ (ks : List Nat) (rest draws : List Int), rest.length = cells.length → draws.length + ks.length < 100000 → ∀ (x5 x6 x7 x8 : Option W), ∃ rest' draws' y5 y6 y7, forItems (fb (cx j) (.n 5) l0_law_draws) (ks.map fun (k : Nat) => .d (.i k)) [some S, some N, some (.l h.length), some (.l (h.length + 1)), some (.l (h.length + 2)), x5, x6, x7, x8] (h ++ [dl cells, dl rest, dl draws]) = some (.nxt, [some S, some N, some (.l h.length), some (.l (h.length + 1)), some (.l (h.length + 2)), y5, y6, y7, x8], h ++ [dl cells, dl rest', dl draws'])
  | [], rest, draws, _, _, x5, x6, x7, x8 => ⟨rest, draws, x5, x6, x7, rfl⟩
  | k :: ks, rest, draws, hr, hl, x5, x6, x7, x8 => by
    simp only [List.length_cons] at hl
    obtain ⟨r1, d, y6, y7, h1, e1⟩ := draws_step j S N h cells rest draws hc hr k (by omega) x6 x7 x8 none x5
    obtain ⟨r2, d2, z5, z6, z7, e2⟩ := draws_loop j S N h cells hc ks r1 (draws ++ [d]) h1 (by simp; omega) (some (.d (.i k))) y6 y7 x8
    refine ⟨r2, d2, z5, z6, z7, ?_⟩
    simp only [List.map_cons, forItems]
    rw [e1]
    exact e2
theorem draws (N : Nat) (hN : N ≤ 10000) (ns : List Int) (hns : ns.length ≤ 100) (j : Nat) (hj : 1 ≤ j) (h : LH) : ∃ ds, call JP j f_law_draws [.d (.fl (ns.map .i)), .d (.i N)] h = some (.l h.length, h ++ [dl ds]) := by
  obtain ⟨j, rfl⟩ : ∃ i, j = i + 1 := ⟨j - 1, by omega⟩
  have hr : range 0 N = (List.range N).map fun (k : Nat) => W.d (.i k) := range_nat N
  have hR : inR (N : Int) := inR_nat N (by omega)
  have hl : (List.range N).length = N := List.length_range
  generalize List.range N = ks at hr hl
  have fin_l : ∀ (xs ys zs : List W) (ds : List Int), zs = dl ds → fin h.length (.l (h.length + 2)) (h ++ [xs, ys, zs]) = some (.l h.length, h ++ [zs]) := by
    rintro xs ys zs ds rfl
    simp [fin, dl]
  rcases ns with _ | ⟨n, ns⟩
  · obtain ⟨rest', draws', y5, y6, y7, e⟩ := draws_loop j (.d (.fl [])) (.d (.i N)) h [0] (by simp) ks [0] [] rfl (by simp; omega) none none none none
    refine ⟨draws'.reverse, pl (d := b_law_draws) rfl rfl ?_⟩
    simp only [dl, List.map_cons, List.map_nil] at e
    simp -implicitDefEqProofs [b_law_draws, compItems, hr, hR, e, fin_l _ _ _ _ rfl]
    simp [dl, fin, ← List.map_reverse]
  · obtain ⟨rest', draws', y5, y6, y7, e⟩ := draws_loop j (.d (.fl ((n :: ns).map .i))) (.d (.i N)) h (n :: ns) (by simp) ks (n :: ns) [] rfl (by simp; omega) none none none none
    refine ⟨draws'.reverse, pl (d := b_law_draws) rfl rfl ?_⟩
    have hc : ∀ ρ : Env, 8 < ρ.length → compItems (turn (.n 8) ρ (evc (cx j) none) (ev (cx j) (.bi .int [.var 8]))) (((n :: ns).map D.i).map .d) [] h = some (((n :: ns).map D.i).map .d, h) := by
      intro ρ hρ
      refine comp_n (g := W.d) (fun x hx => ?_) (by simp at hns ⊢; omega)
      obtain ⟨y, _, rfl⟩ := List.mem_map.1 hx
      simp [hρ]
    have h9 : ns.length + 1 ≤ 16777216 := by simp at hns; omega
    have h8 : ns.length ≤ 16777215 := by simp at hns; omega
    have h7 : ¬ ((ns.length : Int) + 1 = 0) := by omega
    simp only [dl, List.map_cons, List.map_nil, List.map_map, Function.comp_def] at e hc
    simp -implicitDefEqProofs [b_law_draws, hc, hr, hR, e, h7, h8, h9, Function.comp_def]
    simp [dl, fin, ← List.map_reverse]
theorem cell (ns : List Int) (hns : ns.length ≤ 100) : ∃ c : Int, Pu 1 f_law_cell [.d (.fl (ns.map .i))] (.i c) := by
  by_cases h0 : ns.length = 0
  · refine ⟨0, pu (d := b_law_cell) rfl rfl fun j hj h => ?_⟩
    have : ns = [] := List.length_eq_zero_iff.1 h0
    subst this
    simp [b_law_cell]
  · have hk : ∃ k : Nat, k < ns.length ∧ ((ns.length : Int) - 1) % 7 % (ns.length : Int) = k := by
      have h1 : 0 ≤ ((ns.length : Int) - 1) % 7 % (ns.length : Int) := Int.emod_nonneg _ (by omega)
      have h2 : ((ns.length : Int) - 1) % 7 % (ns.length : Int) < ns.length := Int.emod_lt_of_pos _ (by omega)
      exact ⟨(((ns.length : Int) - 1) % 7 % (ns.length : Int)).toNat, by omega, by omega⟩
    obtain ⟨k, hk1, hk2⟩ := hk
    have hp : (0 : Int) < 10 ^ 60 := by decide
    have h3 : ¬ ((ns.length : Int) = 0) := by omega
    have h4 : (0 : Int) < ns.length := by omega
    have h5 : ns ≠ [] := by intro h; rw [h] at h0; simp at h0
    have h6 : ns[k]? = some ns[k] := List.getElem?_eq_getElem hk1
    generalize ns[k] = c at h6
    generalize hP : (10 : Int) ^ 60 = P at hp
    by_cases hc : c < 0
    · refine ⟨-(-c % P), pu (d := b_law_cell) rfl rfl fun j hj h => ?_⟩
      have := pow_60 h
      rw [hP] at this
      simp -implicitDefEqProofs [b_law_cell, h3, h4, h5, hk2, ixN_nat _ _ hk1, h6, hc, this, hp]
    · refine ⟨c % P, pu (d := b_law_cell) rfl rfl fun j hj h => ?_⟩
      have := pow_60 h
      rw [hP] at this
      simp -implicitDefEqProofs [b_law_cell, h3, h4, h5, hk2, ixN_nat _ _ hk1, h6, hc, this, hp]
theorem Pd.wp {k f : Nat} {args : List W} {Q : D → Prop} (p : Pd k f args Q) {j : Nat} (hj : k ≤ j) {H : LH} {a : Nat} {ds : List Int} {K : LH} (ha : a < H.length) {R : Kt (W × LH)} (h : ∀ r ds', Q r → R.run (.d r, hp H a ds' K)) : @Wp _ (call JP j f (.l a :: args) (hp H a ds K)) R := by
  obtain ⟨r, ds', q, e⟩ := p j hj a (hp H a ds K) ds (hp_a ha)
  rw [hp_sa ha] at e
  exact ⟨_, e, h r ds' q⟩
theorem Pd.of {k f : Nat} {args : List W} {Q : D → Prop} (d : Def) (hF : JP.F f = some d) (hl : args.length + 1 = d.np) (h : ∀ j, k ≤ j → ∀ a H (ds : List Int), a < H.length → @Wp _ (execs (cx j) d.body (some (.l a) :: args.map some ++ List.replicate (d.ns - d.np) none) (hp H a ds [])) ⟨retQ H.length ⟨fun p => ∃ r ds', Q r ∧ p = (.d r, H.set a (dl ds'))⟩⟩) : Pd (k + 1) f args Q := by
  intro j hj a H ds ha
  obtain ⟨j, rfl⟩ : ∃ i, j = i + 1 := ⟨j - 1, by omega⟩
  have hal := (List.getElem?_eq_some_iff.1 ha).1
  have h1 := h j (by omega) a H ds hal
  rw [← hp_self ha] at h1
  rw [call_def hF (by simpa using hl)]
  rw [← Wp_ret] at h1
  obtain ⟨p, e, r, ds', q, rfl⟩ := h1
  exact ⟨r, ds', q, e⟩

end J
set_option maxRecDepth 10000
/-! Drawn things, expressions and programs. -/
namespace J
theorem nat_of {x : Int} (h : 0 ≤ x) : ∃ n : Nat, x = n := ⟨x.toNat, by omega⟩
theorem okIn_m {α : Type} (g : α → D) (b : Nat) (xs : List α) : okAll b (xs.map (W.d ∘ g)) = true := by
  have := okAll_d b (xs.map g)
  simpa using this
theorem thing (c : Int) : Pd 4 f_law_thing [.d (.i c)] (Tn 2 10) := by
  refine Pd.of b_law_thing rfl rfl fun j hj a H ds ha => ?_
  simp [b_law_thing]
  refine (take 12 (by omega)).wp (by omega) ha ?_
  rintro _ d1 ⟨x1, rfl, h0, h1⟩
  by_cases c11 : x1 = 11
  · subst c11
    simp
    exact ⟨_, .i _ _ _, rfl, _, rfl⟩
  by_cases c6 : x1 < 6
  · simp [c11, c6]
    refine (take 4 (by omega)).wp (by omega) ha ?_
    rintro _ d2 ⟨x2, rfl, h2, h3⟩
    simp
    exact ⟨_, .i _ _ _, rfl, _, rfl⟩
  · simp [c11, c6]
    refine (take 4 (by omega)).wp (by omega) ha ?_
    rintro _ d2 ⟨x2, rfl, h2, h3⟩
    obtain ⟨m, rfl⟩ := nat_of h2
    simp [inR_nat m (by omega), range_nat]
    refine wp_items (g := fun (k : Nat) => W.d (.i k)) (fun pre ρ h => ∃ row ds x4 x5 K, ρ = [some (.l a), some (.d (.i c)), some (.d (.i x1)), some (.l H.length), x4, x5] ∧ h = hp H a ds (List.map W.d row :: K) ∧ row.length = pre.length ∧ ∀ x ∈ row, Tn 1 10 x) [] ⟨[], d2, none, none, [], rfl, rfl, rfl, by simp⟩ ?_ ?_
    · rintro pre k post e ρ h ⟨row, ds, x4, x5, K, rfl, rfl, hl, hr⟩
      have hlen : row.length < 10 := by
        have := congrArg List.length e
        simp at this
        omega
      simp [fb, l0_law_thing]
      refine (take 4 (by omega)).wp (by omega) ha ?_
      rintro _ d3 ⟨x3, rfl, h4, h5⟩
      by_cases c0 : x3 = 0
      · simp [c0]
        refine (take 3 (by omega)).wp (by omega) ha ?_
        rintro _ d4 ⟨x4', rfl, h6, h7⟩
        obtain ⟨m', rfl⟩ := nat_of h6
        simp [inR_nat m' (by omega), range_nat]
        refine wp_comp (g := fun (k : Nat) => W.d (.i k)) (fun pre acc h => ∃ (tu : List D) (ds : List Int), acc = tu.map .d ∧ h = hp H a ds (List.map W.d row :: K) ∧ tu.length = pre.length ∧ ∀ x ∈ tu, Tn 0 10 x) [] ⟨[], d4, rfl, rfl, rfl, by simp⟩ ?_ ?_
        · rintro pre k post e acc h ⟨tu, ds, rfl, rfl, hl2, hr2⟩
          simp
          refine (take 3 (by omega)).wp (by omega) ha ?_
          rintro _ d5 ⟨x5, rfl, h8, h9⟩
          have hlen2 : tu.length < 10 := by
            have := congrArg List.length e
            simp at this
            omega
          have q : tu.length < 16777216 := by omega
          simp [q]
          refine ⟨tu ++ [.i x5], by simp, ⟨_, rfl⟩, by simp [hl2], ?_⟩
          intro x hx
          rcases List.mem_append.1 hx with hx | hx
          · exact hr2 x hx
          · simp at hx; subst hx; exact .i _ _ _
        · rintro acc h ⟨tu, ds, rfl, rfl, hl2, hr2⟩
          simp at hl2
          have q : tu.length ≤ 16777216 := by omega
          have q2 : row.length < 16777216 := by omega
          simp [q, q2]
          refine ⟨row ++ [.t tu], by simp; exact ⟨_, _, rfl⟩, by simp [hl], ?_⟩
          intro x hx
          rcases List.mem_append.1 hx with hx | hx
          · exact hr x hx
          · simp at hx; subst hx; exact .t _ _ _ (by omega) hr2
      · simp [c0]
        refine (take 4 (by omega)).wp (by omega) ha ?_
        rintro _ d4 ⟨x4', rfl, h6, h7⟩
        have q2 : row.length < 16777216 := by omega
        simp [q2]
        refine ⟨row ++ [.i (x4' - 1)], by simp; exact ⟨_, _, rfl⟩, by simp [hl], ?_⟩
        intro x hx
        rcases List.mem_append.1 hx with hx | hx
        · exact hr x hx
        · simp at hx; subst hx; exact .i _ _ _
    · rintro ρ h ⟨row, ds, x4, x5, K, rfl, rfl, hl, hr⟩
      simp at hl
      have q2 : row.length ≤ 16777216 := by omega
      simp [q2]
      exact ⟨_, .t _ _ _ (by omega) hr, rfl, _, rfl⟩
theorem law_store (c : Int) (m : Nat) (hm : m ≤ 1000) : Pd 6 f_law_store [.d (.i m), .d (.i c)] (fun r => ∃ st, r = .t st ∧ st.length = m ∧ ∀ x ∈ st, Tn 2 10 x) := by
  refine Pd.of b_law_store rfl rfl fun j hj a H ds ha => ?_
  simp [b_law_store, inR_nat m (by omega), range_nat]
  refine wp_comp (g := fun (k : Nat) => W.d (.i k)) (fun pre acc h => ∃ (tu : List D) (ds : List Int), acc = tu.map .d ∧ h = hp H a ds [] ∧ tu.length = pre.length ∧ ∀ x ∈ tu, Tn 2 10 x) [] ⟨[], ds, rfl, rfl, rfl, by simp⟩ ?_ ?_
  · rintro pre k post e acc h ⟨tu, ds, rfl, rfl, hl2, hr2⟩
    simp
    refine (thing c).wp (by omega) ha ?_
    rintro x5 d5 h8
    have hlen2 : tu.length < 2000 := by
      have := congrArg List.length e
      simp at this
      omega
    have q : tu.length < 16777216 := by omega
    simp [q]
    refine ⟨tu ++ [x5], by simp, ⟨_, rfl⟩, by simp [hl2], ?_⟩
    intro x hx
    rcases List.mem_append.1 hx with hx | hx
    · exact hr2 x hx
    · simp at hx; subst hx; exact h8
  · rintro acc h ⟨tu, ds, rfl, rfl, hl2, hr2⟩
    simp at hl2
    have q : tu.length ≤ 16777216 := by omega
    simp [q]
    exact ⟨_, ⟨_, rfl, hl2, hr2⟩, rfl, _, rfl⟩
end J
set_option maxRecDepth 10000
/-! Drawn mild programs. -/
namespace J
/-- the first F variables nest at most 2 deep, the others at most 3 -/
def dvF (F : Nat) (v : Nat) : Nat := if v < F then 2 else 3
structure FallE (F M : Nat) (e : Exp) : Prop where
  ok : e.Ok M
  x : dbx (dvF F) e ≤ 4
  d : db (dvF F) e ≤ 2
  n : e.nest ≤ 3
structure BuildE (F M : Nat) (e : Exp) : Prop where
  ok : e.Ok M
  x : dbx (dvF F) e ≤ 4
  d : db (dvF F) e ≤ 3
  n : e.nest ≤ 4
def SimE (F : Nat) (e : Exp) : Prop := (∃ v, v < F ∧ e = .of v) ∨ ∃ x, e = .know x ∧ Tn 2 10 x
theorem SimE.ok {F M : Nat} (h : F ≤ M) {e : Exp} (s : SimE F e) : e.Ok M ∧ dbx (dvF F) e ≤ 2 ∧ db (dvF F) e ≤ 2 ∧ e.nest = 1 := by
  rcases s with ⟨v, hv, rfl⟩ | ⟨x, rfl, hx⟩
  · exact ⟨show v < M by omega, by simp [dbx, dvF, hv], by simp [db, dvF, hv], rfl⟩
  · exact ⟨hx.mono (by omega) (by omega), by simp [dbx]; exact hx.depth, by simp [db]; exact hx.depth, rfl⟩
theorem dvF_le (F v : Nat) : dvF F v ≤ 3 := by unfold dvF; split <;> omega
theorem law_simple (F : Nat) (c : Int) : Pd 5 f_law_simple [.d (.i F), .d (.i c)] (fun r => ∃ e, r = e.d ∧ SimE F e) := by
  refine Pd.of b_law_simple rfl rfl fun j hj a H ds ha => ?_
  by_cases hF : 0 < F
  · simp [b_law_simple, hF]
    refine (take 3 (by omega)).wp (by omega) ha ?_
    rintro _ d1 ⟨x1, rfl, h0, h1⟩
    by_cases hx : 0 < x1
    · simp [hx]
      refine (take F (by omega)).wp (by omega) ha ?_
      rintro _ d2 ⟨x2, rfl, h2, h3⟩
      obtain ⟨v, rfl⟩ := nat_of h2
      simp
      exact ⟨_, ⟨.of v, rfl, .inl ⟨v, by omega, rfl⟩⟩, rfl, _, rfl⟩
    · simp [hx]
      refine (thing c).wp (by omega) ha ?_
      rintro x2 d2 hx2
      simp
      exact ⟨_, ⟨.know x2, rfl, .inr ⟨x2, rfl, hx2⟩⟩, rfl, _, rfl⟩
  · simp [b_law_simple, hF]
    refine (thing c).wp (by omega) ha ?_
    rintro x2 d2 hx2
    simp
    exact ⟨_, ⟨.know x2, rfl, .inr ⟨x2, rfl, hx2⟩⟩, rfl, _, rfl⟩
theorem FallE.o1 {F M : Nat} (o : O1) {e : Exp} (h : e.Ok M) (hx : dbx (dvF F) e ≤ 3) (hd : db1 o (db (dvF F) e) ≤ 2) (hn : e.nest ≤ 2) : FallE F M (.o1 o e) :=
  ⟨h, by simp only [dbx]; omega, hd, by simp only [Exp.nest]; omega⟩
theorem heap_ok {F M v : Nat} (h1 : F ≤ v) (h2 : v < M) : (Exp.of v).Ok M ∧ dbx (dvF F) (.of v) = 3 ∧ db (dvF F) (.of v) = 3 ∧ (Exp.of v).nest = 1 := by
  have : ¬ v < F := by omega
  exact ⟨h2, by simp [dbx, dvF, this], by simp [db, dvF, this], rfl⟩
theorem know_nat (M : Nat) (F : Nat) (k : Int) : (Exp.know (.i k)).Ok M ∧ dbx (dvF F) (.know (.i k)) = 0 ∧ db (dvF F) (.know (.i k)) = 0 ∧ (Exp.know (.i k)).nest = 1 := ⟨.i _ _ _, by simp [dbx], by simp [db], rfl⟩
theorem law_fall (F M : Nat) (hF : F ≤ M) (hM : M ≤ 1000) (c : Int) : Pd 6 f_law_fall [.d (.i F), .d (.i M), .d (.i c)] (fun r => ∃ e, r = e.d ∧ FallE F M e) := by
  refine Pd.of b_law_fall rfl rfl fun j hj a H ds ha => ?_
  simp [b_law_fall]
  refine (take 16 (by omega)).wp (by omega) ha ?_
  rintro _ d1 ⟨x1, rfl, h0, h1⟩
  simp
  refine (law_simple F c).wp (by omega) ha ?_
  rintro _ d2 ⟨e1, rfl, hs1⟩
  obtain ⟨o1, x1', dd1, n1⟩ := hs1.ok hF
  by_cases c4 : x1 < 4
  · simp [c4]
    exact ⟨_, ⟨e1, rfl, o1, by omega, by omega, by omega⟩, rfl, _, rfl⟩
  by_cases c7 : x1 < 7 ∧ F < M
  · obtain ⟨c7, cF⟩ := c7
    simp [c4, c7, cF]
    have e : (M : Int) - F = ((M - F : Nat) : Int) := by omega
    rw [e]
    refine (take (M - F : Nat) (by omega)).wp (by omega) ha ?_
    rintro _ d3 ⟨x3, rfl, h2, h3⟩
    obtain ⟨w, rfl⟩ := nat_of h2
    obtain ⟨q1, q2, q3, q4⟩ := heap_ok (F := F) (M := M) (v := F + w) (by omega) (by omega)
    have hx : x1 = 4 ∨ x1 = 5 ∨ x1 = 6 := by omega
    rcases hx with rfl | rfl | rfl
    · simp
      exact ⟨_, ⟨.o1 .first (.of (F + w)), by simp [Exp.d], .o1 _ q1 (by omega) (by simp [db1, q3]) (by omega)⟩, rfl, _, rfl⟩
    · simp
      exact ⟨_, ⟨.o1 .some (.of (F + w)), by simp [Exp.d], .o1 _ q1 (by omega) (by simp [db1]) (by omega)⟩, rfl, _, rfl⟩
    · simp
      exact ⟨_, ⟨.o1 .length (.of (F + w)), by simp [Exp.d], .o1 _ q1 (by omega) (by simp [db1]) (by omega)⟩, rfl, _, rfl⟩
  have c7' : x1 < 7 → ¬ F < M := fun h1 h2 => c7 ⟨h1, h2⟩
  have skip : ∀ (A B : LH → Option (Fl × Env × LH)), True := fun _ _ => trivial
  by_cases c9 : x1 < 9
  · have key : ∀ K : LH, True := fun _ => trivial
    by_cases c7a : x1 < 7
    · simp [c4, c7a, c7' c7a, c9]
      refine (take 5 (by omega)).wp (by omega) ha ?_
      rintro _ d3 ⟨x3, rfl, h2, h3⟩
      have hx : x3 = 0 ∨ x3 = 1 ∨ x3 = 2 ∨ x3 = 3 ∨ x3 = 4 := by omega
      rcases hx with rfl | rfl | rfl | rfl | rfl
      · simp; exact ⟨_, ⟨.o1 .first e1, by simp [Exp.d], .o1 _ o1 (by omega) (by simp [db1]; omega) (by omega)⟩, rfl, _, rfl⟩
      · simp; exact ⟨_, ⟨.o1 .rest e1, by simp [Exp.d], .o1 _ o1 (by omega) (by simp [db1]; omega) (by omega)⟩, rfl, _, rfl⟩
      · simp; exact ⟨_, ⟨.o1 .length e1, by simp [Exp.d], .o1 _ o1 (by omega) (by simp [db1]) (by omega)⟩, rfl, _, rfl⟩
      · simp; exact ⟨_, ⟨.o1 .some e1, by simp [Exp.d], .o1 _ o1 (by omega) (by simp [db1]) (by omega)⟩, rfl, _, rfl⟩
      · simp; exact ⟨_, ⟨.o1 .listed e1, by simp [Exp.d], .o1 _ o1 (by omega) (by simp [db1]) (by omega)⟩, rfl, _, rfl⟩
    · simp [c4, c7a, c9]
      refine (take 5 (by omega)).wp (by omega) ha ?_
      rintro _ d3 ⟨x3, rfl, h2, h3⟩
      have hx : x3 = 0 ∨ x3 = 1 ∨ x3 = 2 ∨ x3 = 3 ∨ x3 = 4 := by omega
      rcases hx with rfl | rfl | rfl | rfl | rfl
      · simp; exact ⟨_, ⟨.o1 .first e1, by simp [Exp.d], .o1 _ o1 (by omega) (by simp [db1]; omega) (by omega)⟩, rfl, _, rfl⟩
      · simp; exact ⟨_, ⟨.o1 .rest e1, by simp [Exp.d], .o1 _ o1 (by omega) (by simp [db1]; omega) (by omega)⟩, rfl, _, rfl⟩
      · simp; exact ⟨_, ⟨.o1 .length e1, by simp [Exp.d], .o1 _ o1 (by omega) (by simp [db1]) (by omega)⟩, rfl, _, rfl⟩
      · simp; exact ⟨_, ⟨.o1 .some e1, by simp [Exp.d], .o1 _ o1 (by omega) (by simp [db1]) (by omega)⟩, rfl, _, rfl⟩
      · simp; exact ⟨_, ⟨.o1 .listed e1, by simp [Exp.d], .o1 _ o1 (by omega) (by simp [db1]) (by omega)⟩, rfl, _, rfl⟩
  · have c7b : ¬ x1 < 7 := by omega
    by_cases h9 : x1 = 9
    · subst h9
      simp
      refine (law_simple F c).wp (by omega) ha ?_
      rintro _ d3 ⟨e2, rfl, hs2⟩
      obtain ⟨o2, x2', dd2, n2⟩ := hs2.ok hF
      simp
      refine (thing c).wp (by omega) ha ?_
      rintro x3 d4 hx3
      have hdx := hx3.depth
      simp
      refine ⟨_, ⟨.o3 .choose (.o1 .some e1) e2 (.know x3), by simp [Exp.d], ⟨o1, o2, hx3.mono (by omega) (by omega)⟩, ?_, ?_, ?_⟩, rfl, _, rfl⟩
      · simp only [dbx, db, db1, db3]; omega
      · simp only [db, db3]; omega
      · simp only [Exp.nest]; omega
    · by_cases h10 : x1 = 10
      · subst h10
        simp
        refine (take 3 (by omega)).wp (by omega) ha ?_
        rintro _ d3 ⟨x3, rfl, h2, h3⟩
        simp
        refine ⟨_, ⟨.o2 .item (.know (.i x3)) e1, by simp [Exp.d], ⟨.i _ _ _, o1⟩, ?_, ?_, ?_⟩, rfl, _, rfl⟩
        · simp only [dbx, db, db2, depth_i]; omega
        · simp only [db, db2]; omega
        · simp only [Exp.nest]; omega
      · simp [c4, c7b, c9, h9, h10]
        refine (take 6 (by omega)).wp (by omega) ha ?_
        rintro _ d3 ⟨x3, rfl, h2, h3⟩
        have fin : ∀ (o : O2), db2 o 2 2 ≤ 2 → (∀ x y, db2 o x y ≤ db2 o x y) → (∀ x y, x ≤ 2 → y ≤ 2 → db2 o x y ≤ 2) → ∀ e2, SimE F e2 → FallE F M (.o2 o e1 e2) := by
          intro o _ _ hb e2 hs2
          obtain ⟨o2, x2', dd2, n2⟩ := hs2.ok hF
          have := hb _ _ dd1 dd2
          exact ⟨⟨o1, o2⟩, by simp only [dbx]; omega, by simp only [db]; omega, by simp only [Exp.nest]; omega⟩
        have hx : x3 = 0 ∨ x3 = 1 ∨ x3 = 2 ∨ x3 = 3 ∨ x3 = 4 ∨ x3 = 5 := by omega
        rcases hx with rfl | rfl | rfl | rfl | rfl | rfl
        · simp
          refine (law_simple F c).wp (by omega) ha ?_
          rintro _ d4 ⟨e2, rfl, hs2⟩
          simp; exact ⟨_, ⟨.o2 .same e1 e2, by simp [Exp.d], fin .same (by simp [db2]) (fun _ _ => Nat.le_refl _) (by simp [db2]) e2 hs2⟩, rfl, _, rfl⟩
        · simp
          refine (law_simple F c).wp (by omega) ha ?_
          rintro _ d4 ⟨e2, rfl, hs2⟩
          simp; exact ⟨_, ⟨.o2 .less e1 e2, by simp [Exp.d], fin .less (by simp [db2]) (fun _ _ => Nat.le_refl _) (by simp [db2]) e2 hs2⟩, rfl, _, rfl⟩
        · simp
          refine (law_simple F c).wp (by omega) ha ?_
          rintro _ d4 ⟨e2, rfl, hs2⟩
          simp; exact ⟨_, ⟨.o2 .plus e1 e2, by simp [Exp.d], fin .plus (by simp [db2]) (fun _ _ => Nat.le_refl _) (by simp [db2]) e2 hs2⟩, rfl, _, rfl⟩
        · simp
          refine (law_simple F c).wp (by omega) ha ?_
          rintro _ d4 ⟨e2, rfl, hs2⟩
          simp; exact ⟨_, ⟨.o2 .minus e1 e2, by simp [Exp.d], fin .minus (by simp [db2]) (fun _ _ => Nat.le_refl _) (by simp [db2]) e2 hs2⟩, rfl, _, rfl⟩
        · simp
          refine (law_simple F c).wp (by omega) ha ?_
          rintro _ d4 ⟨e2, rfl, hs2⟩
          simp; exact ⟨_, ⟨.o2 .place e1 e2, by simp [Exp.d], fin .place (by simp [db2]) (fun _ _ => Nat.le_refl _) (by simp [db2]) e2 hs2⟩, rfl, _, rfl⟩
        · simp
          refine (law_simple F c).wp (by omega) ha ?_
          rintro _ d4 ⟨e2, rfl, hs2⟩
          simp; exact ⟨_, ⟨.o2 .item e1 e2, by simp [Exp.d], fin .item (by simp [db2]) (fun _ _ => Nat.le_refl _) (by intro x y _ _; simp only [db2]; omega) e2 hs2⟩, rfl, _, rfl⟩

theorem law_build (F M : Nat) (hF : F < M) (hM : M ≤ 1000) (c : Int) : Pd 7 f_law_build [.d (.i F), .d (.i M), .d (.i c)] (fun r => ∃ e, r = e.d ∧ BuildE F M e) := by
  refine Pd.of b_law_build rfl rfl fun j hj a H ds ha => ?_
  have e : (M : Int) - F = ((M - F : Nat) : Int) := by omega
  simp [b_law_build, e]
  refine (take (M - F : Nat) (by omega)).wp (by omega) ha ?_
  rintro _ d1 ⟨x1, rfl, h0, h1⟩
  obtain ⟨w, rfl⟩ := nat_of h0
  obtain ⟨q1, q2, q3, q4⟩ := heap_ok (F := F) (M := M) (v := F + w) (by omega) (by omega)
  have q5 : dvF F (F + w) = 3 := by simp [dvF]
  simp
  refine (take 6 (by omega)).wp (by omega) ha ?_
  rintro _ d2 ⟨x2, rfl, h2, h3⟩
  by_cases c2 : x2 < 2
  · simp [c2]
    refine (law_fall F M (by omega) hM c).wp (by omega) ha ?_
    rintro _ d3 ⟨e1, rfl, he⟩
    have := he.d
    have := he.x
    have := he.n
    simp
    refine ⟨_, ⟨.o2 .join e1 (.of (F + w)), by simp [Exp.d], ⟨he.ok, q1⟩, ?_, ?_, ?_⟩, rfl, _, rfl⟩
    · simp only [dbx, db, db2, q5]; omega
    · simp only [db, db2, q5]; omega
    · simp only [Exp.nest] at q4 ⊢; omega
  by_cases c3 : x2 = 2
  · subst c3
    simp
    refine (law_fall F M (by omega) hM c).wp (by omega) ha ?_
    rintro _ d3 ⟨e1, rfl, he⟩
    have := he.d
    have := he.x
    have := he.n
    simp
    refine ⟨_, ⟨.o2 .more e1 (.of (F + w)), by simp [Exp.d], ⟨he.ok, q1⟩, ?_, ?_, ?_⟩, rfl, _, rfl⟩
    · simp only [dbx, db, db2, q5]; omega
    · simp only [db, db2, q5]; omega
    · simp only [Exp.nest] at q4 ⊢; omega
  by_cases c4 : x2 = 3
  · subst c4
    simp
    refine ⟨_, ⟨.o1 .rest (.of (F + w)), by simp [Exp.d], q1, ?_, ?_, ?_⟩, rfl, _, rfl⟩
    · simp only [dbx, db, db1, q5]; omega
    · simp only [db, db1, q5]; omega
    · simp only [Exp.nest] at q4 ⊢; omega
  by_cases c5 : x2 = 4
  · subst c5
    simp
    refine (take 3 (by omega)).wp (by omega) ha ?_
    rintro _ d3 ⟨x3, rfl, h4, h5⟩
    simp
    refine (law_fall F M (by omega) hM c).wp (by omega) ha ?_
    rintro _ d4 ⟨e1, rfl, he⟩
    have := he.d
    have := he.x
    have := he.n
    simp
    refine ⟨_, ⟨.o3 .put (.know (.i x3)) (.of (F + w)) e1, by simp [Exp.d], ⟨.i _ _ _, q1, he.ok⟩, ?_, ?_, ?_⟩, rfl, _, rfl⟩
    · simp only [dbx, db, db3, q5, depth_i]; omega
    · simp only [db, db3, q5]; omega
    · simp only [Exp.nest] at q4 ⊢; omega
  · simp [c2, c3, c4, c5]
    exact ⟨_, ⟨.of (F + w), by simp [Exp.d], q1, by omega, by omega, by omega⟩, rfl, _, rfl⟩
/-- a drawn assignment -/
def MildAs (F M : Nat) (a : Nat × Exp) : Prop := a.1 < M ∧ (a.1 < F → FallE F M a.2) ∧ (F ≤ a.1 → BuildE F M a.2)
def MildJ (F M size : Nat) : Jmp → Prop
  | .goto l => l < size
  | .test e l m => FallE F M e ∧ l < size ∧ m < size
  | .fin e => ∃ v, v < M ∧ e = .of v
def MildB (F M size : Nat) (b : Blk) : Prop := b.as.length ≤ 3 ∧ (∀ a ∈ b.as, MildAs F M a) ∧ MildJ F M size b.j
structure MildP (F M : Nat) (p : Prg) : Prop where
  many : p.many = M
  ne : 1 ≤ p.bl.length
  bl : ∀ b ∈ p.bl, MildB F M p.bl.length b
theorem law_assigns (F M size : Nat) (hF : F ≤ M) (hM1 : 1 ≤ M) (hM : M ≤ 1000) (c : Int) (j : Nat) (hj : 8 ≤ j) (a : Nat) (H : LH) (ha : a < H.length) (B : List W) (x5 x6 x10 x11 : Option W) (b : Nat) (K : LH) (hb : K.length = b) (n : Nat) (hn : n ≤ 3) (ds : List Int) (x9 : Option W) (x8 : Option W) {Q : Kt (Fl × Env × LH)}
    (hq : ∀ (as : List (Nat × Exp)) (ds' : List Int) (y8 y9 : Option W) (K' : LH), as.length = n → (∀ x ∈ as, MildAs F M x) → Q.run (.nxt, [some (.l a), some (.d (.i F)), some (.d (.i M)), some (.d (.i size)), some (.d (.i c)), x5, x6, some (.l (H.length + b)), y8, y9, x10, x11], hp H a ds' (K ++ as.map (W.d ∘ asD) :: K'))) :
    @Wp _ (forItems (fb (cx j) (.n 8) l0_law_program) ((List.range n).map fun (k : Nat) => W.d (.i k)) [some (.l a), some (.d (.i F)), some (.d (.i M)), some (.d (.i size)), some (.d (.i c)), x5, x6, some (.l (H.length + b)), x8, x9, x10, x11] (hp H a ds (K ++ [[]]))) Q := by
  refine wp_items (g := fun (k : Nat) => W.d (.i k)) (fun pre ρ h => ∃ (as : List (Nat × Exp)) (ds : List Int) (y8 y9 : Option W) (K' : LH), as.length = pre.length ∧ (∀ x ∈ as, MildAs F M x) ∧ ρ = [some (.l a), some (.d (.i F)), some (.d (.i M)), some (.d (.i size)), some (.d (.i c)), x5, x6, some (.l (H.length + b)), y8, y9, x10, x11] ∧ h = hp H a ds (K ++ as.map (W.d ∘ asD) :: K')) [] ⟨[], ds, x8, x9, [], rfl, by simp, rfl, rfl⟩ ?_ ?_
  · rintro pre k post e ρ h ⟨as, ds, y8, y9, K', hl, has, rfl, rfl⟩
    have hlen : as.length < 16777216 := by
      have := congrArg List.length e
      simp at this
      omega
    simp [fb, l0_law_program]
    refine (take M (by omega)).wp (by omega) ha ?_
    rintro _ d1 ⟨x1, rfl, h0, h1⟩
    obtain ⟨v, rfl⟩ := nat_of h0
    subst hb
    by_cases hv : v < F
    · simp [hv]
      refine (law_fall F M hF hM c).wp (by omega) ha ?_
      rintro _ d2 ⟨e1, rfl, he⟩
      simp [hlen]
      refine ⟨as ++ [(v, e1)], by simp [hl], ?_, by simp [asD]; exact ⟨_, _, rfl⟩⟩
      intro u z hx
      rcases List.mem_append.1 hx with hx | hx
      · exact has _ hx
      · simp at hx; obtain ⟨rfl, rfl⟩ := hx; exact ⟨by simp only; omega, fun _ => he, fun h => by simp only at h; omega⟩
    · simp [hv]
      refine (law_build F M (by omega) hM c).wp (by omega) ha ?_
      rintro _ d2 ⟨e1, rfl, he⟩
      simp [hlen]
      refine ⟨as ++ [(v, e1)], by simp [hl], ?_, by simp [asD]; exact ⟨_, _, rfl⟩⟩
      intro u z hx
      rcases List.mem_append.1 hx with hx | hx
      · exact has _ hx
      · simp at hx; obtain ⟨rfl, rfl⟩ := hx; exact ⟨by simp only; omega, fun h => by simp only at h; omega, fun _ => he⟩
  · rintro ρ h ⟨as, ds, y8, y9, K', hl, has, rfl, rfl⟩
    exact hq as ds y8 y9 K' (by simpa using hl) has

theorem law_program (F M size : Nat) (hF : F ≤ M) (hM1 : 1 ≤ M) (hM : M ≤ 1000) (hs : 1 ≤ size) (hs2 : size ≤ 1000) (c : Int) : Pd 9 f_law_program [.d (.i F), .d (.i M), .d (.i size), .d (.i c)] (fun r => ∃ p : Prg, r = p.d ∧ p.bl.length = size ∧ MildP F M p) := by
  refine Pd.of b_law_program rfl rfl fun j hj a H ds ha => ?_
  simp [b_law_program, inR_nat size (by omega), range_nat]
  refine wp_items (g := fun (k : Nat) => W.d (.i k)) (fun pre ρ h => ∃ (bl : List Blk) (ds : List Int) (y6 y7 y8 y9 y10 y11 : Option W) (K : LH), bl.length = pre.length ∧ (∀ b ∈ bl, MildB F M size b) ∧ ρ = [some (.l a), some (.d (.i F)), some (.d (.i M)), some (.d (.i size)), some (.d (.i c)), some (.l H.length), y6, y7, y8, y9, y10, y11] ∧ h = hp H a ds (bl.map (W.d ∘ Blk.d) :: K)) [] ⟨[], ds, none, none, none, none, none, none, [], rfl, by simp, rfl, rfl⟩ ?_ ?_
  · rintro pre k post e ρ h ⟨bl, ds, y6, y7, y8, y9, y10, y11, K, hl, hb, rfl, rfl⟩
    have hlen : bl.length < 16777216 := by
      have := congrArg List.length e
      simp at this
      omega
    have app : ∀ (as : List (Nat × Exp)) (jp : Jmp) (d : List Int) (K' : LH), as.length ≤ 3 → (∀ x ∈ as, MildAs F M x) → MildJ F M size jp → ∃ (bl' : List Blk), bl'.length = pre.length + 1 ∧ (∀ b ∈ bl', MildB F M size b) ∧ ∃ (x : List Int) (x_1 : LH), hp H a d ((List.map (W.d ∘ Blk.d) bl ++ [W.d (.t [.t (as.map asD), jp.d])]) :: K') = hp H a x (List.map (W.d ∘ Blk.d) bl' :: x_1) := by
      intro as jp d K' h1 h2 h3
      refine ⟨bl ++ [⟨as, jp⟩], by simp [hl], ?_, d, K', by simp [Blk.d]⟩
      intro b hb'
      rcases List.mem_append.1 hb' with hb' | hb'
      · exact hb b hb'
      · simp at hb'; subst hb'; exact ⟨h1, h2, h3⟩
    simp [fb, l1_law_program]
    refine (take 4 (by omega)).wp (by omega) ha ?_
    rintro _ d1 ⟨x1, rfl, h0, h1⟩
    obtain ⟨n, rfl⟩ := nat_of h0
    simp [inR_nat n (by omega), range_nat]
    refine law_assigns F M size hF hM1 hM c j (by omega) a H ha [] _ _ _ _ _ (bl.map (W.d ∘ Blk.d) :: K) (by simp) n (by omega) d1 _ _ ?_
    intro as d2 z8 z9 K' hal has
    have hal2 : as.length ≤ 16777216 := by omega
    simp
    refine (take 5 (by omega)).wp (by omega) ha ?_
    rintro _ d3 ⟨x3, rfl, h2, h3⟩
    have hget : ∀ X : LH, (K ++ List.map (W.d ∘ asD) as :: X)[K.length]? = some (as.map (W.d ∘ asD)) := fun X => by simp
    by_cases c0 : x3 = 0 ∨ size = 1
    · have goal : True := trivial
      by_cases c0a : x3 = 0
      · simp [c0a]
        refine (take M (by omega)).wp (by omega) ha ?_
        rintro _ d4 ⟨x4, rfl, h4, h5⟩
        obtain ⟨v, rfl⟩ := nat_of h4
        simp [hlen, hal2]
        exact app as (.fin (.of v)) _ _ (by omega) has ⟨v, by omega, rfl⟩
      · have c0b : size = 1 := by rcases c0 with h | h; exact absurd h c0a; exact h
        subst c0b
        simp [c0a]
        refine (take M (by omega)).wp (by omega) ha ?_
        rintro _ d4 ⟨x4, rfl, h4, h5⟩
        obtain ⟨v, rfl⟩ := nat_of h4
        simp [hlen, hal2]
        exact app as (.fin (.of v)) _ _ (by omega) has ⟨v, by omega, rfl⟩
    · have c0a : ¬ x3 = 0 := fun h => c0 (.inl h)
      have c0b : ¬ ((size : Int) = 1) := fun h => c0 (.inr (by omega))
      by_cases c1 : x3 = 1
      · subst c1
        simp [c0b]
        refine (take size (by omega)).wp (by omega) ha ?_
        rintro _ d4 ⟨x4, rfl, h4, h5⟩
        obtain ⟨v, rfl⟩ := nat_of h4
        simp [hlen, hal2]
        exact app as (.goto v) _ _ (by omega) has (show v < size by omega)
      · simp [c0a, c0b, c1]
        refine (law_fall F M hF hM c).wp (by omega) ha ?_
        rintro _ d4 ⟨e1, rfl, he⟩
        simp
        refine (take size (by omega)).wp (by omega) ha ?_
        rintro _ d5 ⟨x4, rfl, h4, h5⟩
        obtain ⟨v, rfl⟩ := nat_of h4
        simp
        refine (take size (by omega)).wp (by omega) ha ?_
        rintro _ d6 ⟨x5, rfl, h6, h7⟩
        obtain ⟨w, rfl⟩ := nat_of h6
        simp [hlen, hal2]
        exact app as (.test e1 v w) _ _ (by omega) has ⟨he, by omega, by omega⟩
  · rintro ρ h ⟨bl, ds, y6, y7, y8, y9, y10, y11, K, hl, hb, rfl, rfl⟩
    simp at hl
    have hlen : bl.length ≤ 16777216 := by omega
    simp [hlen]
    exact ⟨_, ⟨⟨M, bl⟩, rfl, hl, ⟨rfl, by simp only; omega, by simp only; rw [hl]; exact hb⟩⟩, by simp [Prg.d], _, rfl⟩
end J
set_option maxRecDepth 10000
namespace J
theorem MildAs.facts {F M : Nat} {a : Nat × Exp} (h : MildAs F M a) : (a.1 < M ∧ a.2.Ok M) ∧ dbx (dvF F) a.2 ≤ 60 ∧ db (dvF F) a.2 ≤ dvF F a.1 ∧ a.2.nest ≤ 4 := by
  obtain ⟨h1, h2, h3⟩ := h
  by_cases hv : a.1 < F
  · have q := h2 hv
    exact ⟨⟨h1, q.ok⟩, by have := q.x; omega, by unfold dvF; rw [if_pos hv]; exact q.d, by have := q.n; omega⟩
  · have q := h3 (by omega)
    exact ⟨⟨h1, q.ok⟩, by have := q.x; omega, by unfold dvF; rw [if_neg hv]; exact q.d, q.n⟩
theorem MildP.ok {F M : Nat} {p : Prg} (h : MildP F M p) (hM : M ≤ 1000) (hs : p.bl.length ≤ 1000) : p.Ok where
  ne := h.ne
  small := hs
  vars := by rw [h.many]; exact hM
  bl := fun b hb => by
    obtain ⟨h1, h2, h3⟩ := h.bl b hb
    rw [h.many]
    refine ⟨by omega, fun a ha => (h2 a ha).facts.1, ?_⟩
    cases hj : b.j with
    | goto l => rw [hj] at h3; exact h3
    | test e l m => rw [hj] at h3; exact ⟨h3.1.ok, h3.2⟩
    | fin e => rw [hj] at h3; obtain ⟨v, hv, rfl⟩ := h3; exact hv
theorem MildP.bd {F M : Nat} {p : Prg} (h : MildP F M p) : p.Bd (dvF F) 4 3 where
  lim := fun v => by have := dvF_le F v; omega
  len := fun b hb => (h.bl b hb).1
  as := fun b hb a ha => ((h.bl b hb).2.1 a ha).facts.2
  jt := fun b hb e l m hj => by
    have := (h.bl b hb).2.2
    rw [hj] at this
    have q := this.1
    exact ⟨by have := q.x; omega, by have := q.n; omega⟩
  jf := fun b hb e hj => by
    have := (h.bl b hb).2.2
    rw [hj] at this
    obtain ⟨v, hv, rfl⟩ := this
    exact ⟨by simp only [dbx]; have := dvF_le F v; omega, by simp [Exp.nest]⟩
theorem Prg.Bd.nest {p : Prg} {dv : Nat → Nat} {N A : Nat} (h : p.Bd dv N A) : ∀ b ∈ p.bl, b.Nest N := fun b hb =>
  ⟨fun a ha => (h.as b hb a ha).2.2, fun e l m hj => (h.jt b hb e l m hj).2, fun e hj => (h.jf b hb e hj).2⟩
theorem Blk.Nest.mono {b : Blk} {N K : Nat} (h : b.Nest N) (hk : N ≤ K) : b.Nest K :=
  ⟨fun a ha => Nat.le_trans (h.1 a ha) hk, fun e l m hj => Nat.le_trans (h.2.1 e l m hj) hk, fun e hj => Nat.le_trans (h.2.2 e hj) hk⟩
theorem st_ok {F : Nat} {st : List D} (h : ∀ x ∈ st, Tn 2 10 x) : StOk (dvF F) 10 st := fun v x e => (h x (List.mem_of_getElem? e)).mono (by unfold dvF; split <;> omega) (Nat.le_refl _)
end J
set_option maxRecDepth 10000
/-! Comprehensions; variables renamed. -/
namespace J
theorem comp_any {α : Type} {f : W → List W → LH → Option (List W × LH)} {g r : α → W} {h : LH} : ∀ (xs : List α) (acc : List W), (∀ x ∈ xs, ∀ acc, acc.length < 16777216 → f (g x) acc h = some (acc ++ [r x], h)) → acc.length + xs.length ≤ 16777216 → compItems f (xs.map g) acc h = some (acc ++ xs.map r, h)
  | [], acc, _, _ => by simp [compItems]
  | x :: xs, acc, hf, hl => by
    simp only [List.length_cons] at hl
    simp only [List.map_cons, compItems]
    rw [hf x List.mem_cons_self acc (by omega)]
    dsimp only
    rw [comp_any xs _ (fun y hy => hf y (List.mem_cons_of_mem _ hy)) (by simp; omega)]
    simp
theorem comp_map {α : Type} {C : Ctx} {e : E} {i : Nat} {ρ : Env} {h : LH} {g : α → W} (r : α → W) {xs : List α} (hx : ∀ x ∈ xs, ev C e (ρ.set i (some (g x))) h = some (r x, h)) (hl : xs.length ≤ 16777216) : compItems (turn (.n i) ρ (evc C none) (ev C e)) (xs.map g) [] h = some (xs.map r, h) := by
  have := comp_any (f := turn (.n i) ρ (evc C none) (ev C e)) (g := g) (r := r) (h := h) xs [] (by
    intro x hx' acc hacc
    rw [turn_n, hx x hx', bnd_some]
    simp [hacc]) (by simpa using hl)
  simpa using this
/-- with a tuple as the target -/
theorem comp_mapT {α : Type} {C : Ctx} {e : E} {is : List Nat} {ρ : Env} {h : LH} {g : α → D} (k : α → List D) (hg : ∀ x, g x = .t (k x)) (hk : ∀ x, (k x).length = is.length) (r : α → W) {xs : List α} (hx : ∀ x ∈ xs, ev C e (setMany is (k x) (wipe ρ is)) h = some (r x, h)) (hl : xs.length ≤ 16777216) : compItems (turn (.t is) ρ (evc C none) (ev C e)) (xs.map (W.d ∘ g)) [] h = some (xs.map r, h) := by
  have := comp_any (f := turn (.t is) ρ (evc C none) (ev C e)) (g := W.d ∘ g) (r := r) (h := h) xs [] (by
    intro x hx' acc hacc
    unfold turn
    simp only [Function.comp, hg x, setT_t, hk x, if_true, evc_none, slots_t, hx x hx', SZ_eq, hacc]) (by simpa using hl)
  simpa using this
def Exp.mv (f : Nat → Nat) : Exp → Exp
  | .know x => .know x
  | .of v => .of (f v)
  | .o1 o a => .o1 o (a.mv f)
  | .o2 o a b => .o2 o (a.mv f) (b.mv f)
  | .o3 o a b c => .o3 o (a.mv f) (b.mv f) (c.mv f)
@[simp] theorem mv_nest (f : Nat → Nat) : ∀ e : Exp, (e.mv f).nest = e.nest
  | .know x => rfl
  | .of v => rfl
  | .o1 o a => by simp only [Exp.mv, Exp.nest, mv_nest f a]
  | .o2 o a b => by simp only [Exp.mv, Exp.nest, mv_nest f a, mv_nest f b]
  | .o3 o a b c => by simp only [Exp.mv, Exp.nest, mv_nest f a, mv_nest f b, mv_nest f c]
theorem mv_ok {M K : Nat} {f : Nat → Nat} (hf : ∀ v, v < M → f v < K) : ∀ {e : Exp}, e.Ok M → (e.mv f).Ok K
  | .know x, h => h
  | .of v, h => hf v h
  | .o1 o a, h => mv_ok hf (e := a) h
  | .o2 o a b, h => ⟨mv_ok hf h.1, mv_ok hf h.2⟩
  | .o3 o a b c, h => ⟨mv_ok hf h.1, mv_ok hf h.2.1, mv_ok hf h.2.2⟩
theorem mv_wo {M : Nat} {f : Nat → Nat} {st st' : List D} (hf : ∀ v, v < M → at0 st' (f v) = at0 st v) : ∀ {e : Exp}, e.Ok M → wo st' (e.mv f) = wo st e
  | .know x, h => rfl
  | .of v, h => hf v h
  | .o1 o a, h => by simp only [Exp.mv, wo, mv_wo hf (e := a) h]
  | .o2 o a b, h => by simp only [Exp.mv, wo, mv_wo hf h.1, mv_wo hf h.2]
  | .o3 o a b c, h => by simp only [Exp.mv, wo, mv_wo hf h.1, mv_wo hf h.2.1, mv_wo hf h.2.2]
theorem mv_all {M : Nat} {f : Nat → Nat} {st st' : List D} (hf : ∀ v, v < M → at0 st' (f v) = at0 st v) (hl : ∀ v, v < M → f v < st'.length) : ∀ {e : Exp}, e.Ok M → AllTh st e → AllTh st' (e.mv f)
  | .know x, h, ha => ha
  | .of v, h, ha => ⟨hl v h, by have := ha.2; rw [← hf v h] at this; exact this⟩
  | .o1 o a, h, ha => ⟨mv_all hf hl (e := a) h ha.1, by have := ha.2; rw [← mv_wo hf (e := .o1 o a) h] at this; exact this⟩
  | .o2 o a b, h, ha => ⟨⟨mv_all hf hl h.1 ha.1.1, mv_all hf hl h.2 ha.1.2⟩, by have := ha.2; rw [← mv_wo hf (e := .o2 o a b) h] at this; exact this⟩
  | .o3 o a b c, h, ha => ⟨⟨mv_all hf hl h.1 ha.1.1, mv_all hf hl h.2.1 ha.1.2.1, mv_all hf hl h.2.2 ha.1.2.2⟩, by have := ha.2; rw [← mv_wo hf (e := .o3 o a b c) h] at this; exact this⟩
/-- put_in with a row of variables -/
theorem put_in {M : Nat} {f : Nat → Nat} {row : List D} (hr : ∀ v, v < M → row[v]? = some (Exp.of (f v)).d) : ∀ {e : Exp}, e.Ok M → Pu (e.nest + 1) f_put_in [.d e.d, .d (.t row)] (e.mv f).d
  | .know x, h => by
    refine pu (d := b_put_in) rfl rfl fun j hj h => ?_
    simp [b_put_in, Exp.d, Exp.mv]
  | .of v, hv => by
    refine pu (d := b_put_in) rfl rfl fun j hj h => ?_
    have e := hr v hv
    have hl : v < row.length := (List.getElem?_eq_some_iff.1 e).1
    have e2 : row[v] = (Exp.of (f v)).d := by rw [List.getElem?_eq_getElem hl] at e; exact Option.some.inj e
    simp [b_put_in, Exp.d, Exp.mv, ixN_nat _ _ hl, hl, e2]
  | .o1 o a, hv => by
    refine pu (d := b_put_in) rfl rfl fun j hj h => ?_
    have ea := put_in hr (e := a) hv j (by simp only [Exp.nest] at hj; omega) h
    cases o <;> simp [b_put_in, Exp.d, Exp.mv, compItems, ea]
  | .o2 o a b, hv => by
    refine pu (d := b_put_in) rfl rfl fun j hj h => ?_
    have ea := put_in hr (e := a) hv.1 j (by simp only [Exp.nest] at hj; omega) h
    have eb := put_in hr (e := b) hv.2 j (by simp only [Exp.nest] at hj; omega) h
    cases o <;> simp [b_put_in, Exp.d, Exp.mv, compItems, ea, eb]
  | .o3 o a b c, hv => by
    refine pu (d := b_put_in) rfl rfl fun j hj h => ?_
    have ea := put_in hr (e := a) hv.1 j (by simp only [Exp.nest] at hj; omega) h
    have eb := put_in hr (e := b) hv.2.1 j (by simp only [Exp.nest] at hj; omega) h
    have ec := put_in hr (e := c) hv.2.2 j (by simp only [Exp.nest] at hj; omega) h
    cases o <;> simp [b_put_in, Exp.d, Exp.mv, compItems, ea, eb, ec]
/-- the law's, with a row of numbers, a tuple or a live list -/
theorem law_renamed {M : Nat} {f : Nat → Nat} {w : W} {h : LH} {row : List D} (hw : items h w = some (row.map .d)) (hr : ∀ v, v < M → row[v]? = some (.i (f v))) : ∀ {e : Exp}, e.Ok M → ∀ j, e.nest + 1 ≤ j → call JP j f_law_renamed [.d e.d, w] h = some (.d (e.mv f).d, h)
  | .know x, hv => by
    refine pc (d := b_law_renamed) rfl rfl fun j hj => ?_
    simp [b_law_renamed, Exp.d, Exp.mv]
  | .of v, hv => by
    refine pc (d := b_law_renamed) rfl rfl fun j hj => ?_
    have e := hr v hv
    have hl : v < row.length := (List.getElem?_eq_some_iff.1 e).1
    have e2 : row[v] = .i (f v) := by rw [List.getElem?_eq_getElem hl] at e; exact Option.some.inj e
    simp [b_law_renamed, Exp.d, Exp.mv, hw, ixN_nat _ _ hl, hl, e2]
  | .o1 o a, hv => by
    refine pc (d := b_law_renamed) rfl rfl fun j hj => ?_
    have ea := law_renamed hw hr (e := a) hv j (by simp only [Exp.nest] at hj; omega)
    cases o <;> simp [b_law_renamed, Exp.d, Exp.mv, compItems, ea]
  | .o2 o a b, hv => by
    refine pc (d := b_law_renamed) rfl rfl fun j hj => ?_
    have ea := law_renamed hw hr (e := a) hv.1 j (by simp only [Exp.nest] at hj; omega)
    have eb := law_renamed hw hr (e := b) hv.2 j (by simp only [Exp.nest] at hj; omega)
    cases o <;> simp [b_law_renamed, Exp.d, Exp.mv, compItems, ea, eb]
  | .o3 o a b c, hv => by
    refine pc (d := b_law_renamed) rfl rfl fun j hj => ?_
    have ea := law_renamed hw hr (e := a) hv.1 j (by simp only [Exp.nest] at hj; omega)
    have eb := law_renamed hw hr (e := b) hv.2.1 j (by simp only [Exp.nest] at hj; omega)
    have ec := law_renamed hw hr (e := c) hv.2.2 j (by simp only [Exp.nest] at hj; omega)
    cases o <;> simp [b_law_renamed, Exp.d, Exp.mv, compItems, ea, eb, ec]
end J
set_option maxRecDepth 10000
/-! Divisions: what is known, right ones, the greatest one. -/
namespace J
def Exp.vars : Exp → List Nat
  | .know _ => []
  | .of v => [v]
  | .o1 _ a => a.vars
  | .o2 _ a b => a.vars ++ b.vars
  | .o3 _ a b c => a.vars ++ b.vars ++ c.vars
def kv (dv : List Bool) (v : Nat) : Bool := dv[v]?.getD false
def kn (dv : List Bool) (e : Exp) : Bool := e.vars.all (kv dv)
def bsD (dv : List Bool) : List D := dv.map .b
@[simp] theorem bsD_len (dv : List Bool) : (bsD dv).length = dv.length := by simp [bsD]
@[simp] theorem bsD_get {dv : List Bool} {v : Nat} (h : v < (bsD dv).length) : (bsD dv)[v] = .b (kv dv v) := by
  have h' : v < dv.length := by simpa using h
  simp [bsD, kv, h']
theorem vars_ok {M : Nat} : ∀ {e : Exp}, e.Ok M → ∀ v ∈ e.vars, v < M
  | .know x, h, v, hv => by simp [Exp.vars] at hv
  | .of u, h, v, hv => by simp [Exp.vars] at hv; subst hv; exact h
  | .o1 o a, h, v, hv => vars_ok (e := a) h v hv
  | .o2 o a b, h, v, hv => by
    rcases List.mem_append.1 hv with hv | hv
    · exact vars_ok h.1 v hv
    · exact vars_ok h.2 v hv
  | .o3 o a b c, h, v, hv => by
    simp only [Exp.vars, List.mem_append] at hv
    rcases hv with (hv | hv) | hv
    · exact vars_ok h.1 v hv
    · exact vars_ok h.2.1 v hv
    · exact vars_ok h.2.2 v hv
theorem vars_mv (f : Nat → Nat) : ∀ e : Exp, (e.mv f).vars = e.vars.map f
  | .know x => rfl
  | .of u => rfl
  | .o1 o a => by simp [Exp.mv, Exp.vars, vars_mv f a]
  | .o2 o a b => by simp [Exp.mv, Exp.vars, vars_mv f a, vars_mv f b]
  | .o3 o a b c => by simp [Exp.mv, Exp.vars, vars_mv f a, vars_mv f b, vars_mv f c]
theorem is_known_by {dv : List Bool} {M : Nat} (hl : dv.length = M) : ∀ (e : Exp), e.Ok M → Pu (e.nest + 1) f_is_known_by [.d (.t (bsD dv)), .d e.d] (.b (kn dv e))
  | .know x, h => by
    refine pu (d := b_is_known_by) rfl rfl fun j hj h => ?_
    have ar : call JP j f_arguments_of [.d (Exp.know x).d] h = some (.d (.t []), h) := by
      simp only [Exp.nest] at hj
      exact (pu (k := 0) (d := b_arguments_of) rfl rfl fun j hj h => by simp [b_arguments_of, Exp.d]) j (by omega) h
    simp only [Exp.d] at ar
    simp [b_is_known_by, Exp.d, ar, kn, Exp.vars, forItems]
  | .of v, hv => by
    refine pu (d := b_is_known_by) rfl rfl fun j hj h => ?_
    have hv' : v < dv.length := by rw [hl]; exact hv
    simp [b_is_known_by, Exp.d, kn, Exp.vars, ixN_nat _ _ hv', hv', -bsD_get]
    simp [bsD, kv, hv']
  | .o1 o a, hv => by
    refine pu (d := b_is_known_by) rfl rfl fun j hj h => ?_
    simp only [Exp.nest] at hj
    have ar : call JP j f_arguments_of [.d (Exp.o1 o a).d] h = some (.d (.t [a.d]), h) := by
      exact (pu (k := 0) (d := b_arguments_of) rfl rfl fun j hj h => by cases o <;> simp [b_arguments_of, Exp.d]) j (by omega) h
    have ea := is_known_by hl a hv j (by omega) h
    simp only [Exp.d] at ar
    cases hka : kn dv a <;> rw [hka] at ea <;> (have : kn dv (.o1 o a) = kn dv a := by simp [kn, Exp.vars]) <;> rw [this, hka] <;> cases o <;> simp at ar <;> simp [b_is_known_by, Exp.d, ar, ea, forItems, fb, l0_is_known_by]
  | .o2 o a b, hv => by
    refine pu (d := b_is_known_by) rfl rfl fun j hj h => ?_
    simp only [Exp.nest] at hj
    have ar : call JP j f_arguments_of [.d (Exp.o2 o a b).d] h = some (.d (.t [a.d, b.d]), h) := by
      exact (pu (k := 0) (d := b_arguments_of) rfl rfl fun j hj h => by cases o <;> simp [b_arguments_of, Exp.d]) j (by omega) h
    have ea := is_known_by hl a hv.1 j (by omega) h
    have eb := is_known_by hl b hv.2 j (by omega) h
    simp only [Exp.d] at ar
    have hk : kn dv (.o2 o a b) = (kn dv a && kn dv b) := by simp [kn, Exp.vars]
    rw [hk]
    cases hka : kn dv a <;> rw [hka] at ea <;> cases hkb : kn dv b <;> rw [hkb] at eb <;> cases o <;> simp at ar <;> simp [b_is_known_by, Exp.d, ar, ea, eb, forItems, fb, l0_is_known_by]
  | .o3 o a b c, hv => by
    refine pu (d := b_is_known_by) rfl rfl fun j hj h => ?_
    simp only [Exp.nest] at hj
    have ar : call JP j f_arguments_of [.d (Exp.o3 o a b c).d] h = some (.d (.t [a.d, b.d, c.d]), h) := by
      exact (pu (k := 0) (d := b_arguments_of) rfl rfl fun j hj h => by cases o <;> simp [b_arguments_of, Exp.d]) j (by omega) h
    have ea := is_known_by hl a hv.1 j (by omega) h
    have eb := is_known_by hl b hv.2.1 j (by omega) h
    have ec := is_known_by hl c hv.2.2 j (by omega) h
    simp only [Exp.d] at ar
    have hk : kn dv (.o3 o a b c) = (kn dv a && kn dv b && kn dv c) := by simp [kn, Exp.vars, Bool.and_assoc]
    rw [hk]
    cases hka : kn dv a <;> rw [hka] at ea <;> cases hkb : kn dv b <;> rw [hkb] at eb <;> cases hkc : kn dv c <;> rw [hkc] at ec <;> cases o <;> simp at ar <;> simp [b_is_known_by, Exp.d, ar, ea, eb, ec, forItems, fb, l0_is_known_by]
def natl (vs : List Nat) : List W := vs.map fun (v : Nat) => .d (.i v)
theorem law_variables {M : Nat} : ∀ (e : Exp), e.Ok M → ∀ j, e.nest + 1 ≤ j → e.vars.length ≤ 1000 → ∀ h, call JP j f_law_variables [.d e.d] h = some (.l h.length, h ++ [natl e.vars])
  | .know x, hv, j, hj, hl, h => by
    obtain ⟨j, rfl⟩ : ∃ i, j = i + 1 := ⟨j - 1, by omega⟩
    refine pl (d := b_law_variables) rfl rfl ?_
    simp [b_law_variables, Exp.d, Exp.vars, natl, fin]
  | .of v, hv, j, hj, hl, h => by
    obtain ⟨j, rfl⟩ : ∃ i, j = i + 1 := ⟨j - 1, by omega⟩
    refine pl (d := b_law_variables) rfl rfl ?_
    simp [b_law_variables, Exp.d, Exp.vars, natl, fin]
  | .o1 o a, hv, j, hj, hl, h => by
    obtain ⟨j, rfl⟩ : ∃ i, j = i + 1 := ⟨j - 1, by omega⟩
    simp only [Exp.nest] at hj
    simp only [Exp.vars] at hl
    refine pl (d := b_law_variables) rfl rfl ?_
    have ea := law_variables a hv j (by omega) (by omega)
    have l1 : a.vars.length ≤ 16777216 := by omega
    cases o <;> simp [b_law_variables, Exp.d, Exp.vars, forItems, fb, l0_law_variables, ea, natl, fin, l1]
  | .o2 o a b, hv, j, hj, hl, h => by
    obtain ⟨j, rfl⟩ : ∃ i, j = i + 1 := ⟨j - 1, by omega⟩
    simp only [Exp.nest] at hj
    simp only [Exp.vars, List.length_append] at hl
    refine pl (d := b_law_variables) rfl rfl ?_
    have ea := law_variables a hv.1 j (by omega) (by omega)
    have eb := law_variables b hv.2 j (by omega) (by omega)
    have l1 : a.vars.length ≤ 16777216 := by omega
    have l2 : a.vars.length + b.vars.length ≤ 16777216 := by omega
    cases o <;> simp [b_law_variables, Exp.d, Exp.vars, forItems, fb, l0_law_variables, ea, eb, natl, fin, l1, l2]
  | .o3 o a b c, hv, j, hj, hl, h => by
    obtain ⟨j, rfl⟩ : ∃ i, j = i + 1 := ⟨j - 1, by omega⟩
    simp only [Exp.nest] at hj
    simp only [Exp.vars, List.length_append] at hl
    refine pl (d := b_law_variables) rfl rfl ?_
    have ea := law_variables a hv.1 j (by omega) (by omega)
    have eb := law_variables b hv.2.1 j (by omega) (by omega)
    have ec := law_variables c hv.2.2 j (by omega) (by omega)
    have l1 : a.vars.length ≤ 16777216 := by omega
    have l2 : a.vars.length + b.vars.length ≤ 16777216 := by omega
    have l3 : a.vars.length + b.vars.length + c.vars.length ≤ 16777216 := by omega
    cases o <;> simp [b_law_variables, Exp.d, Exp.vars, forItems, fb, l0_law_variables, ea, eb, ec, natl, fin, l1, l2, l3]
end J
set_option maxRecDepth 10000
/-! Right divisions. -/
namespace J
theorem pw {f : Nat} {ws : List W} {j : Nat} {h : LH} {Q : W × LH → Prop} (d : Def) (hF : JP.F f = some d) (hl : ws.length = d.np) (w : @Wp _ (execs (cx j) d.body (ws.map some ++ List.replicate (d.ns - d.np) none) h) ⟨retQ h.length ⟨Q⟩⟩) : ∃ q, call JP (j + 1) f ws h = some q ∧ Q q := by
  rw [call_def hF hl]
  rw [← Wp_ret] at w
  exact w
abbrev Asg := Nat × Nat × Nat × Exp
def Asg.d (q : Asg) : D := .t [.i q.1, .i q.2.1, .i q.2.2.1, q.2.2.2.d]
theorem assignments_ok {p : Prg} (ok : p.Ok) (j : Nat) (hj : 1 ≤ j) (h : LH) : ∃ q, call JP j f_assignments_of [.d p.d] h = some q ∧ ∃ L : List Asg, q = (.d (.t (L.map Asg.d)), h) ∧ L.length ≤ 1000000 ∧ ∀ q ∈ L, ∃ b ∈ p.bl, (q.2.2.1, q.2.2.2) ∈ b.as := by
  obtain ⟨j, rfl⟩ : ∃ i, j = i + 1 := ⟨j - 1, by omega⟩
  refine pw b_assignments_of rfl rfl ?_
  have hs := ok.small
  simp [b_assignments_of, Prg.d, inR_nat _ (show p.bl.length ≤ 1000000 by omega), range_nat]
  refine wp_items (g := fun (k : Nat) => W.d (.i k)) (fun pre ρ H => ∃ (L : List Asg) (x2 x3 x4 : Option W), ρ = [some (.d (.t [.i p.many, .t (p.bl.map Blk.d)])), some (.l h.length), x2, x3, x4] ∧ H = h ++ [L.map (W.d ∘ Asg.d)] ∧ L.length ≤ 1000 * pre.length ∧ ∀ q ∈ L, ∃ b ∈ p.bl, (q.2.2.1, q.2.2.2) ∈ b.as) [] ⟨[], none, none, none, rfl, rfl, by simp, by simp⟩ ?_ ?_
  · rintro pre k post e ρ H ⟨L, x2, x3, x4, rfl, rfl, hL, hq⟩
    have hk : k < p.bl.length ∧ pre.length < p.bl.length := by
      constructor
      · have : k ∈ List.range p.bl.length := by rw [show List.range p.bl.length = pre ++ k :: post by simpa using e]; simp
        exact List.mem_range.1 this
      · have := congrArg List.length e
        simp at this
        omega
    obtain ⟨b, hb⟩ : ∃ b, p.bl[k]? = some b := ⟨_, List.getElem?_eq_getElem hk.1⟩
    have hb' : p.bl[k] = b := by rw [List.getElem?_eq_getElem hk.1] at hb; simpa using hb
    have hbm : b ∈ p.bl := List.mem_of_getElem? hb
    have h1000 := (ok.bl b hbm).1
    simp [fb, l1_assignments_of, ixN_nat _ _ hk.1, hk.1, hb', Blk.d, inR_nat _ (show b.as.length ≤ 1000000 by omega), range_nat]
    refine wp_items (g := fun (k : Nat) => W.d (.i k)) (fun pre' ρ H => ∃ (L : List Asg) (x4 : Option W), ρ = [some (.d (.t [.i p.many, .t (p.bl.map Blk.d)])), some (.l h.length), some (.d (.i k)), some (.d (.t (b.as.map asD))), x4] ∧ H = h ++ [L.map (W.d ∘ Asg.d)] ∧ L.length ≤ 1000 * pre.length + pre'.length ∧ ∀ q ∈ L, ∃ b ∈ p.bl, (q.2.2.1, q.2.2.2) ∈ b.as) [] ⟨L, x4, rfl, rfl, by simpa using hL, hq⟩ ?_ ?_
    · rintro pre' k' post' e' ρ H ⟨L, x4, rfl, rfl, hL, hq⟩
      have hk' : k' < b.as.length ∧ pre'.length < b.as.length := by
        constructor
        · have : k' ∈ List.range b.as.length := by rw [show List.range b.as.length = pre' ++ k' :: post' by simpa using e']; simp
          exact List.mem_range.1 this
        · have := congrArg List.length e'
          simp at this
          omega
      have hL' : L.length < 16777216 := by have := hk.2; have := hk'.2; omega
      simp [fb, l0_assignments_of, ixN_nat _ _ hk'.1, hk'.1, asD, hL']
      refine ⟨L ++ [(k, k', b.as[k'])], by simp [Asg.d], by simp; omega, ?_⟩
      rintro a1 a2 a3 a4 hx
      rcases List.mem_append.1 hx with hx | hx
      · exact hq _ hx
      · simp at hx
        obtain ⟨-, -, h3⟩ := hx
        refine ⟨b, hbm, ?_⟩
        rw [h3]
        exact List.getElem_mem _
    · rintro ρ H ⟨L, x4, rfl, rfl, hL, hq⟩
      simp at hL
      simp
      exact ⟨L, rfl, by omega, fun a b c d => hq _⟩
  · rintro ρ H ⟨L, x2, x3, x4, rfl, rfl, hL, hq⟩
    simp at hL
    have hL' : L.length ≤ 16777216 := by omega
    simp [hL']
    refine ⟨L, rfl, by omega, fun a b c d => hq _⟩
/-- a division is right: what is known is told by what is known -/
def Rt (dv : List Bool) (p : Prg) : Prop := ∀ b ∈ p.bl, ∀ a ∈ b.as, kv dv a.1 = true → kn dv a.2 = true
theorem is_right_ok {p : Prg} {dv : List Bool} {N : Nat} (ok : p.Ok) (hn : ∀ b ∈ p.bl, b.Nest N) (hl : dv.length = p.many) (hr : Rt dv p) : Pu (N + 3) f_is_right [.d p.d, .d (.t (bsD dv))] (.b true) := by
  refine pu (d := b_is_right) rfl rfl fun j hj h => ?_
  have e1 : call JP j f_mixing [.d p.d, .d (.t (bsD dv))] h = some (.d (.t []), h) := by
    obtain ⟨j, rfl⟩ : ∃ i, j = i + 1 := ⟨j - 1, by omega⟩
    have := pw (f := f_mixing) (ws := [.d p.d, .d (.t (bsD dv))]) (j := j) (h := h) (Q := fun q => q = (.d (.t []), h)) b_mixing rfl rfl (by
      obtain ⟨q, e, L, rfl, hL, hq⟩ := assignments_ok ok j (by omega) (h ++ [[]])
      simp [b_mixing, e]
      refine wp_items (g := W.d ∘ Asg.d) (fun pre ρ H => ∃ (x3 x4 x5 x6 : Option W), ρ = [some (.d p.d), some (.d (.t (bsD dv))), some (.l h.length), x3, x4, x5, x6] ∧ H = h ++ [[]]) [] ⟨none, none, none, none, rfl, rfl⟩ ?_ ?_
      · rintro pre q post e ρ H ⟨x3, x4, x5, x6, rfl, rfl⟩
        obtain ⟨b, hb, ha⟩ := hq q (by rw [show L = pre ++ q :: post by simpa using e]; simp)
        have hao := (ok.bl b hb).2.1 _ ha
        have e2 := is_known_by hl _ hao.2 j (by have := (hn b hb).1 _ ha; simp only at this ⊢; omega) (h ++ [[]])
        have hv : q.2.2.1 < dv.length := by rw [hl]; exact hao.1
        simp only at e2
        cases hk : kv dv q.2.2.1 with
        | false =>
          simp [fb, l0_mixing, Asg.d, ixN_nat _ _ hv, hv, hk]
        | true =>
          have := hr b hb _ ha hk
          simp only at this
          rw [this] at e2
          simp [fb, l0_mixing, Asg.d, ixN_nat _ _ hv, hv, hk, e2]
      · rintro ρ H ⟨x3, x4, x5, x6, rfl, rfl⟩
        simp)
    obtain ⟨q, e, rfl⟩ := this
    exact e
  simp [b_is_right, e1]
end J
set_option maxRecDepth 10000
/-! The laws' greatest right division. -/
namespace J
def up1 (dv : List Bool) (a : Nat × Exp) : List Bool := if kv dv a.1 = true ∧ kn dv a.2 = false then dv.set a.1 false else dv
def upB (dv : List Bool) (b : Blk) : List Bool := b.as.foldl up1 dv
def upP (p : Prg) (dv : List Bool) : List Bool := p.bl.foldl upB dv
def gr (p : Prg) : Nat → List Bool → List Bool
  | 0, dv => dv
  | n + 1, dv => gr p n (upP p dv)
@[simp] theorem up1_len (dv : List Bool) (a : Nat × Exp) : (up1 dv a).length = dv.length := by unfold up1; split <;> simp
theorem foldl_len {α : Type} {f : List Bool → α → List Bool} (hf : ∀ d a, (f d a).length = d.length) : ∀ (xs : List α) (d : List Bool), (xs.foldl f d).length = d.length
  | [], d => rfl
  | x :: xs, d => by rw [List.foldl_cons, foldl_len hf xs, hf]
@[simp] theorem upB_len (dv : List Bool) (b : Blk) : (upB dv b).length = dv.length := foldl_len up1_len _ _
@[simp] theorem upP_len (p : Prg) (dv : List Bool) : (upP p dv).length = dv.length := foldl_len upB_len _ _
@[simp] theorem gr_len (p : Prg) : ∀ (n : Nat) (dv : List Bool), (gr p n dv).length = dv.length
  | 0, dv => rfl
  | n + 1, dv => by rw [gr, gr_len p n]; simp
def ct (dv : List Bool) : Nat := dv.count true
theorem ct_set : ∀ (dv : List Bool) (v : Nat), kv dv v = true → ct (dv.set v false) < ct dv
  | [], v, h => by simp [kv] at h
  | b :: dv, 0, h => by
    simp [kv] at h
    subst h
    simp [ct]
  | b :: dv, v + 1, h => by
    have := ct_set dv v (by simpa [kv] using h)
    simp only [ct, List.set_cons_succ, List.count_cons] at this ⊢
    omega
def Im (dv : List Bool) (a : Nat × Exp) : Prop := kv dv a.1 = true → kn dv a.2 = true
theorem up1_or (dv : List Bool) (a : Nat × Exp) : (up1 dv a = dv ∧ Im dv a) ∨ ct (up1 dv a) < ct dv := by
  unfold up1 Im
  split
  · rename_i h
    exact .inr (ct_set _ _ h.1)
  · rename_i h
    refine .inl ⟨rfl, fun h1 => ?_⟩
    cases hk : kn dv a.2 with
    | true => rfl
    | false => exact absurd ⟨h1, hk⟩ h
theorem foldl_or {α : Type} {f : List Bool → α → List Bool} {P : List Bool → α → Prop} (hf : ∀ d a, (f d a = d ∧ P d a) ∨ ct (f d a) < ct d) : ∀ (xs : List α) (d : List Bool), (xs.foldl f d = d ∧ ∀ x ∈ xs, P d x) ∨ ct (xs.foldl f d) < ct d
  | [], d => .inl ⟨rfl, by simp⟩
  | x :: xs, d => by
    rw [List.foldl_cons]
    rcases hf d x with ⟨h1, h2⟩ | h1
    · rw [h1]
      rcases foldl_or hf xs d with ⟨h3, h4⟩ | h3
      · exact .inl ⟨h3, fun y hy => by rcases List.mem_cons.1 hy with rfl | hy; exact h2; exact h4 y hy⟩
      · exact .inr h3
    · rcases foldl_or hf xs (f d x) with ⟨h3, h4⟩ | h3
      · rw [h3]; exact .inr h1
      · exact .inr (by omega)
theorem upP_or (p : Prg) (dv : List Bool) : (upP p dv = dv ∧ Rt dv p) ∨ ct (upP p dv) < ct dv := foldl_or (f := upB) (P := fun d b => ∀ a ∈ b.as, Im d a) (fun d b => foldl_or (f := up1) (P := Im) up1_or b.as d) p.bl dv
theorem gr_rt (p : Prg) : ∀ (n : Nat) (dv : List Bool), ct dv < n → Rt (gr p n dv) p
  | 0, dv, h => by omega
  | n + 1, dv, h => by
    rw [gr]
    rcases upP_or p dv with ⟨h1, h2⟩ | h1
    · rw [h1]
      have key : ∀ m, gr p m dv = dv := by
        intro m
        induction m with
        | zero => rfl
        | succ m ih => rw [gr, h1, ih]
      rw [key]
      exact h2
    · exact gr_rt p n _ (by omega)
theorem ct_le (dv : List Bool) : ct dv ≤ dv.length := List.count_le_length
theorem foldl_at {α : Type} {f : List Bool → α → List Bool} {v : Nat} : ∀ (xs : List α) (d : List Bool), (∀ x ∈ xs, ∀ d, kv (f d x) v = kv d v) → kv (xs.foldl f d) v = kv d v
  | [], d, _ => rfl
  | x :: xs, d, h => by rw [List.foldl_cons, foldl_at xs _ (fun y hy => h y (List.mem_cons_of_mem _ hy)), h x (by simp)]
theorem gr_at {p : Prg} {v : Nat} (hno : ∀ b ∈ p.bl, ∀ a ∈ b.as, a.1 ≠ v) : ∀ (n : Nat) (dv : List Bool), kv (gr p n dv) v = kv dv v
  | 0, dv => rfl
  | n + 1, dv => by
    rw [gr, gr_at hno n]
    refine foldl_at _ _ fun b hb d => foldl_at _ _ fun a ha d => ?_
    unfold up1 kv
    split
    · rw [List.getElem?_set_ne (hno b hb a ha)]
    · rfl
theorem law_known {M : Nat} {e : Exp} (he : e.Ok M) {dv : List Bool} (hl : dv.length = M) (hv : e.vars.length ≤ 1000) {w : W} (j : Nat) (hj : e.nest + 2 ≤ j) (h : LH) (hw : items h w = some ((bsD dv).map .d)) (hw2 : ∀ k, items (h ++ k) w = items h w) : call JP j f_law_known [w, .d e.d] h = some (.d (.b (kn dv e)), h) := by
  obtain ⟨j, rfl⟩ : ∃ i, j = i + 1 := ⟨j - 1, by omega⟩
  have := pw (f := f_law_known) (ws := [w, .d e.d]) (j := j) (h := h) (Q := fun q => q = (.d (.b (kn dv e)), h)) b_law_known rfl rfl (by
    have e1 := law_variables e he j (by omega) hv h
    simp [b_law_known, e1]
    refine wp_live (g := fun (v : Nat) => W.d (.i v)) (xs := e.vars) (fun pre ρ H => ∃ x2, ρ = [some w, some (.d e.d), x2] ∧ H = h ++ [natl e.vars] ∧ pre.all (kv dv) = true) ⟨none, rfl, rfl, rfl⟩ ?_ ?_ ?_ ?_
    · rintro pre ρ H ⟨x2, rfl, rfl, -⟩
      simp [natl]
    · rintro pre v post e' ρ H ⟨x2, rfl, rfl, hp⟩
      have hvm : v < dv.length := by rw [hl]; exact vars_ok he v (by rw [e']; simp)
      have hit := hw2 [natl e.vars]
      rw [hw] at hit
      cases hk : kv dv v with
      | false =>
        have : kn dv e = false := by unfold kn; rw [e']; simp [hk]
        simp [fb, l0_law_known, hit, ixN_nat _ _ hvm, hvm, hk, this]
      | true =>
        simp [fb, l0_law_known, hit, ixN_nat _ _ hvm, hvm, hk]
        simpa using hp
    · rintro ρ H ⟨x2, rfl, rfl, hp⟩
      have : kn dv e = true := hp
      simp [this]
    · simp [natl]
      )
  obtain ⟨q, e1, rfl⟩ := this
  exact e1
theorem vars_len : ∀ e : Exp, e.vars.length ≤ 3 ^ e.nest
  | .know x => by simp [Exp.vars]
  | .of v => by simp [Exp.vars, Exp.nest]
  | .o1 o a => by
    have := vars_len a
    simp only [Exp.vars, Exp.nest, Nat.pow_succ]
    omega
  | .o2 o a b => by
    have h1 := vars_len a
    have h2 := vars_len b
    have h3 := Nat.pow_le_pow_right (show 0 < 3 by omega) (Nat.le_max_left a.nest b.nest)
    have h4 := Nat.pow_le_pow_right (show 0 < 3 by omega) (Nat.le_max_right a.nest b.nest)
    simp only [Exp.vars, Exp.nest, Nat.pow_succ, List.length_append]
    omega
  | .o3 o a b c => by
    have h1 := vars_len a
    have h2 := vars_len b
    have h0 := vars_len c
    have h3 := Nat.pow_le_pow_right (show 0 < 3 by omega) (show a.nest ≤ max a.nest (max b.nest c.nest) by omega)
    have h4 := Nat.pow_le_pow_right (show 0 < 3 by omega) (show b.nest ≤ max a.nest (max b.nest c.nest) by omega)
    have h5 := Nat.pow_le_pow_right (show 0 < 3 by omega) (show c.nest ≤ max a.nest (max b.nest c.nest) by omega)
    simp only [Exp.vars, Exp.nest, Nat.pow_succ, List.length_append]
    omega
theorem vars_1000 {e : Exp} (h : e.nest ≤ 6) : e.vars.length ≤ 1000 := by
  have := vars_len e
  have h2 := Nat.pow_le_pow_right (show 0 < 3 by omega) h
  omega
theorem gr_succ (p : Prg) : ∀ (n : Nat) (dv : List Bool), gr p (n + 1) dv = upP p (gr p n dv)
  | 0, dv => rfl
  | n + 1, dv => by rw [gr, gr_succ p n]; rfl
/-- the greatest right division within a start, by the laws -/
def grt (p : Prg) (dv : List Bool) : List Bool := gr p (dv.length + 1) dv
theorem bsD_set (dv : List Bool) (v : Nat) : ((bsD dv).map W.d).set v (.d (.b false)) = (bsD (dv.set v false)).map W.d := by simp [bsD, List.map_set]
theorem bool_b (h : LH) (b : Bool) : builtin h .bool [.d (.b b)] = some (.d (.b b), h) := rfl
theorem law_greatest {p : Prg} (ok : p.Ok) (hn : ∀ b ∈ p.bl, b.Nest 6) {dv : List Bool} (hl : dv.length = p.many) : Pu 12 f_law_greatest [.d p.d, .d (.t (bsD dv))] (.t (bsD (grt p dv))) := by
  intro j hj h
  obtain ⟨j, rfl⟩ : ∃ i, j = i + 1 := ⟨j - 1, by omega⟩
  have hv := ok.vars
  have := pw (f := f_law_greatest) (ws := [.d p.d, .d (.t (bsD dv))]) (j := j) (h := h) (Q := fun q => q = (.d (.t (bsD (grt p dv))), h)) b_law_greatest rfl rfl (by
    have e0 : ∀ ρ : Env, 6 < ρ.length → compItems (turn (.n 6) ρ (evc (cx j) none) (ev (cx j) (.bi .bool [.var 6]))) ((bsD dv).map .d) [] h = some ((bsD dv).map .d, h) := by
      intro ρ hρ
      refine comp_n (g := W.d) (fun x hx => ?_) (by simp; omega)
      simp only [bsD, List.mem_map] at hx
      obtain ⟨b, _, rfl⟩ := hx
      simp [hρ, bool_b]
    have hd1 : dv.length + 1 ≤ 1000000 := by omega
    have hR := inR_nat _ hd1
    have hr := range_nat (dv.length + 1)
    simp at hR hr
    have hdl : dv.length ≤ 16777216 := by omega
    simp [b_law_greatest, e0, hR, hr, hdl]
    refine wp_items (g := fun (k : Nat) => W.d (.i k)) (fun pre ρ H => ∃ x3 x4 x5 x6, ρ = [some (.d p.d), some (.d (.t (bsD dv))), some (.l h.length), x3, x4, x5, x6] ∧ H = h ++ [(bsD (gr p pre.length dv)).map .d]) [] ⟨none, none, none, none, rfl, rfl⟩ ?_ ?_
    · rintro pre k post e ρ H ⟨x3, x4, x5, x6, rfl, rfl⟩
      generalize hd0 : gr p pre.length dv = d0
      have hl0 : d0.length = p.many := by rw [← hd0]; simp [hl]
      have hg : gr p (pre ++ [k]).length dv = upP p d0 := by rw [← hd0, List.length_append]; exact gr_succ p _ dv
      rw [hg]
      simp [fb, l2_law_greatest, Prg.d]
      have hp : p.bl.map (W.d ∘ Blk.d) = p.bl.map (W.d ∘ Blk.d) := rfl
      refine wp_items (g := W.d ∘ Blk.d) (fun pre ρ H => ∃ x4 x5 x6, ρ = [some (.d p.d), some (.d (.t (bsD dv))), some (.l h.length), some (.d (.i k)), x4, x5, x6] ∧ H = h ++ [(bsD (pre.foldl upB d0)).map .d]) [] ⟨x4, x5, x6, rfl, rfl⟩ ?_ ?_
      · rintro pre b post e ρ H ⟨x4, x5, x6, rfl, rfl⟩
        have hb : b ∈ p.bl := by rw [show p.bl = pre ++ b :: post by simpa using e]; simp
        generalize hd1 : pre.foldl upB d0 = d1
        have hl1 : d1.length = p.many := by rw [← hd1, foldl_len upB_len]; exact hl0
        have hg1 : (pre ++ [b]).foldl upB d0 = upB d1 b := by rw [List.foldl_append, hd1]; rfl
        rw [hg1]
        simp [fb, l1_law_greatest, Blk.d]
        refine wp_items (g := W.d ∘ asD) (fun pre ρ H => ∃ x5 x6, ρ = [some (.d p.d), some (.d (.t (bsD dv))), some (.l h.length), some (.d (.i k)), some (.d b.d), x5, x6] ∧ H = h ++ [(bsD (pre.foldl up1 d1)).map .d]) [] ⟨x5, x6, rfl, rfl⟩ ?_ ?_
        · rintro pre a post e ρ H ⟨x5, x6, rfl, rfl⟩
          have ha : a ∈ b.as := by rw [show b.as = pre ++ a :: post by simpa using e]; simp
          generalize hd2 : pre.foldl up1 d1 = d2
          have hl2 : d2.length = p.many := by rw [← hd2, foldl_len up1_len]; exact hl1
          have hg2 : (pre ++ [a]).foldl up1 d1 = up1 d2 a := by rw [List.foldl_append, hd2]; rfl
          rw [hg2]
          obtain ⟨hav, hae⟩ := (ok.bl b hb).2.1 a ha
          have hne := (hn b hb).1 a ha
          have hav' : a.1 < d2.length := by omega
          have e3 := law_known hae hl2 (vars_1000 hne) (w := .l h.length) j (by omega) (h ++ [(bsD d2).map .d]) (by simp) (by simp)
          unfold up1
          cases hk : kv d2 a.1 with
          | false =>
            simp [fb, l0_law_greatest, asD, ixN_nat _ _ hav', hav', hk]
          | true =>
            cases hk2 : kn d2 a.2 with
            | true =>
              rw [hk2] at e3
              simp [fb, l0_law_greatest, asD, ixN_nat _ _ hav', hav', hk, e3]
            | false =>
              rw [hk2] at e3
              simp [fb, l0_law_greatest, asD, ixN_nat _ _ hav', hav', hk, e3, bsD_set]
        · rintro ρ H ⟨x5, x6, rfl, rfl⟩
          simp [upB]
      · rintro ρ H ⟨x4, x5, x6, rfl, rfl⟩
        simp [upP, Prg.d]
    · rintro ρ H ⟨x3, x4, x5, x6, rfl, rfl⟩
      simp [grt, hdl])
  obtain ⟨q, e1, rfl⟩ := this
  exact e1
end J
set_option maxRecDepth 10000
/-! The second machine's codes of programs. -/
namespace J
@[simp] theorem aug_d (h : LH) (x : D) (y : W) : augop h .add (.d x) y = binop h .add (.d x) y := (rfl)
@[simp] theorem aug_l (h : LH) (a c : Nat) : augop h .add (.l a) (.l c) = (h[a]?).bind fun ws => (h[c]?).bind fun us => if okAll a us ∧ ws.length + us.length ≤ SZ then some (.l a, h.set a (ws ++ us)) else none := by
  unfold augop; dsimp only; cases h[a]? <;> cases h[c]? <;> rfl
inductive Ins where
  | push (x : D)
  | load (v : Nat)
  | keep (v : Nat)
  | d1 (o : O1)
  | d2 (o : O2)
  | d3 (o : O3)
  | jump (l : Nat)
  | unl (l : Nat)
  | halt
def Ins.d : Ins → D
  | .push x => .t [.s "push", x]
  | .load v => .t [.s "load", .i v]
  | .keep v => .t [.s "keep", .i v]
  | .d1 o => .t [.s "do", .s o.nm]
  | .d2 o => .t [.s "do", .s o.nm]
  | .d3 o => .t [.s "do", .s o.nm]
  | .jump l => .t [.s "jump", .i l]
  | .unl l => .t [.s "unless", .i l]
  | .halt => .t [.s "halt"]
def cD (c : List Ins) : List D := c.map Ins.d
@[simp] theorem cD_len (c : List Ins) : (cD c).length = c.length := by simp [cD]
def code : Exp → List Ins
  | .know x => [.push x]
  | .of v => [.load v]
  | .o1 o a => code a ++ [.d1 o]
  | .o2 o a b => code a ++ (code b ++ [.d2 o])
  | .o3 o a b c => code a ++ (code b ++ (code c ++ [.d3 o]))
theorem code_len : ∀ e : Exp, 2 * (code e).length + 1 ≤ 3 ^ (e.nest + 1)
  | .know x => by simp [code, Exp.nest]
  | .of v => by simp [code, Exp.nest]
  | .o1 o a => by
    have := code_len a
    simp only [code, Exp.nest, List.length_append, List.length_singleton, Nat.pow_succ] at this ⊢
    omega
  | .o2 o a b => by
    have h1 := code_len a
    have h2 := code_len b
    have h3 := Nat.pow_le_pow_right (show 0 < 3 by omega) (show a.nest + 1 ≤ max a.nest b.nest + 1 by omega)
    have h4 := Nat.pow_le_pow_right (show 0 < 3 by omega) (show b.nest + 1 ≤ max a.nest b.nest + 1 by omega)
    simp only [code, Exp.nest, List.length_append, List.length_singleton]
    rw [Nat.pow_succ]
    omega
  | .o3 o a b c => by
    have h1 := code_len a
    have h2 := code_len b
    have h0 := code_len c
    have h3 := Nat.pow_le_pow_right (show 0 < 3 by omega) (show a.nest + 1 ≤ max a.nest (max b.nest c.nest) + 1 by omega)
    have h4 := Nat.pow_le_pow_right (show 0 < 3 by omega) (show b.nest + 1 ≤ max a.nest (max b.nest c.nest) + 1 by omega)
    have h5 := Nat.pow_le_pow_right (show 0 < 3 by omega) (show c.nest + 1 ≤ max a.nest (max b.nest c.nest) + 1 by omega)
    simp only [code, Exp.nest, List.length_append, List.length_singleton]
    rw [Nat.pow_succ]
    omega
theorem code_364 {e : Exp} (h : e.nest ≤ 5) : (code e).length ≤ 364 := by
  have := code_len e
  have h2 := Nat.pow_le_pow_right (show 0 < 3 by omega) (show e.nest + 1 ≤ 6 by omega)
  omega
theorem code_pos (e : Exp) : 1 ≤ (code e).length := by cases e <;> simp [code] <;> omega
theorem code_ok : ∀ (e : Exp), (code e).length ≤ 10000 → Pu (e.nest + 1) f_code_of [.d e.d] (.t (cD (code e)))
  | .know x, hl => by
    refine pu (d := b_code_of) rfl rfl fun j hj h => ?_
    simp [b_code_of, Exp.d, code, cD, Ins.d]
  | .of v, hl => by
    refine pu (d := b_code_of) rfl rfl fun j hj h => ?_
    simp [b_code_of, Exp.d, code, cD, Ins.d]
  | .o1 o a, hl => by
    refine pu (d := b_code_of) rfl rfl fun j hj h => ?_
    simp only [Exp.nest] at hj
    simp only [code, List.length_append, List.length_singleton] at hl
    have ar : call JP j f_arguments_of [.d (Exp.o1 o a).d] h = some (.d (.t [a.d]), h) := by
      exact (pu (k := 0) (d := b_arguments_of) rfl rfl fun j hj h => by cases o <;> simp [b_arguments_of, Exp.d]) j (by omega) h
    have ea := code_ok a (by omega) j (by omega) h
    simp only [Exp.d] at ar
    have l1 : (code a).length ≤ 16777216 := by omega
    have l2 : (code a).length + 1 ≤ 16777216 := by omega
    cases o <;> simp at ar <;> simp -implicitDefEqProofs [b_code_of, Exp.d, ar, ea, forItems, fb, l0_code_of, code, cD, Ins.d, l1, l2]
  | .o2 o a b, hl => by
    refine pu (d := b_code_of) rfl rfl fun j hj h => ?_
    simp only [Exp.nest] at hj
    simp only [code, List.length_append, List.length_singleton] at hl
    have ar : call JP j f_arguments_of [.d (Exp.o2 o a b).d] h = some (.d (.t [a.d, b.d]), h) := by
      exact (pu (k := 0) (d := b_arguments_of) rfl rfl fun j hj h => by cases o <;> simp [b_arguments_of, Exp.d]) j (by omega) h
    have ea := code_ok a (by omega) j (by omega) h
    have eb := code_ok b (by omega) j (by omega) h
    simp only [Exp.d] at ar
    have l1 : (code a).length ≤ 16777216 := by omega
    have l2 : (code a).length + (code b).length ≤ 16777216 := by omega
    have l3 : (code a).length + (code b).length + 1 ≤ 16777216 := by omega
    cases o <;> simp at ar <;> simp -implicitDefEqProofs [b_code_of, Exp.d, ar, ea, eb, forItems, fb, l0_code_of, code, cD, Ins.d, l1, l2, l3]
  | .o3 o a b c, hl => by
    refine pu (d := b_code_of) rfl rfl fun j hj h => ?_
    simp only [Exp.nest] at hj
    simp only [code, List.length_append, List.length_singleton] at hl
    have ar : call JP j f_arguments_of [.d (Exp.o3 o a b c).d] h = some (.d (.t [a.d, b.d, c.d]), h) := by
      exact (pu (k := 0) (d := b_arguments_of) rfl rfl fun j hj h => by cases o <;> simp [b_arguments_of, Exp.d]) j (by omega) h
    have ea := code_ok a (by omega) j (by omega) h
    have eb := code_ok b (by omega) j (by omega) h
    have ec := code_ok c (by omega) j (by omega) h
    simp only [Exp.d] at ar
    have l1 : (code a).length ≤ 16777216 := by omega
    have l2 : (code a).length + (code b).length ≤ 16777216 := by omega
    have l3 : (code a).length + ((code b).length + (code c).length) ≤ 16777216 := by omega
    have l4 : (code a).length + ((code b).length + (code c).length) + 1 ≤ 16777216 := by omega
    have l5 : (code a).length + (code b).length + (code c).length ≤ 16777216 := by omega
    cases o <;> simp at ar <;> simp -implicitDefEqProofs [b_code_of, Exp.d, ar, ea, eb, ec, forItems, fb, l0_code_of, code, cD, Ins.d, l1, l2, l3, l4, l5]
theorem law_code_ok : ∀ (e : Exp), (code e).length ≤ 10000 → ∀ j, e.nest + 1 ≤ j → ∀ h, call JP j f_law_code_of [.d e.d] h = some (.l h.length, h ++ [(cD (code e)).map .d])
  | .know x, hl, j, hj, h => by
    obtain ⟨j, rfl⟩ : ∃ i, j = i + 1 := ⟨j - 1, by omega⟩
    refine pl (d := b_law_code_of) rfl rfl ?_
    simp [b_law_code_of, Exp.d, code, cD, Ins.d, fin]
  | .of v, hl, j, hj, h => by
    obtain ⟨j, rfl⟩ : ∃ i, j = i + 1 := ⟨j - 1, by omega⟩
    refine pl (d := b_law_code_of) rfl rfl ?_
    simp [b_law_code_of, Exp.d, code, cD, Ins.d, fin]
  | .o1 o a, hl, j, hj, h => by
    obtain ⟨j, rfl⟩ : ∃ i, j = i + 1 := ⟨j - 1, by omega⟩
    simp only [Exp.nest] at hj
    simp only [code, List.length_append, List.length_singleton] at hl
    refine pl (d := b_law_code_of) rfl rfl ?_
    have ea := law_code_ok a (by omega) j (by omega)
    have l1 : (code a).length ≤ 16777216 := by omega
    have l2 : (code a).length + 1 ≤ 16777216 := by omega
    have l3 : (code a).length ≤ 16777215 := by omega
    cases o <;> simp [b_law_code_of, Exp.d, code, forItems, fb, l0_law_code_of, ea, cD, Ins.d, fin, l1, l2, l3]
  | .o2 o a b, hl, j, hj, h => by
    obtain ⟨j, rfl⟩ : ∃ i, j = i + 1 := ⟨j - 1, by omega⟩
    simp only [Exp.nest] at hj
    simp only [code, List.length_append, List.length_singleton] at hl
    refine pl (d := b_law_code_of) rfl rfl ?_
    have ea := law_code_ok a (by omega) j (by omega)
    have eb := law_code_ok b (by omega) j (by omega)
    have l1 : (code a).length ≤ 16777216 := by omega
    have l2 : (code a).length + (code b).length ≤ 16777216 := by omega
    have l3 : (code a).length + (code b).length + 1 ≤ 16777216 := by omega
    have l4 : (code a).length + (code b).length ≤ 16777215 := by omega
    cases o <;> simp [b_law_code_of, Exp.d, code, forItems, fb, l0_law_code_of, ea, eb, cD, Ins.d, fin, l1, l2, l3, l4]
  | .o3 o a b c, hl, j, hj, h => by
    obtain ⟨j, rfl⟩ : ∃ i, j = i + 1 := ⟨j - 1, by omega⟩
    simp only [Exp.nest] at hj
    simp only [code, List.length_append, List.length_singleton] at hl
    refine pl (d := b_law_code_of) rfl rfl ?_
    have ea := law_code_ok a (by omega) j (by omega)
    have eb := law_code_ok b (by omega) j (by omega)
    have ec := law_code_ok c (by omega) j (by omega)
    have l1 : (code a).length ≤ 16777216 := by omega
    have l2 : (code a).length + (code b).length ≤ 16777216 := by omega
    have l3 : (code a).length + (code b).length + (code c).length ≤ 16777216 := by omega
    have l4 : (code a).length + (code b).length + (code c).length + 1 ≤ 16777216 := by omega
    have l5 : (code a).length + ((code b).length + (code c).length) ≤ 16777215 := by omega
    have l6 : (code a).length + ((code b).length + (code c).length) ≤ 16777216 := by omega
    have l7 : (code a).length + (code b).length + (code c).length ≤ 16777215 := by omega
    cases o <;> simp [b_law_code_of, Exp.d, code, forItems, fb, l0_law_code_of, ea, eb, ec, cD, Ins.d, fin, l1, l2, l3, l4, l5, l6, l7]
end J
set_option maxRecDepth 10000
namespace J
def asC (as : List (Nat × Exp)) : List Ins := as.flatMap fun a => code a.2 ++ [.keep a.1]
def toC (fo : Option Nat) (ad : Nat → Nat) (l : Nat) : List Ins := if fo = some l then [] else [.jump (ad l)]
def jC (fo : Option Nat) (ad : Nat → Nat) : Jmp → List Ins
  | .goto l => toC fo ad l
  | .test e l m => code e ++ ([.unl (ad m)] ++ toC fo ad l)
  | .fin e => code e ++ [.halt]
def bC (fo : Option Nat) (ad : Nat → Nat) (b : Blk) : List Ins := asC b.as ++ jC fo ad b.j
theorem asC_app (as : List (Nat × Exp)) (a : Nat × Exp) : asC (as ++ [a]) = asC as ++ (code a.2 ++ [.keep a.1]) := by simp [asC]
theorem asC_len : ∀ (as : List (Nat × Exp)), (∀ a ∈ as, a.2.nest ≤ 5) → (asC as).length ≤ 365 * as.length
  | [], _ => by simp [asC]
  | a :: r, h => by
    have h1 := code_364 (h a (by simp))
    have h2 := asC_len r fun x hx => h x (List.mem_cons_of_mem _ hx)
    simp only [asC, List.flatMap_cons, List.length_append, List.length_singleton, List.length_cons, List.length_nil] at h2 ⊢
    omega
theorem toC_len (fo : Option Nat) (ad : Nat → Nat) (l : Nat) : (toC fo ad l).length ≤ 1 := by unfold toC; split <;> simp
/-- blocks of few, not too deep expressions -/
def Few (b : Blk) : Prop := b.as.length ≤ 10 ∧ b.Nest 5
theorem jC_len {b : Blk} (hb : Few b) (fo : Option Nat) (ad : Nat → Nat) : (jC fo ad b.j).length ≤ 366 := by
  cases hj : b.j with
  | goto l => have := toC_len fo ad l; simp only [jC]; omega
  | test e l m =>
    have h1 := toC_len fo ad l
    have h2 := code_364 (hb.2.2.1 e l m hj)
    simp only [jC, List.length_append, List.length_singleton]; omega
  | fin e =>
    have h2 := code_364 (hb.2.2.2 e hj)
    simp only [jC, List.length_append, List.length_singleton]; omega
theorem bC_len {b : Blk} (hb : Few b) (fo : Option Nat) (ad : Nat → Nat) : (bC fo ad b).length ≤ 4016 := by
  have h1 := asC_len b.as hb.2.1
  have h2 := jC_len hb fo ad
  have := hb.1
  simp only [bC, List.length_append]
  omega
theorem bC_pos (b : Blk) (ad : Nat → Nat) : 1 ≤ (bC none ad b).length := by
  unfold bC
  cases b.j with
  | goto l => simp [jC, toC]
  | test e l m => simp [jC, toC]; omega
  | fin e => simp [jC]; omega
theorem toC_n (fo : Option Nat) (ad ad' : Nat → Nat) (l : Nat) : (toC fo ad l).length = (toC fo ad' l).length := by unfold toC; split <;> rfl
theorem bC_n (fo : Option Nat) (ad ad' : Nat → Nat) (b : Blk) : (bC fo ad b).length = (bC fo ad' b).length := by
  unfold bC
  cases b.j with
  | goto l => simp [jC, toC_n fo ad ad' l]
  | test e l m => simp [jC, toC_n fo ad ad' l]
  | fin e => simp [jC]
theorem cD_app (a b : List Ins) : cD (a ++ b) = cD a ++ cD b := by simp [cD]
theorem assigns_ok {as : List (Nat × Exp)} (ha : ∀ a ∈ as, a.2.nest ≤ 5) (hl : as.length ≤ 1000) : Pu 8 f_assigns_code [.d (.t (as.map asD))] (.t (cD (asC as))) := by
  intro j hj h
  obtain ⟨j, rfl⟩ : ∃ i, j = i + 1 := ⟨j - 1, by omega⟩
  have := pw (f := f_assigns_code) (ws := [.d (.t (as.map asD))]) (j := j) (h := h) (Q := fun q => q = (.d (.t (cD (asC as))), h)) b_assigns_code rfl rfl (by
    simp [b_assigns_code]
    refine wp_items (g := W.d ∘ asD) (fun pre ρ H => ∃ x2 x3, ρ = [some (.d (.t (as.map asD))), some (.d (.t (cD (asC pre)))), x2, x3] ∧ H = h) [] ⟨none, none, rfl, rfl⟩ ?_ ?_
    · rintro pre a post e ρ H ⟨x2, x3, rfl, rfl⟩
      have e' : as = pre ++ a :: post := by simpa using e
      have hn := ha a (by rw [e']; simp)
      have hc := code_364 hn
      have e1 := code_ok a.2 (by omega) j (by omega) H
      have hp := asC_len pre fun x hx => ha x (by rw [e']; simp [hx])
      have hpl : pre.length < as.length := by rw [e']; simp
      have l1 : (code a.2).length + 1 ≤ 16777216 := by omega
      have l2 : (asC pre).length + ((code a.2).length + 1) ≤ 16777216 := by omega
      simp -implicitDefEqProofs [fb, l0_assigns_code, asD, e1, l1, l2]
      simp [asC_app, cD_app]
      simp [cD, Ins.d]
    · rintro ρ H ⟨x2, x3, rfl, rfl⟩
      simp)
  obtain ⟨q, e1, rfl⟩ := this
  exact e1
@[simp] theorem eqv_in (l : Int) : eqv (.i l) .none = false := by unfold eqv; rfl
def foP : Option Nat → D
  | none => .none
  | some l => .i l
def adr (adl : List Nat) (l : Nat) : Nat := adl[l]?.getD 0
@[simp] theorem natl_len (vs : List Nat) : (natl vs).length = vs.length := by simp [natl]
theorem natl_get {vs : List Nat} {v : Nat} (h : v < vs.length) : (natl vs)[v]? = some (.d (.i (adr vs v))) := by simp [natl, adr, h]
theorem jump_to_ok {fo : Option Nat} {adl : List Nat} {l : Nat} (hl : l < adl.length) {w : W} {h : LH} (hw : items h w = some (natl adl)) : ∀ j, 1 ≤ j → call JP j f_jump_to [.d (.i l), .d (foP fo), w] h = some (.d (.t (cD (toC fo (adr adl) l))), h) := by
  refine pc (d := b_jump_to) rfl rfl fun j hj => ?_
  cases fo with
  | none => simp [b_jump_to, foP, toC, hw, ixN_nat _ _ hl, natl_get hl, cD, Ins.d]
  | some m =>
    by_cases hm : m = l
    · subst hm
      simp [b_jump_to, foP, toC, cD]
    · have hm' : ¬ ((l : Int) = m) := by omega
      simp [b_jump_to, foP, toC, hw, ixN_nat _ _ hl, natl_get hl, cD, Ins.d, hm, hm']
theorem jump_code_ok {fo : Option Nat} {adl : List Nat} {b : Blk} {M size : Nat} (hb : Few b) (ho : b.j.Ok M size) (hl : size ≤ adl.length) {w : W} {h : LH} (hw : items h w = some (natl adl)) : ∀ j, 8 ≤ j → call JP j f_jump_code_v1 [.d b.j.d, .d (foP fo), w] h = some (.d (.t (cD (jC fo (adr adl) b.j))), h) := by
  refine pc (d := b_jump_code_v1) rfl rfl fun j hj => ?_
  cases hj2 : b.j with
  | goto l =>
    rw [hj2] at ho
    have hl1 : l < adl.length := by have : l < size := ho; omega
    have e1 := jump_to_ok (fo := fo) hl1 hw j (by omega)
    simp [b_jump_code_v1, Jmp.d, e1, jC]
  | test e l m =>
    rw [hj2] at ho
    have hl1 : l < adl.length := by have := ho.2.1; omega
    have hl2 : m < adl.length := by have := ho.2.2; omega
    have e1 := jump_to_ok (fo := fo) hl1 hw j (by omega)
    have hn := hb.2.2.1 e l m hj2
    have hc := code_364 hn
    have e2 := code_ok e (by omega) j (by omega) h
    have ht := toC_len fo (adr adl) l
    have l1 : (code e).length + 1 ≤ 16777216 := by omega
    have l2 : (code e).length + 1 + (toC fo (adr adl) l).length ≤ 16777216 := by omega
    have l3 : (code e).length + (1 + (toC fo (adr adl) l).length) ≤ 16777216 := by omega
    have l4 : (code e).length + ((toC fo (adr adl) l).length + 1) ≤ 16777216 := by omega
    simp -implicitDefEqProofs [b_jump_code_v1, Jmp.d, e1, e2, jC, hw, ixN_nat _ _ hl2, natl_get hl2, l1, l2, l3, l4, cD_app]
    simp [cD, Ins.d]
  | fin e =>
    have hn := hb.2.2.2 e hj2
    have hc := code_364 hn
    have e2 := code_ok e (by omega) j (by omega) h
    have l1 : (code e).length + 1 ≤ 16777216 := by omega
    simp -implicitDefEqProofs [b_jump_code_v1, Jmp.d, e2, jC, l1, cD_app]
    simp [cD, Ins.d]
theorem block_code_ok {fo : Option Nat} {adl : List Nat} {b : Blk} {M size : Nat} (hb : Few b) (ho : b.j.Ok M size) (hl : size ≤ adl.length) {w : W} {h : LH} (hw : items h w = some (natl adl)) : ∀ j, 9 ≤ j → call JP j f_code_of_block [.d b.d, .d (foP fo), w] h = some (.d (.t (cD (bC fo (adr adl) b))), h) := by
  refine pc (d := b_code_of_block) rfl rfl fun j hj => ?_
  have e1 := jump_code_ok (fo := fo) hb ho hl hw j (by omega)
  have e2 := assigns_ok hb.2.1 (by have := hb.1; omega) j (by omega) h
  have h1 := asC_len b.as hb.2.1
  have h2 := jC_len hb fo (adr adl)
  have := hb.1
  have l1 : (asC b.as).length + (jC fo (adr adl) b.j).length ≤ 16777216 := by omega
  simp -implicitDefEqProofs [b_code_of_block, Blk.d, e1, e2, bC, cD_app, l1]
end J
set_option maxRecDepth 10000
namespace J
def natD (vs : List Nat) : List D := vs.map fun (v : Nat) => D.i v
@[simp] theorem natD_len (vs : List Nat) : (natD vs).length = vs.length := by simp [natD]
theorem natl_eq (vs : List Nat) : natl vs = (natD vs).map W.d := by simp [natl, natD]
theorem natl_d (vs : List Nat) : (natD vs).map W.d = vs.map fun (k : Nat) => W.d (.i k) := by simp [natD]
def lenB (p : Prg) (fo : Nat → Option Nat) (b : Nat) : Nat := match p.bl[b]? with
  | some bl => (bC (fo b) (fun _ => 0) bl).length
  | none => 0
def adS (p : Prg) (fo : Nat → Option Nat) (order : List Nat) : List Nat × Nat := order.foldl (fun q b => (q.1.set b q.2, q.2 + lenB p fo b)) (List.replicate p.bl.length 0, 0)
def adP (p : Prg) (fo : Nat → Option Nat) (order : List Nat) : List Nat := (adS p fo order).1
def blC (p : Prg) (fo : Nat → Option Nat) (ad : Nat → Nat) (b : Nat) : List Ins := match p.bl[b]? with
  | some bl => bC (fo b) ad bl
  | none => []
def codeP (p : Prg) (fo : Nat → Option Nat) (order : List Nat) : List Ins := order.flatMap (blC p fo (adr (adP p fo order)))
theorem adS_app (p : Prg) (fo : Nat → Option Nat) (order : List Nat) (b : Nat) : adS p fo (order ++ [b]) = ((adS p fo order).1.set b (adS p fo order).2, (adS p fo order).2 + lenB p fo b) := by simp [adS]
theorem adS_len (p : Prg) (fo : Nat → Option Nat) (order : List Nat) : (adS p fo order).1.length = p.bl.length := by
  unfold adS
  suffices h : ∀ (o : List Nat) (q : List Nat × Nat), (o.foldl (fun q b => (q.1.set b q.2, q.2 + lenB p fo b)) q).1.length = q.1.length by rw [h]; simp
  intro o
  induction o with
  | nil => intro q; rfl
  | cons b r ih => intro q; rw [List.foldl_cons, ih]; simp
structure Lo (p : Prg) (fo : Nat → Option Nat) (order : List Nat) : Prop where
  ok : p.Ok
  few : ∀ b ∈ p.bl, Few b
  small : p.bl.length ≤ 100
  lt : ∀ b ∈ order, b < p.bl.length
  len : order.length ≤ 100
theorem lenB_le {p : Prg} {fo : Nat → Option Nat} (few : ∀ b ∈ p.bl, Few b) (b : Nat) : lenB p fo b ≤ 4016 := by
  unfold lenB
  split
  · rename_i bl e; exact bC_len (few bl (List.mem_of_getElem? e)) _ _
  · omega
theorem adS_le {p : Prg} {fo : Nat → Option Nat} (few : ∀ b ∈ p.bl, Few b) (order : List Nat) : (adS p fo order).2 ≤ 4016 * order.length := by
  unfold adS
  suffices h : ∀ (o : List Nat) (q : List Nat × Nat), (o.foldl (fun q b => (q.1.set b q.2, q.2 + lenB p fo b)) q).2 ≤ q.2 + 4016 * o.length by
    have := h order (List.replicate p.bl.length 0, 0); simp at this; simpa using this
  intro o
  induction o with
  | nil => intro q; simp
  | cons b r ih =>
    intro q
    rw [List.foldl_cons]
    have := ih (q.1.set b q.2, q.2 + lenB p fo b)
    have := lenB_le (fo := fo) few b
    simp only [List.length_cons] at *
    omega
theorem natl_set (vs : List Nat) (k v : Nat) : (natl vs).set k (.d (.i v)) = natl (vs.set k v) := by simp [natl, List.map_set]
theorem zeros (p : Prg) : (p.bl.map fun _ => W.d (.i 0)) = natl (List.replicate p.bl.length 0) := by
  simp [natl, List.map_const']
theorem addresses_ok {p : Prg} {fo : Nat → Option Nat} {order : List Nat} (lo : Lo p fo order) {fl : List D} (hfl : ∀ b, b < p.bl.length → fl[b]? = some (foP (fo b))) : Pu 11 f_addresses_in [.d p.d, .d (.t (natD order)), .d (.t fl)] (.t (natD (adP p fo order))) := by
  intro j hj h
  obtain ⟨j, rfl⟩ : ∃ i, j = i + 1 := ⟨j - 1, by omega⟩
  have hs := lo.small
  have := pw (f := f_addresses_in) (ws := [.d p.d, .d (.t (natD order)), .d (.t fl)]) (j := j) (h := h) (Q := fun q => q = (.d (.t (natD (adP p fo order))), h)) b_addresses_in rfl rfl (by
    have e0 := comp_map (C := cx j) (e := .c (.i 0)) (i := 6) (ρ := [some (.d p.d), some (.d (.t (natD order))), some (.d (.t fl)), none, none, none, none]) (h := h) (g := W.d ∘ Blk.d) (fun _ => .d (.i 0)) (xs := p.bl) (by intro x hx; simp) (by omega)
    rw [zeros] at e0
    simp only [Prg.d] at e0
    simp [b_addresses_in, Prg.d, e0]
    rw [natl_d]
    refine wp_items (g := fun (k : Nat) => W.d (.i k)) (fun pre ρ H => ∃ x5 x6, ρ = [some (.d p.d), some (.d (.t (natD order))), some (.d (.t fl)), some (.l h.length), some (.d (.i (adS p fo pre).2)), x5, x6] ∧ H = h ++ [natl (adS p fo pre).1]) (xs := order) [] ?_ ?_ ?_
    · exact ⟨none, none, by simp [adS, Prg.d], by simp [adS]⟩
    · rintro pre b post e ρ H ⟨x5, x6, rfl, rfl⟩
      have e' : order = pre ++ b :: post := by simpa using e
      have hb : b < p.bl.length := lo.lt b (by rw [e']; simp)
      have hbb : b < (adS p fo pre).1.length := by rw [adS_len]; exact hb
      have hfb := hfl b hb
      have hfb2 : b < fl.length := (List.getElem?_eq_some_iff.1 hfb).1
      have hfb3 : fl[b] = foP (fo b) := by rw [List.getElem?_eq_getElem hfb2] at hfb; simpa using hfb
      obtain ⟨bl, hbl⟩ : ∃ bl, p.bl[b]? = some bl := ⟨_, List.getElem?_eq_getElem hb⟩
      have hbl' : p.bl[b] = bl := by rw [List.getElem?_eq_getElem hb] at hbl; simpa using hbl
      have hm := List.mem_of_getElem? hbl
      have e1 := block_code_ok (fo := fo b) (adl := (adS p fo pre).1.set b (adS p fo pre).2) (lo.few bl hm) (lo.ok.bl bl hm).2.2 (by simp [adS_len]) (w := .l h.length) (h := h ++ [natl ((adS p fo pre).1.set b (adS p fo pre).2)]) (by simp) j (by omega)
      have hlb : lenB p fo b = (bC (fo b) (adr ((adS p fo pre).1.set b (adS p fo pre).2)) bl).length := by
        unfold lenB; rw [hbl]; exact bC_n _ _ _ _
      simp [fb, l0_addresses_in, ixN_nat _ _ hbb, hbb, ixN_nat _ _ hb, hb, hbl', ixN_nat _ _ hfb2, hfb2, hfb3, Prg.d, natl_set, e1, adS_app, hlb]
    · rintro ρ H ⟨x5, x6, rfl, rfl⟩
      have hl : (adS p fo order).1.length ≤ 16777216 := by rw [adS_len]; omega
      simp [adP, natl_eq, hl])
  obtain ⟨q, e1, rfl⟩ := this
  exact e1
theorem code_in_len {p : Prg} {fo : Nat → Option Nat} (few : ∀ b ∈ p.bl, Few b) (ad : Nat → Nat) : ∀ o : List Nat, (o.flatMap (blC p fo ad)).length ≤ 4016 * o.length
  | [] => by simp
  | b :: r => by
    have := code_in_len (fo := fo) few ad r
    have h1 : (blC p fo ad b).length ≤ 4016 := by
      unfold blC
      split
      · rename_i bl e; exact bC_len (few bl (List.mem_of_getElem? e)) _ _
      · simp
    simp only [List.flatMap_cons, List.length_append, List.length_cons]
    omega
theorem code_in_ok {p : Prg} {fo : Nat → Option Nat} {order : List Nat} (lo : Lo p fo order) {fl : List D} (hfl : ∀ b, b < p.bl.length → fl[b]? = some (foP (fo b))) : Pu 12 f_code_in [.d p.d, .d (.t (natD order)), .d (.t fl)] (.t (cD (codeP p fo order))) := by
  intro j hj h
  obtain ⟨j, rfl⟩ : ∃ i, j = i + 1 := ⟨j - 1, by omega⟩
  have hs := lo.small
  have e0 := addresses_ok lo hfl j (by omega) h
  have := pw (f := f_code_in) (ws := [.d p.d, .d (.t (natD order)), .d (.t fl)]) (j := j) (h := h) (Q := fun q => q = (.d (.t (cD (codeP p fo order))), h)) b_code_in rfl rfl (by
    simp [b_code_in, e0]
    rw [natl_d]
    refine wp_items (g := fun (k : Nat) => W.d (.i k)) (fun pre ρ H => ∃ x5, ρ = [some (.d p.d), some (.d (.t (natD order))), some (.d (.t fl)), some (.d (.t (natD (adP p fo order)))), some (.d (.t (cD (pre.flatMap (blC p fo (adr (adP p fo order))))))), x5] ∧ H = h) (xs := order) [] ?_ ?_ ?_
    · exact ⟨none, by simp [cD], rfl⟩
    · rintro pre b post e ρ H ⟨x5, rfl, rfl⟩
      have e' : order = pre ++ b :: post := by simpa using e
      have hb : b < p.bl.length := lo.lt b (by rw [e']; simp)
      have hfb := hfl b hb
      have hfb2 : b < fl.length := (List.getElem?_eq_some_iff.1 hfb).1
      have hfb3 : fl[b] = foP (fo b) := by rw [List.getElem?_eq_getElem hfb2] at hfb; simpa using hfb
      obtain ⟨bl, hbl⟩ : ∃ bl, p.bl[b]? = some bl := ⟨_, List.getElem?_eq_getElem hb⟩
      have hbl' : p.bl[b] = bl := by rw [List.getElem?_eq_getElem hb] at hbl; simpa using hbl
      have hm := List.mem_of_getElem? hbl
      have e1 := block_code_ok (fo := fo b) (adl := adP p fo order) (lo.few bl hm) (lo.ok.bl bl hm).2.2 (by simp [adP, adS_len]) (w := .d (.t (natD (adP p fo order)))) (h := H) (by simp [natl_eq]) j (by omega)
      have l0 := code_in_len (fo := fo) lo.few (adr (adP p fo order)) pre
      have hpl : pre.length < order.length := by rw [e']; simp
      have := lo.len
      have l1 := bC_len (lo.few bl hm) (fo b) (adr (adP p fo order))
      have l2 : (pre.flatMap (blC p fo (adr (adP p fo order)))).length + (bC (fo b) (adr (adP p fo order)) bl).length ≤ 16777216 := by omega
      have hB : blC p fo (adr (adP p fo order)) b = bC (fo b) (adr (adP p fo order)) bl := by unfold blC; rw [hbl]
      simp only [List.length_flatMap] at l2
      simp -implicitDefEqProofs [fb, l0_code_in, ixN_nat _ _ hb, hb, hbl', ixN_nat _ _ hfb2, hfb2, hfb3, Prg.d, e1, l2, hB, cD_app]
    · rintro ρ H ⟨x5, rfl, rfl⟩
      simp [codeP])
  obtain ⟨q, e1, rfl⟩ := this
  exact e1
end J
set_option maxRecDepth 10000
namespace J
theorem fin_own {h K : LH} {i : Nat} {zs : List D} (hi : K[i]? = some (zs.map .d)) : fin h.length (.l (h.length + i)) (h ++ K) = some (.l h.length, h ++ [zs.map .d]) := by
  unfold fin
  have h1 : ¬ (h.length + i < h.length) := by omega
  have h2 : (h ++ K)[h.length + i]? = some (zs.map .d) := by
    rw [List.getElem?_append_right (by omega)]; simpa using hi
  simp only [h1, if_false, h2, allD_map']
  simp
theorem wp_eq {γ : Type} {r : Option γ} {a : γ} (e : r = some a) {Q : Kt γ} (h : Q.run a) : @Wp γ r Q := ⟨a, e, h⟩
def foI : Option Nat → Int
  | none => -1
  | some l => l
def foL (fo : Option Nat) : D := .i (foI fo)
theorem foI_eq (fo : Option Nat) (l : Nat) : ((l : Int) = foI fo) = (fo = some l) := by
  cases fo with
  | none => simp [foI]
  | some m => simp [foI]; exact ⟨fun h => by omega, fun h => by omega⟩
theorem law_block_code_ok {fo : Option Nat} {adl : List Nat} {b : Blk} {M size : Nat} (hb : Few b) (ho : b.j.Ok M size) (hl : size ≤ adl.length) {w : W} {h : LH} (hw : ∀ k, items (h ++ k) w = some (natl adl)) : ∀ j, 8 ≤ j → call JP j f_law_block_code [.d b.d, .d (foL fo), w] h = some (.l h.length, h ++ [(cD (bC fo (adr adl) b)).map .d]) := by
  intro j hj
  obtain ⟨j, rfl⟩ : ∃ i, j = i + 1 := ⟨j - 1, by omega⟩
  have := pw (f := f_law_block_code) (ws := [.d b.d, .d (foL fo), w]) (j := j) (h := h) (Q := fun q => q = (.l h.length, h ++ [(cD (bC fo (adr adl) b)).map .d])) b_law_block_code rfl rfl (by
    simp [b_law_block_code, Blk.d]
    refine wp_items (g := W.d ∘ asD) (fun pre ρ H => ∃ x4 x5 K i, ρ = [some (.d b.d), some (.d (foL fo)), some w, some (.l (h.length + i)), x4, x5, none, none] ∧ H = h ++ K ∧ K[i]? = some ((cD (asC pre)).map .d)) [] ?_ ?_ ?_
    · exact ⟨none, none, [[]], 0, by simp [Blk.d], rfl, by simp [asC, cD]⟩
    · rintro pre a post e ρ H ⟨x4, x5, K, i, rfl, rfl, hi⟩
      have e' : b.as = pre ++ a :: post := by simpa using e
      have hn := hb.2.1 a (by rw [e']; simp)
      have hc := code_364 hn
      have e1 := law_code_ok a.2 (by omega) j (by omega)
      have hp := asC_len pre fun x hx => hb.2.1 x (by rw [e']; simp [hx])
      have hpl : pre.length < b.as.length := by rw [e']; simp
      have := hb.1
      have hi' : i < K.length := (List.getElem?_eq_some_iff.1 hi).1
      have l1 : (asC pre).length + (code a.2).length ≤ 16777216 := by omega
      have l2 : (asC pre).length + ((code a.2).length + 1) ≤ 16777216 := by omega
      have l3 : (asC pre).length + (code a.2).length + 1 ≤ 16777216 := by omega
      have l4 : (asC pre).length + (code a.2).length ≤ 16777215 := by omega
      have g1 : ∀ X : LH, (K ++ X)[i]? = some ((cD (asC pre)).map .d) := fun X => by rw [List.getElem?_append_left hi']; exact hi
      simp -implicitDefEqProofs [fb, l0_law_block_code, asD, e1, hi, g1, l1, l2, l3, l4]
      refine ⟨_, _, _, _, ⟨rfl, rfl, rfl⟩, rfl, ?_⟩
      simp [asC_app, cD_app]
      simp [cD, Ins.d]
    · rintro ρ H ⟨x4, x5, K, i, rfl, rfl, hi⟩
      have hi' : i < K.length := (List.getElem?_eq_some_iff.1 hi).1
      have g1 : ∀ X : LH, (K ++ X)[i]? = some ((cD (asC b.as)).map .d) := fun X => by rw [List.getElem?_append_left hi']; exact hi
      have h1 := asC_len b.as hb.2.1
      have := hb.1
      have hw' : ∀ X : LH, items (h ++ (K ++ X)) w = some (natl adl) := fun X => hw _
      have ext : ∀ (K' : LH) (i : Nat) (c : List Ins), K'[i]? = some ((cD c).map .d) → c = bC fo (adr adl) b → fin h.length (.l (h.length + i)) (h ++ K') = some (.l h.length, h ++ [(cD (bC fo (adr adl) b)).map .d]) := fun K' i c h1 h2 => by rw [← h2]; exact fin_own h1
      have mv : ∀ (X : LH) (k : Nat), (K ++ X)[K.length + k]? = X[k]? := fun X k => by rw [List.getElem?_append_right (by omega)]; simp
      cases hj2 : b.j with
      | goto l =>
        rw [hj2] at ho
        have hl1 : l < adl.length := by have : l < size := ho; omega
        have l1 : (asC b.as).length + 1 ≤ 16777216 := by omega
        have l2 : (asC b.as).length ≤ 16777215 := by omega
        by_cases hf : fo = some l
        · simp -implicitDefEqProofs [Jmp.d, hj2, foL, foI_eq, hf, Blk.d]
          rw [ext K i (asC b.as) hi (by simp [bC, hj2, jC, toC, hf])]
          simp [hf]
        · simp -implicitDefEqProofs [Jmp.d, hj2, Blk.d, foL, foI_eq, hf, hi, g1, hw, hw', ixN_nat _ _ hl1, natl_get hl1, l1, l2]
          refine wp_eq (ext _ _ (asC b.as ++ [.jump (adr adl l)]) ?_ (by simp [bC, hj2, jC, toC, hf])) ?_
          · rw [mv]; simp [cD_app]; simp [cD, Ins.d]
          · simp
      | test e l m =>
        rw [hj2] at ho
        have hl1 : l < adl.length := by have := ho.2.1; omega
        have hl2 : m < adl.length := by have := ho.2.2; omega
        have hn := hb.2.2.1 e l m hj2
        have hc := code_364 hn
        have e1 := law_code_ok e (by omega) j (by omega)
        have l1 : (asC b.as).length + (code e).length ≤ 16777216 := by omega
        have l2 : (asC b.as).length + (code e).length + 1 ≤ 16777216 := by omega
        have l3 : (asC b.as).length + ((code e).length + 1) ≤ 16777216 := by omega
        have l4 : (asC b.as).length + (code e).length ≤ 16777215 := by omega
        have l5 : (asC b.as).length + (code e).length + 1 + 1 ≤ 16777216 := by omega
        have l6 : (asC b.as).length + ((code e).length + 1) + 1 ≤ 16777216 := by omega
        have l7 : (asC b.as).length + ((code e).length + 1) ≤ 16777215 := by omega
        by_cases hf : fo = some l
        · simp -implicitDefEqProofs [Jmp.d, hj2, foL, foI_eq, hf, Blk.d, e1, hi, g1, hw', ixN_nat _ _ hl2, natl_get hl2, l1, l2, l3, l4]
          refine wp_eq (ext _ _ (asC b.as ++ (code e ++ [.unl (adr adl m)])) ?_ (by simp [bC, hj2, jC, toC, hf])) ?_
          · rw [mv]; simp [cD_app]; simp [cD, Ins.d]
          · simp [hf]
        · simp -implicitDefEqProofs [Jmp.d, hj2, Blk.d, foL, foI_eq, hf, e1, hi, g1, hw', ixN_nat _ _ hl1, natl_get hl1, ixN_nat _ _ hl2, natl_get hl2, l1, l2, l3, l4, l5, l6, l7]
          refine wp_eq (ext _ _ (asC b.as ++ (code e ++ ([.unl (adr adl m)] ++ [.jump (adr adl l)]))) ?_ (by simp [bC, hj2, jC, toC, hf])) ?_
          · rw [mv]; simp [cD_app]; simp [cD, Ins.d]
          · simp
      | fin e =>
        rw [hj2] at ho
        have hn := hb.2.2.2 e hj2
        have hc := code_364 hn
        have e1 := law_code_ok e (by omega) j (by omega)
        have l1 : (asC b.as).length + (code e).length ≤ 16777216 := by omega
        have l2 : (asC b.as).length + (code e).length + 1 ≤ 16777216 := by omega
        have l3 : (asC b.as).length + ((code e).length + 1) ≤ 16777216 := by omega
        have l4 : (asC b.as).length + (code e).length ≤ 16777215 := by omega
        simp -implicitDefEqProofs [Jmp.d, hj2, foL, Blk.d, e1, hi, g1, hw', l1, l2, l3, l4]
        refine wp_eq (ext _ _ (asC b.as ++ (code e ++ [.halt])) ?_ (by simp [bC, hj2, jC])) ?_
        · rw [mv]; simp [cD_app]; simp [cD, Ins.d]
        · simp)
  obtain ⟨q, e1, rfl⟩ := this
  exact e1
end J
set_option maxRecDepth 10000
namespace J
abbrev nof : Nat → Option Nat := fun _ => none
theorem negs (p : Prg) : (p.bl.map fun _ => W.d (.i (-1))) = List.replicate p.bl.length (W.d (.i (-1))) := by
  simp [List.map_const']
theorem law_laid_ok {p : Prg} {order : List Nat} (lo : Lo p nof order) (hne : 1 ≤ order.length) : Pu 10 f_law_laid [.d p.d, .d (.t (natD order)), .d (.b true)] (.t [.t (cD (codeP p nof order)), .t (natD (adP p nof order))]) := by
  intro j hj h
  obtain ⟨j, rfl⟩ : ∃ i, j = i + 1 := ⟨j - 1, by omega⟩
  have hs := lo.small
  have hol := lo.len
  have := pw (f := f_law_laid) (ws := [.d p.d, .d (.t (natD order)), .d (.b true)]) (j := j) (h := h) (Q := fun q => q = (.d (.t [.t (cD (codeP p nof order)), .t (natD (adP p nof order))]), h)) b_law_laid rfl rfl (by
    have e0 : ∀ (ρ : Env) (H : LH), compItems (turn (.n 10) ρ (evc (cx j) none) (ev (cx j) (.neg (.c (.i 1))))) (p.bl.map (W.d ∘ Blk.d)) [] H = some (List.replicate p.bl.length (W.d (.i (-1))), H) := by
      intro ρ H
      have := comp_map (C := cx j) (e := .neg (.c (.i 1))) (i := 10) (ρ := ρ) (h := H) (g := W.d ∘ Blk.d) (fun _ => .d (.i (-1))) (xs := p.bl) (by intro x hx; simp) (by omega)
      rwa [negs] at this
    have e1 : ∀ (ρ : Env) (H : LH), compItems (turn (.n 10) ρ (evc (cx j) none) (ev (cx j) (.c (.i 0)))) (p.bl.map (W.d ∘ Blk.d)) [] H = some (natl (List.replicate p.bl.length 0), H) := by
      intro ρ H
      have := comp_map (C := cx j) (e := .c (.i 0)) (i := 10) (ρ := ρ) (h := H) (g := W.d ∘ Blk.d) (fun _ => .d (.i 0)) (xs := p.bl) (by intro x hx; simp) (by omega)
      rwa [zeros] at this
    obtain ⟨m, hm⟩ : ∃ m, order.length = m + 1 := ⟨order.length - 1, by omega⟩
    have hr := range_nat m
    have hR := inR_nat m (by omega)
    simp [b_law_laid, Prg.d, e0, hm, hR, hr]
    refine wp_items (g := fun (k : Nat) => W.d (.i k)) (fun pre ρ H => ∃ x5, ρ = [some (.d p.d), some (.d (.t (natD order))), some (.d (.b true)), some (.d (.t (p.bl.map Blk.d))), some (.l h.length), x5, none, none, none, none, none] ∧ H = h ++ [List.replicate p.bl.length (W.d (.i (-1)))]) [] ?_ ?_ ?_
    · exact ⟨none, rfl, rfl⟩
    · rintro pre b post e ρ H ⟨x5, rfl, rfl⟩
      simp [fb, l0_law_laid]
    · rintro ρ H ⟨x5, rfl, rfl⟩
      simp [e1]
      rw [natl_d]
      refine wp_items (g := fun (k : Nat) => W.d (.i k)) (fun pre ρ H => ∃ x8 K, ρ = [some (.d p.d), some (.d (.t (natD order))), some (.d (.b true)), some (.d (.t (p.bl.map Blk.d))), some (.l h.length), x5, some (.l (h.length + 1)), some (.d (.i (adS p nof pre).2)), x8, none, none] ∧ H = h ++ (List.replicate p.bl.length (W.d (.i (-1))) :: natl (adS p nof pre).1 :: K)) (xs := order) [] ?_ ?_ ?_
      · exact ⟨none, [], by simp [adS, Prg.d], by simp [adS]⟩
      · rintro pre b post e ρ H ⟨x8, K, rfl, rfl⟩
        have e' : order = pre ++ b :: post := by simpa using e
        have hb : b < p.bl.length := lo.lt b (by rw [e']; simp)
        have hbb : b < (adS p nof pre).1.length := by rw [adS_len]; exact hb
        obtain ⟨bl, hbl⟩ : ∃ bl, p.bl[b]? = some bl := ⟨_, List.getElem?_eq_getElem hb⟩
        have hbl' : p.bl[b] = bl := by rw [List.getElem?_eq_getElem hb] at hbl; simpa using hbl
        have hmm := List.mem_of_getElem? hbl
        have e2 := fun (H : LH) (w : W) hw => law_block_code_ok (fo := none) (adl := List.replicate p.bl.length 0) (lo.few bl hmm) (lo.ok.bl bl hmm).2.2 (by simp) (w := w) (h := H) hw j (by omega)
        have hlb : lenB p nof b = (bC none (adr (List.replicate p.bl.length 0)) bl).length := by
          unfold lenB; rw [hbl]; exact bC_n _ _ _ _
        simp only [foL, foI] at e2
        simp [fb, l1_law_laid, ixN_nat _ _ hbb, hbb, ixN_nat _ _ hb, hb, hbl', Prg.d, natl_set, e1, e2, adS_app, hlb]
      · rintro ρ H ⟨x8, K, rfl, rfl⟩
        simp
        rw [natl_d]
        refine wp_items (g := fun (k : Nat) => W.d (.i k)) (fun pre ρ H => ∃ x7 x8 K i, ρ = [some (.d p.d), some (.d (.t (natD order))), some (.d (.b true)), some (.d (.t (p.bl.map Blk.d))), some (.l h.length), x5, some (.l (h.length + 1)), x7, x8, some (.l (h.length + (i + 2))), none] ∧ H = h ++ (List.replicate p.bl.length (W.d (.i (-1))) :: natl (adP p nof order) :: K) ∧ K[i]? = some ((cD (pre.flatMap (blC p nof (adr (adP p nof order))))).map .d)) (xs := order) [] ?_ ?_ ?_
        · exact ⟨some (.d (.i (adS p nof order).2)), x8, K ++ [[]], K.length, rfl, by simp [adP], by simp [cD]⟩
        · rintro pre b post e ρ H ⟨x7, x8, K, i, rfl, rfl, hi⟩
          have e' : order = pre ++ b :: post := by simpa using e
          have hb : b < p.bl.length := lo.lt b (by rw [e']; simp)
          obtain ⟨bl, hbl⟩ : ∃ bl, p.bl[b]? = some bl := ⟨_, List.getElem?_eq_getElem hb⟩
          have hbl' : p.bl[b] = bl := by rw [List.getElem?_eq_getElem hb] at hbl; simpa using hbl
          have hmm := List.mem_of_getElem? hbl
          have e2 := law_block_code_ok (fo := none) (adl := adP p nof order) (lo.few bl hmm) (lo.ok.bl bl hmm).2.2 (by simp [adP, adS_len]) (w := .l (h.length + 1)) (h := h ++ (List.replicate p.bl.length (W.d (.i (-1))) :: natl (adP p nof order) :: K)) (by simp) j (by omega)
          simp only [foL, foI] at e2
          have hi' : i < K.length := (List.getElem?_eq_some_iff.1 hi).1
          have g1 : ∀ X : LH, (K ++ X)[i]? = some ((cD (pre.flatMap (blC p nof (adr (adP p nof order))))).map .d) := fun X => by rw [List.getElem?_append_left hi']; exact hi
          have l0 := code_in_len (fo := nof) lo.few (adr (adP p nof order)) pre
          have hpl : pre.length < order.length := by rw [e']; simp
          have l1 := bC_len (lo.few bl hmm) none (adr (adP p nof order))
          have l2 : (pre.flatMap (blC p nof (adr (adP p nof order)))).length + (bC none (adr (adP p nof order)) bl).length ≤ 16777216 := by omega
          have hB : blC p nof (adr (adP p nof order)) b = bC none (adr (adP p nof order)) bl := by unfold blC; rw [hbl]
          generalize hX : pre.flatMap (blC p nof (adr (adP p nof order))) = X at *
          simp -implicitDefEqProofs [fb, l2_law_laid, ixN_nat _ _ hb, hb, hbl', Prg.d, e2, hi, g1, l2, hX, hB]
          exact ⟨_, _, _, _, ⟨rfl, rfl, rfl⟩, rfl, by rw [List.getElem?_append_right (by omega)]; simp [cD_app]⟩
        · rintro ρ H ⟨x7, x8, K, i, rfl, rfl, hi⟩
          have l0 := code_in_len (fo := nof) lo.few (adr (adP p nof order)) order
          have l1 : (cD (codeP p nof order)).length ≤ 16777216 := by unfold codeP; rw [cD_len]; omega
          have l2 : (adP p nof order).length ≤ 16777216 := by simp [adP, adS_len]; omega
          have hi2 : K[i]? = some ((cD (codeP p nof order)).map .d) := by simpa [codeP] using hi
          rw [cD_len] at l1
          simp -implicitDefEqProofs [hi2, natl_eq, l1, l2])
  obtain ⟨q, e1, rfl⟩ := this
  exact e1
end J
set_option maxRecDepth 10000
/-! The second machine; its pile is told the top first. -/
namespace J
inductive MO where
  | go (at_ : Nat) (pile st : List D)
  | ended (x : D)
  | bad
def stepI (at_ : Nat) (pile st : List D) : Ins → MO
  | .push x => .go (at_ + 1) (x :: pile) st
  | .load v => .go (at_ + 1) (at0 st v :: pile) st
  | .keep v => match pile with
    | x :: r => .go (at_ + 1) r (st.set v x)
    | [] => .bad
  | .d1 o => match pile with
    | x :: r => .go (at_ + 1) (ap1 o x :: r) st
    | [] => .bad
  | .d2 o => match pile with
    | y :: x :: r => .go (at_ + 1) (ap2 o x y :: r) st
    | _ => .bad
  | .d3 o => match pile with
    | z :: y :: x :: r => .go (at_ + 1) (ap3 o x y z :: r) st
    | _ => .bad
  | .jump l => .go l pile st
  | .unl l => match pile with
    | x :: r => .go (if zeroB x = true then l else at_ + 1) r st
    | [] => .bad
  | .halt => match pile with
    | x :: _ => .ended x
    | [] => .bad
def OkI (pile st : List D) : Ins → Prop
  | .push x => True
  | .load v => v < st.length
  | .keep v => ∃ x r, pile = x :: r ∧ v < st.length
  | .d1 o => ∃ x r, pile = x :: r ∧ Th x
  | .d2 o => ∃ x y r, pile = y :: x :: r ∧ Th x ∧ Th y
  | .d3 o => ∃ x y z r, pile = z :: y :: x :: r ∧ Th x ∧ Th y
  | .jump l => True
  | .unl l => ∃ x r, pile = x :: r
  | .halt => ∃ x r, pile = x :: r
def stepM (c : List Ins) (at_ : Nat) (pile st : List D) : MO := match c[at_]? with
  | some i => stepI at_ pile st i
  | none => .bad
def runM (c : List Ins) : Nat → Nat → List D → List D → Option (Nat × D)
  | 0, _, _, _ => none
  | n + 1, a, p, s => match stepM c a p s with
    | .ended x => some (1, x)
    | .go a' p' s' => (runM c n a' p' s').map fun r => (r.1 + 1, r.2)
    | .bad => none
def SafeM (c : List Ins) : Nat → Nat → List D → List D → Prop
  | 0, _, _, _ => True
  | n + 1, a, p, s => (∃ i, c[a]? = some i ∧ OkI p s i ∧ p.length ≤ 1000 ∧ s.length ≤ 1000) ∧ match stepM c a p s with
    | .go a' p' s' => SafeM c n a' p' s'
    | _ => True
def Ins.tk : Ins → Nat
  | .push _ => 0
  | .load _ => 0
  | .keep _ => 1
  | .d1 _ => 1
  | .d2 _ => 2
  | .d3 _ => 3
  | .jump _ => 0
  | .unl _ => 1
  | .halt => 1
theorem takes_ok (i : Ins) : Pu 2 f_takes [.d i.d] (.i i.tk) := by
  refine pu (d := b_takes) rfl rfl fun j hj h => ?_
  cases i with
  | d1 o => have := arity1 o j (by omega) h; cases o <;> simp at this <;> simp [b_takes, Ins.d, this, Ins.tk]
  | d2 o => have := arity2 o j (by omega) h; cases o <;> simp at this <;> simp [b_takes, Ins.d, this, Ins.tk]
  | d3 o => have := arity3 o j (by omega) h; cases o <;> simp at this <;> simp [b_takes, Ins.d, this, Ins.tk]
  | _ => simp [b_takes, Ins.d, Tb, Ins.tk]
theorem last_get (r : List D) (x : D) : (r.reverse ++ [x])[r.length]? = some x := by
  rw [List.getElem?_append_right (by simp)]; simp
theorem cut_pile (r s : List D) {n : Int} (hn : n = r.length) : cutL (r.reverse ++ s) none (some n) = r.reverse ∧ cutL (r.reverse ++ s) (some n) none = s := by
  subst hn
  constructor
  · rw [cutL_to _ _ (by simp)]; simp
  · rw [cutL_from _ _ (by simp)]; simp
theorem ixN_m1 (n : Nat) : ixN (n + 1) (-1) = some n := by
  unfold ixN
  simp
  constructor <;> omega
theorem goes_by_ok {c : List Ins} {a : Nat} {i : Ins} (hi : c[a]? = some i) {p s : List D} (ok : OkI p s i) (hh : i ≠ .halt) : Pu 1 f_goes_by [.d (.t (cD c)), .d (.i a), .d (.t p.reverse)] (.i (match i with
    | .jump l => (l : Int)
    | .unl l => if zeroB (p.head?.getD (.i 0)) = true then (l : Int) else a + 1
    | _ => (a : Int) + 1)) := by
  refine pu (d := b_goes_by) rfl rfl fun j hj h => ?_
  have ha : a < c.length := (List.getElem?_eq_some_iff.1 hi).1
  have hg : (cD c)[a]? = some i.d := by simp [cD, hi]
  have hga : c[a] = i := by rw [List.getElem?_eq_getElem ha] at hi; simpa using hi
  have hix : ixN (cD c).length (a : Int) = some a := ixN_nat _ _ (by simpa using ha)
  rw [cD_len] at hix
  cases i with
  | halt => exact absurd rfl hh
  | unl l =>
    obtain ⟨x, r, rfl⟩ := ok
    have hix2 : ixN (r.length + 1) (-1) = some r.length := ixN_m1 _
    by_cases hz : eqv x (.i 0) = true
    · simp [b_goes_by, hix, ha, cD, hga, Ins.d, hix2, hz, zeroB]
    · simp [b_goes_by, hix, ha, cD, hga, Ins.d, hix2, hz, zeroB]
  | _ => simp [b_goes_by, hix, ha, cD, hga, Ins.d]
theorem pile_ok {i : Ins} {p st : List D} (ok : OkI p st i) (hh : i ≠ .halt) (hp : p.length ≤ 1000) : Pu 6 f_pile_behind [.d i.d, .d (.t st), .d (.t p.reverse)] (.t (match i with
    | .push x => (x :: p).reverse
    | .load v => (at0 st v :: p).reverse
    | .keep _ => (p.drop 1).reverse
    | .d1 o => (ap1 o (p[0]?.getD (.i 0)) :: p.drop 1).reverse
    | .d2 o => (ap2 o (p[1]?.getD (.i 0)) (p[0]?.getD (.i 0)) :: p.drop 2).reverse
    | .d3 o => (ap3 o (p[2]?.getD (.i 0)) (p[1]?.getD (.i 0)) (p[0]?.getD (.i 0)) :: p.drop 3).reverse
    | .jump _ => p.reverse
    | .unl _ => (p.drop 1).reverse
    | .halt => [])) := by
  refine pu (d := b_pile_behind) rfl rfl fun j hj h => ?_
  have tk := takes_ok i j (by omega) h
  have l1 : p.length + 1 ≤ 16777216 := by omega
  cases i with
  | halt => exact absurd rfl hh
  | push x => simp [b_pile_behind, Ins.d, l1]
  | load v =>
    have hv : v < st.length := ok
    have hat : st[v] = at0 st v := by unfold at0; rw [List.getElem?_eq_getElem hv]; rfl
    simp [b_pile_behind, Ins.d, l1, ixN_nat _ _ hv, hv, hat]
  | keep v =>
    obtain ⟨x, r, rfl, hv⟩ := ok
    have c1 := (cut_pile r [x] rfl).1
    simp only [Ins.d, Ins.tk] at tk
    simp at tk l1
    have l2 : r.length ≤ 16777216 := by omega
    simp [b_pile_behind, Ins.d, tk, c1, l2]
  | unl l =>
    obtain ⟨x, r, rfl⟩ := ok
    have c1 := (cut_pile r [x] rfl).1
    simp only [Ins.d, Ins.tk] at tk
    simp at tk l1
    have l2 : r.length ≤ 16777216 := by omega
    simp [b_pile_behind, Ins.d, tk, c1, l2]
  | jump l =>
    simp only [Ins.d, Ins.tk] at tk
    simp at tk
    have c1 := (cut_pile p [] rfl).1
    simp at c1
    have l2 : p.length ≤ 16777216 := by omega
    simp [b_pile_behind, Ins.d, tk, c1, l2]
  | d1 o =>
    obtain ⟨x, r, rfl, hx⟩ := ok
    have c1 := cut_pile r [x] rfl
    have e1 := applied1 o x hx j (by omega) h
    simp only [Ins.d, Ins.tk] at tk
    simp at l1
    have l2 : r.length + 1 ≤ 16777216 := by omega
    cases o <;> simp at tk e1 <;> simp [b_pile_behind, Ins.d, tk, c1.1, c1.2, l2, e1]
  | d2 o =>
    obtain ⟨x, y, r, rfl, hx, hy⟩ := ok
    have c1 := cut_pile r [x, y] rfl
    have e1 := applied2 o x y hx hy j (by omega) h
    simp only [Ins.d, Ins.tk] at tk
    simp at l1
    have l2 : r.length + 1 ≤ 16777216 := by omega
    have c0 : (r.length : Int) + 1 + 1 - 2 = r.length := by omega
    cases o <;> simp at tk e1 <;> simp [b_pile_behind, Ins.d, tk, c0, c1.1, c1.2, l2, e1]
  | d3 o =>
    obtain ⟨x, y, z, r, rfl, hx, hy⟩ := ok
    have c1 := cut_pile r [x, y, z] rfl
    have e1 := applied3 o x y z hx hy j (by omega) h
    simp only [Ins.d, Ins.tk] at tk
    simp at l1
    have l2 : r.length + 1 ≤ 16777216 := by omega
    have c0 : (r.length : Int) + 1 + 1 + 1 - 3 = r.length := by omega
    cases o <;> simp at tk e1 <;> simp [b_pile_behind, Ins.d, tk, c0, c1.1, c1.2, l2, e1]
theorem run_code_turn {c : List Ins} {j : Nat} (hj : 8 ≤ j) {h : LH} {M : Option W} {a : Nat} {i : Ins} {p st : List D} (hi : c[a]? = some i) (ok : OkI p st i) (hp : p.length ≤ 1000) (hl : st.length ≤ 1000) (hh : i ≠ .halt) (s : Nat) (x5 x6 : Option W) : ∃ a' p' st' x6', stepI a p st i = .go a' p' st' ∧ fb (cx j) (.n 5) l0_run_code (.d (.i s)) [some (.d (.t (cD c))), some (.d (.t st)), M, some (.d (.i a)), some (.d (.t p.reverse)), x5, x6] h = some (.nxt, [some (.d (.t (cD c))), some (.d (.t st')), M, some (.d (.i a')), some (.d (.t p'.reverse)), some (.d (.i s)), x6'], h) := by
  have ha : a < c.length := (List.getElem?_eq_some_iff.1 hi).1
  have hga : c[a] = i := by rw [List.getElem?_eq_getElem ha] at hi; simpa using hi
  have hix : ixN (cD c).length (a : Int) = some a := ixN_nat _ _ (by simpa using ha)
  rw [cD_len] at hix
  have hgd : ∀ hh, (cD c)[a]'hh = i.d := fun hh => by simp [cD, hga]
  have e1 := goes_by_ok hi ok hh j (by omega) h
  have e2 := pile_ok ok hh hp j (by omega) h
  cases i with
  | halt => exact absurd rfl hh
  | push x =>
    refine ⟨a + 1, x :: p, st, some (.d (.i (a + 1))), rfl, ?_⟩
    simp [Ins.d] at e1 e2
    simp [fb, l0_run_code, hix, ha, hgd, Ins.d, e1, e2]
  | load v =>
    refine ⟨a + 1, at0 st v :: p, st, some (.d (.i (a + 1))), rfl, ?_⟩
    simp [Ins.d] at e1 e2
    simp [fb, l0_run_code, hix, ha, hgd, Ins.d, e1, e2]
  | keep v =>
    obtain ⟨x, r, rfl, hv⟩ := ok
    have e3 := with_thing st v hv hl x j (by omega) h
    have e4 := pile_ok (i := .keep v) (p := x :: r) (st := st.set v x) ⟨x, r, rfl, by simpa using hv⟩ hh hp j (by omega) h
    refine ⟨a + 1, r, st.set v x, some (.d (.i (a + 1))), rfl, ?_⟩
    simp [Ins.d] at e1 e4
    simp [fb, l0_run_code, hix, ha, hgd, Ins.d, e1, e3, e4, ixN_m1]
  | unl l =>
    obtain ⟨x, r, rfl⟩ := ok
    simp [Ins.d] at e1 e2
    by_cases hz : zeroB x = true
    · refine ⟨l, r, st, some (.d (.i l)), by simp [stepI, hz], ?_⟩
      simp [hz] at e1
      simp [fb, l0_run_code, hix, ha, hgd, Ins.d, e1, e2]
    · refine ⟨a + 1, r, st, some (.d (.i (a + 1))), by simp [stepI, hz], ?_⟩
      simp [hz] at e1
      simp [fb, l0_run_code, hix, ha, hgd, Ins.d, e1, e2]
  | jump l =>
    refine ⟨l, p, st, some (.d (.i l)), rfl, ?_⟩
    simp [Ins.d] at e1 e2
    simp [fb, l0_run_code, hix, ha, hgd, Ins.d, e1, e2]
  | d1 o =>
    obtain ⟨x, r, rfl, hx⟩ := ok
    refine ⟨a + 1, ap1 o x :: r, st, some (.d (.i (a + 1))), rfl, ?_⟩
    simp [Ins.d] at e1 e2
    simp [fb, l0_run_code, hix, ha, hgd, Ins.d, e1, e2]
  | d2 o =>
    obtain ⟨x, y, r, rfl, hx, hy⟩ := ok
    refine ⟨a + 1, ap2 o x y :: r, st, some (.d (.i (a + 1))), rfl, ?_⟩
    simp [Ins.d] at e1 e2
    simp [fb, l0_run_code, hix, ha, hgd, Ins.d, e1, e2]
  | d3 o =>
    obtain ⟨x, y, z, r, rfl, hx, hy⟩ := ok
    refine ⟨a + 1, ap3 o x y z :: r, st, some (.d (.i (a + 1))), rfl, ?_⟩
    simp [Ins.d] at e1 e2
    simp [fb, l0_run_code, hix, ha, hgd, Ins.d, e1, e2]
theorem run_code_loop {c : List Ins} {j : Nat} (hj : 8 ≤ j) {h : LH} {M : Option W} : ∀ (m s a : Nat) (p st : List D) (x5 x6 : Option W), SafeM c m a p st → ∃ ρ', (∃ y1 y3 y4 y5 y6, ρ' = [some (.d (.t (cD c))), y1, M, y3, y4, y5, y6]) ∧ forItems (fb (cx j) (.n 5) l0_run_code) ((List.range' s m).map fun (k : Nat) => W.d (.i k)) [some (.d (.t (cD c))), some (.d (.t st)), M, some (.d (.i a)), some (.d (.t p.reverse)), x5, x6] h = match runM c m a p st with
    | some (k, x) => some (.ret (.d (.t [.s "ended", .i ((s + k : Nat) : Int), x])), ρ', h)
    | none => some (.nxt, ρ', h)
  | 0, s, a, p, st, x5, x6, _ => ⟨_, ⟨_, _, _, _, _, rfl⟩, rfl⟩
  | m + 1, s, a, p, st, x5, x6, hs => by
    obtain ⟨⟨i, hi, ok, hp, hl⟩, hrest⟩ := hs
    have ha : a < c.length := (List.getElem?_eq_some_iff.1 hi).1
    have hga : c[a] = i := by rw [List.getElem?_eq_getElem ha] at hi; simpa using hi
    have hix : ixN (cD c).length (a : Int) = some a := ixN_nat _ _ (by simpa using ha)
    rw [cD_len] at hix
    have hgd : ∀ hh, (cD c)[a]'hh = i.d := fun hh => by simp [cD, hga]
    simp only [List.range'_succ, List.map_cons, forItems]
    unfold runM
    have hst : stepM c a p st = stepI a p st i := by unfold stepM; rw [hi]
    rw [hst] at hrest ⊢
    by_cases hh : i = .halt
    · subst hh
      obtain ⟨x, r, rfl⟩ := ok
      refine ⟨[some (.d (.t (cD c))), some (.d (.t st)), M, some (.d (.i a)), some (.d (.t (x :: r).reverse)), some (.d (.i s)), x6], ⟨_, _, _, _, _, rfl⟩, ?_⟩
      simp [fb, l0_run_code, hix, ha, hgd, Ins.d, stepI, ixN_m1]
    · obtain ⟨a', p', st', x6', h1, e1⟩ := run_code_turn hj (h := h) (M := M) hi ok hp hl hh s x5 x6
      rw [h1] at hrest ⊢
      obtain ⟨ρ', hρ, e2⟩ := run_code_loop hj (h := h) (M := M) m (s + 1) a' p' st' (some (.d (.i s))) x6' hrest
      refine ⟨ρ', hρ, ?_⟩
      simp only [e1, e2]
      cases runM c m a' p' st' with
      | none => rfl
      | some r => simp; omega
theorem run_code_ok {c : List Ins} {st : List D} {most : Nat} (hm : most ≤ 1000000) (hs : SafeM c most 0 [] st) : Pu 9 f_run_code [.d (.t (cD c)), .d (.t st), .d (.i most)] (resD most (runM c most 0 [] st)) := by
  refine pu (d := b_run_code) rfl rfl fun j hj h => ?_
  obtain ⟨ρ', ⟨y1, y3, y4, y5, y6, rfl⟩, e2⟩ := run_code_loop (c := c) (j := j) (by omega) (h := h) (M := some (.d (.i most))) most 0 0 [] st none none hs
  rw [← List.range_eq_range'] at e2
  simp [b_run_code, inR_nat _ hm, range_nat]
  simp at e2
  rw [e2]
  cases runM c most 0 [] st with
  | none => simp [resD]
  | some r => simp [resD]
end J
set_option maxRecDepth 10000
/-! The codes do what the programs do. -/
namespace J
def addK (k : Nat) (o : Option (Nat × D)) : Option (Nat × D) := o.map fun r => (r.1 + k, r.2)
theorem addK_add (k l : Nat) (o : Option (Nat × D)) : addK k (addK l o) = addK (k + l) o := by
  cases o <;> simp [addK]; omega
theorem addK_0 (o : Option (Nat × D)) : addK 0 o = o := by cases o <;> simp [addK]
def Goes (C : List Ins) (k a : Nat) (p s : List D) (a' : Nat) (p' s' : List D) : Prop := ∀ n, (SafeM C n a' p' s' → SafeM C (n + k) a p s) ∧ runM C (n + k) a p s = addK k (runM C n a' p' s')
theorem runM_succ (c : List Ins) (n a : Nat) (p s : List D) : runM c (n + 1) a p s = match stepM c a p s with
    | .ended x => some (1, x)
    | .go a' p' s' => (runM c n a' p' s').map fun r => (r.1 + 1, r.2)
    | .bad => none := rfl
theorem Goes.refl (C : List Ins) (a : Nat) (p s : List D) : Goes C 0 a p s a p s := fun n => ⟨id, by rw [addK_0]; rfl⟩
theorem Goes.trans {C : List Ins} {k l a b c : Nat} {p s p' s' p'' s'' : List D} (h1 : Goes C k a p s b p' s') (h2 : Goes C l b p' s' c p'' s'') : Goes C (k + l) a p s c p'' s'' := fun n => by
  have e : n + (k + l) = n + l + k := by omega
  rw [e]
  refine ⟨fun h => (h1 (n + l)).1 ((h2 n).1 h), ?_⟩
  rw [(h1 (n + l)).2, (h2 n).2, addK_add]
theorem Goes.one {C : List Ins} {a a' : Nat} {p s p' s' : List D} {i : Ins} (hi : C[a]? = some i) (ok : OkI p s i) (hp : p.length ≤ 1000) (hl : s.length ≤ 1000) (h : stepI a p s i = .go a' p' s') : Goes C 1 a p s a' p' s' := fun n => by
  have hst : stepM C a p s = .go a' p' s' := by unfold stepM; rw [hi]; exact h
  constructor
  · intro hs
    refine ⟨⟨i, hi, ok, hp, hl⟩, ?_⟩
    rw [hst]
    exact hs
  · show runM C (n + 1) a p s = _
    rw [runM_succ, hst]
    rfl
def Seg (C : List Ins) (a : Nat) (xs : List Ins) : Prop := ∃ pre post, C = pre ++ (xs ++ post) ∧ pre.length = a
theorem Seg.left {C : List Ins} {a : Nat} {xs ys : List Ins} (h : Seg C a (xs ++ ys)) : Seg C a xs := by
  obtain ⟨pre, post, e, l⟩ := h
  exact ⟨pre, ys ++ post, by rw [e, List.append_assoc], l⟩
theorem Seg.right {C : List Ins} {a : Nat} {xs ys : List Ins} (h : Seg C a (xs ++ ys)) : Seg C (a + xs.length) ys := by
  obtain ⟨pre, post, e, l⟩ := h
  exact ⟨pre ++ xs, post, by rw [e]; simp, by simp [l]⟩
theorem Seg.get {C : List Ins} {a : Nat} {x : Ins} {xs : List Ins} (h : Seg C a (x :: xs)) : C[a]? = some x := by
  obtain ⟨pre, post, e, l⟩ := h
  rw [e, List.getElem?_append_right (by omega), l]
  simp
theorem sim_e {C : List Ins} {st : List D} (hl : st.length ≤ 1000) : ∀ (e : Exp) {a : Nat} {p : List D}, AllTh st e → Seg C a (code e) → p.length + 3 * e.nest ≤ 1000 → Goes C (code e).length a p st (a + (code e).length) (wo st e :: p) st
  | .know x, a, p, hs, sg, hp => Goes.one sg.get trivial (by omega) hl rfl
  | .of v, a, p, hs, sg, hp => Goes.one sg.get hs.1 (by omega) hl rfl
  | .o1 o x, a, p, hs, sg, hp => by
    simp only [Exp.nest] at hp
    have g1 := sim_e hl x hs.1 sg.left (by omega : p.length + 3 * x.nest ≤ 1000)
    have g2 : Goes C 1 (a + (code x).length) (wo st x :: p) st (a + (code x).length + 1) (wo st (.o1 o x) :: p) st := Goes.one sg.right.get ⟨_, _, rfl, hs.1.th⟩ (by simp; omega) hl rfl
    have := g1.trans g2
    simp only [code, List.length_append, List.length_singleton]
    rwa [← Nat.add_assoc]
  | .o2 o x y, a, p, hs, sg, hp => by
    simp only [Exp.nest] at hp
    have sg2 := sg.right
    have sg3 := sg2.right
    have g1 := sim_e hl x hs.1.1 sg.left (by omega : p.length + 3 * x.nest ≤ 1000)
    have g2 := sim_e hl y hs.1.2 (p := wo st x :: p) sg2.left (by simp; omega)
    have g3 : Goes C 1 (a + (code x).length + (code y).length) (wo st y :: wo st x :: p) st (a + (code x).length + (code y).length + 1) (wo st (.o2 o x y) :: p) st := Goes.one sg3.get ⟨_, _, _, rfl, hs.1.1.th, hs.1.2.th⟩ (by simp; omega) hl rfl
    have := (g1.trans g2).trans g3
    simp only [code, List.length_append, List.length_singleton]
    rw [show (code x).length + ((code y).length + 1) = (code x).length + (code y).length + 1 by omega, show a + ((code x).length + (code y).length + 1) = a + (code x).length + (code y).length + 1 by omega]
    exact this
  | .o3 o x y z, a, p, hs, sg, hp => by
    simp only [Exp.nest] at hp
    have sg2 := sg.right
    have sg3 := sg2.right
    have sg4 := sg3.right
    have g1 := sim_e hl x hs.1.1 sg.left (by omega : p.length + 3 * x.nest ≤ 1000)
    have g2 := sim_e hl y hs.1.2.1 (p := wo st x :: p) sg2.left (by simp; omega)
    have g3 := sim_e hl z hs.1.2.2 (p := wo st y :: wo st x :: p) sg3.left (by simp; omega)
    have g4 : Goes C 1 (a + (code x).length + (code y).length + (code z).length) (wo st z :: wo st y :: wo st x :: p) st (a + (code x).length + (code y).length + (code z).length + 1) (wo st (.o3 o x y z) :: p) st := Goes.one sg4.get ⟨_, _, _, _, rfl, hs.1.1.th, hs.1.2.1.th⟩ (by simp; omega) hl rfl
    have := ((g1.trans g2).trans g3).trans g4
    simp only [code, List.length_append, List.length_singleton]
    rw [show (code x).length + ((code y).length + ((code z).length + 1)) = (code x).length + (code y).length + (code z).length + 1 by omega, show a + ((code x).length + (code y).length + (code z).length + 1) = a + (code x).length + (code y).length + (code z).length + 1 by omega]
    exact this
theorem sim_as {C : List Ins} : ∀ (as : List (Nat × Exp)) {a : Nat} {st : List D}, st.length ≤ 1000 → SafeAs st as → Seg C a (asC as) → Goes C (asC as).length a [] st (a + (asC as).length) [] (sb st as)
  | [], a, st, hl, hs, sg => Goes.refl _ _ _ _
  | x :: r, a, st, hl, hs, sg => by
    have ha : asC (x :: r) = (code x.2 ++ [.keep x.1]) ++ asC r := by simp [asC]
    rw [ha] at sg ⊢
    obtain ⟨⟨h1, h2, h3⟩, h4⟩ := hs
    have s1 := sg.left
    have s2 := sg.right
    have s3 := s1.right
    have g1 := sim_e (C := C) hl x.2 (p := []) h1 s1.left (by simp; omega)
    have g2 : Goes C 1 (a + (code x.2).length) [wo st x.2] st (a + (code x.2).length + 1) [] (asg st x) := Goes.one s3.get ⟨_, _, rfl, h2⟩ (by simp) hl rfl
    have g3 := sim_as r (a := a + (code x.2 ++ [Ins.keep x.1]).length) (st := asg st x) (by simpa using hl) h4 s2
    have e1 : a + (code x.2 ++ [Ins.keep x.1]).length = a + (code x.2).length + 1 := by simp; omega
    rw [e1] at g3
    have := (g1.trans g2).trans g3
    rw [List.length_append, show (code x.2 ++ [Ins.keep x.1]).length = (code x.2).length + 1 by simp, ← Nat.add_assoc, ← Nat.add_assoc]
    exact this
def tS (fo : Option Nat) (l : Nat) : Nat := if fo = some l then 0 else 1
/-- the steps of a block's jump -/
def jS (fo : Option Nat) (st : List D) : Jmp → Nat
  | .goto l => tS fo l
  | .test e l m => (code e).length + 1 + (if zeroB (wo st e) = true then 0 else tS fo l)
  | .fin e => (code e).length + 1
def bS (fo : Option Nat) (bl : Blk) (st : List D) : Nat := (asC bl.as).length + jS fo (sb st bl.as) bl.j
theorem toC_tS (fo : Option Nat) (ad : Nat → Nat) (l : Nat) : (toC fo ad l).length = tS fo l := by unfold toC tS; split <;> rfl
theorem sim_to {C : List Ins} {fo : Option Nat} {ad : Nat → Nat} {l a : Nat} {st : List D} (hl : st.length ≤ 1000) (sg : Seg C a (toC fo ad l)) (hf : fo = some l → ad l = a) : Goes C (tS fo l) a [] st (ad l) [] st := by
  unfold tS
  unfold toC at sg
  split
  · rename_i h
    rw [hf h]
    exact Goes.refl _ _ _ _
  · rename_i h
    rw [if_neg h] at sg
    exact Goes.one sg.get trivial (by simp) hl rfl
/-- what a block's code does -/
theorem sim_b {C : List Ins} {fo : Option Nat} {ad : Nat → Nat} {bl : Blk} {a : Nat} {st : List D} (hs : SafeB st bl) (sg : Seg C a (bC fo ad bl)) (hf : ∀ l, fo = some l → ad l = a + (bC fo ad bl).length) : match stepB bl st with
    | .go b' st' => Goes C (bS fo bl st) a [] st (ad b') [] st'
    | .ended x => ∀ n, SafeM C (n + bS fo bl st) a [] st ∧ runM C (n + bS fo bl st) a [] st = some (bS fo bl st, x) := by
  obtain ⟨h1, h2, h3⟩ := hs
  have g1 := sim_as bl.as h3 h1 sg.left
  have s2 := sg.right
  have hl : (sb st bl.as).length ≤ 1000 := by simpa using h3
  unfold stepB
  have hlen : (bC fo ad bl).length = (asC bl.as).length + (jC fo ad bl.j).length := by simp [bC]
  rw [hlen] at hf
  cases hj : bl.j with
  | goto l =>
    rw [hj] at s2 hf
    have g2 : Goes C (tS fo l) (a + (asC bl.as).length) [] (sb st bl.as) (ad l) [] (sb st bl.as) := by
      refine sim_to hl s2 fun h => ?_
      rw [hf l h]
      simp [jC, toC, h]
    have := g1.trans g2
    simpa [bS, jS, hj] using this
  | test e l m =>
    rw [hj] at s2 hf h2
    have s3 := s2.right
    have s4 : Seg C (a + (asC bl.as).length + (code e).length + 1) (toC fo ad l) := s3.right
    have g2 := sim_e hl e (p := []) h2.1 s2.left (by have := h2.2; simp; omega)
    have g3 : Goes C 1 (a + (asC bl.as).length + (code e).length) [wo (sb st bl.as) e] (sb st bl.as) (if zeroB (wo (sb st bl.as) e) = true then ad m else a + (asC bl.as).length + (code e).length + 1) [] (sb st bl.as) := Goes.one s3.get ⟨_, _, rfl⟩ (by simp) hl rfl
    by_cases hz : zeroB (wo (sb st bl.as) e) = true
    · simp only [hz, if_true] at g3 ⊢
      have := (g1.trans g2).trans g3
      simpa [bS, jS, hj, hz, Nat.add_assoc] using this
    · simp only [hz] at g3 ⊢
      simp only [Bool.false_eq_true, if_false] at g3 ⊢
      have g4 : Goes C (tS fo l) (a + (asC bl.as).length + (code e).length + 1) [] (sb st bl.as) (ad l) [] (sb st bl.as) := by
        refine sim_to hl s4 fun h => ?_
        rw [hf l h]
        simp [jC, toC, h]
        omega
      have := ((g1.trans g2).trans g3).trans g4
      simpa [bS, jS, hj, hz, Nat.add_assoc] using this
  | fin e =>
    rw [hj] at s2 h2
    have s3 := s2.right
    have g2 := sim_e hl e (p := []) h2.1 s2.left (by have := h2.2; simp; omega)
    have g := g1.trans g2
    intro n
    have e1 : n + bS fo bl st = (n + 1) + ((asC bl.as).length + (code e).length) := by simp [bS, jS, hj]; omega
    have hst : stepM C (a + (asC bl.as).length + (code e).length) [wo (sb st bl.as) e] (sb st bl.as) = .ended (wo (sb st bl.as) e) := by
      unfold stepM; rw [s3.get]; rfl
    rw [e1]
    refine ⟨(g (n + 1)).1 ⟨⟨.halt, s3.get, ⟨_, _, rfl⟩, by simp, hl⟩, by rw [hst]; trivial⟩, ?_⟩
    rw [(g (n + 1)).2]
    unfold runM
    rw [hst]
    simp [addK, bS, jS, hj]
    omega
end J
set_option maxRecDepth 10000
namespace J
theorem SafeM.le {C : List Ins} : ∀ {n m a : Nat} {p s : List D}, SafeM C n a p s → m ≤ n → SafeM C m a p s
  | _, 0, a, p, s, h, hm => trivial
  | 0, m + 1, a, p, s, h, hm => by omega
  | n + 1, m + 1, a, p, s, h, hm => by
    obtain ⟨h1, h2⟩ := h
    refine ⟨h1, ?_⟩
    cases hs : stepM C a p s with
    | go a' p' s' => rw [hs] at h2; exact SafeM.le h2 (by omega)
    | ended x => trivial
    | bad => trivial
theorem runM_none {C : List Ins} : ∀ {n m a : Nat} {p s : List D}, runM C n a p s = none → m ≤ n → runM C m a p s = none
  | _, 0, a, p, s, h, hm => rfl
  | 0, m + 1, a, p, s, h, hm => by omega
  | n + 1, m + 1, a, p, s, h, hm => by
    rw [runM_succ] at h ⊢
    cases hs : stepM C a p s with
    | go a' p' s' =>
      rw [hs] at h
      simp only [Option.map_eq_none_iff] at h ⊢
      exact runM_none h (by omega)
    | ended x => rw [hs] at h; cases h
    | bad => rfl
theorem runM_less {C : List Ins} : ∀ {n m k a : Nat} {p s : List D} {x : D}, runM C n a p s = some (k, x) → m < k → runM C m a p s = none
  | _, 0, k, a, p, s, x, h, hm => rfl
  | 0, m + 1, k, a, p, s, x, h, hm => by cases h
  | n + 1, m + 1, k, a, p, s, x, h, hm => by
    rw [runM_succ] at h ⊢
    cases hs : stepM C a p s with
    | go a' p' s' =>
      rw [hs] at h
      simp only [Option.map_eq_none_iff, Option.map_eq_some_iff] at h ⊢
      obtain ⟨⟨k', y⟩, h1, h2⟩ := h
      simp at h2
      exact runM_less h1 (by omega)
    | ended x =>
      rw [hs] at h
      simp at h
      omega
    | bad => rfl
def stN (p : Prg) (fo : Nat → Option Nat) : Nat → Nat → List D → Nat
  | 0, _, _ => 0
  | n + 1, b, st => match p.bl[b]? with
    | none => 0
    | some bl => bS (fo b) bl st + match stepB bl st with
      | .go b' st' => stN p fo n b' st'
      | .ended _ => 0
theorem stN_succ (p : Prg) (fo : Nat → Option Nat) (n b : Nat) (st : List D) {bl : Blk} (hb : p.bl[b]? = some bl) : stN p fo (n + 1) b st = bS (fo b) bl st + match stepB bl st with
      | .go b' st' => stN p fo n b' st'
      | .ended _ => 0 := by
  rw [stN, hb]
/-- a code in which each block stands at its address -/
def Laid (C : List Ins) (p : Prg) (fo : Nat → Option Nat) (ad : Nat → Nat) : Prop := ∀ b bl, p.bl[b]? = some bl → Seg C (ad b) (bC (fo b) ad bl) ∧ ∀ l, fo b = some l → ad l = ad b + (bC (fo b) ad bl).length
theorem sim_run {C : List Ins} {p : Prg} {fo : Nat → Option Nat} {ad : Nat → Nat} (L : Laid C p fo ad) : ∀ (n b : Nat) (st : List D), SafeRun p n b st → SafeM C (stN p fo n b st) (ad b) [] st ∧ runM C (stN p fo n b st) (ad b) [] st = (runP p n b st).map fun r => (stN p fo n b st, r.2)
  | 0, b, st, hs => ⟨trivial, rfl⟩
  | n + 1, b, st, hs => by
    obtain ⟨⟨bl, hb, hsb⟩, hrest⟩ := hs
    obtain ⟨sg, hf⟩ := L b bl hb
    have h := sim_b hsb sg hf
    have hst : stepP p b st = stepB bl st := by unfold stepP; rw [hb]
    rw [stN_succ p fo n b st hb]
    unfold runP
    rw [hst] at hrest ⊢
    cases ho : stepB bl st with
    | ended x =>
      rw [ho] at h
      have := h 0
      simpa using this
    | go b' st' =>
      rw [ho] at h hrest
      simp only at h hrest ⊢
      obtain ⟨i1, i2⟩ := sim_run L n b' st' hrest
      have := h (stN p fo n b' st')
      rw [Nat.add_comm (bS (fo b) bl st)]
      refine ⟨this.1 i1, ?_⟩
      rw [this.2, i2]
      cases runP p n b' st' with
      | none => rfl
      | some r => simp [addK]
/-! ### the addresses -/
theorem blC_len (p : Prg) (fo : Nat → Option Nat) (ad : Nat → Nat) (b : Nat) : (blC p fo ad b).length = lenB p fo b := by
  unfold blC lenB
  cases p.bl[b]? with
  | none => rfl
  | some bl => exact bC_n _ _ _ _
theorem adS_sum (p : Prg) (fo : Nat → Option Nat) (ad : Nat → Nat) (o : List Nat) : (adS p fo o).2 = (o.flatMap (blC p fo ad)).length := by
  unfold adS
  suffices h : ∀ (o : List Nat) (q : List Nat × Nat), (o.foldl (fun q b => (q.1.set b q.2, q.2 + lenB p fo b)) q).2 = q.2 + (o.flatMap (blC p fo ad)).length by
    rw [h]; simp
  intro o
  induction o with
  | nil => intro q; simp
  | cons b r ih =>
    intro q
    rw [List.foldl_cons, ih, List.flatMap_cons, List.length_append, blC_len]
    simp only
    omega
theorem adS_ne (p : Prg) (fo : Nat → Option Nat) (b : Nat) : ∀ (o : List Nat) (q : List Nat × Nat), b ∉ o → (o.foldl (fun q b => (q.1.set b q.2, q.2 + lenB p fo b)) q).1[b]? = q.1[b]?
  | [], q, _ => rfl
  | c :: r, q, h => by
    rw [List.foldl_cons, adS_ne p fo b r _ (fun hh => h (List.mem_cons_of_mem _ hh))]
    simp only
    rw [List.getElem?_set_ne (fun e => h (by simp [e]))]
theorem adP_at {p : Prg} {fo : Nat → Option Nat} {o1 o2 : List Nat} {b : Nat} (hb : b < p.bl.length) (hn : b ∉ o2) : adr (adP p fo (o1 ++ b :: o2)) b = (adS p fo o1).2 := by
  unfold adr adP
  have e : adS p fo (o1 ++ b :: o2) = o2.foldl (fun q b => (q.1.set b q.2, q.2 + lenB p fo b)) ((adS p fo o1).1.set b (adS p fo o1).2, (adS p fo o1).2 + lenB p fo b) := by simp [adS]
  rw [e, adS_ne p fo b o2 _ hn]
  have : b < (adS p fo o1).1.length := by rw [adS_len]; exact hb
  simp [this]
theorem laid_seg {p : Prg} {fo : Nat → Option Nat} {order : List Nat} (hnd : order.Nodup) (hall : ∀ b, b < p.bl.length → b ∈ order) {b : Nat} {bl : Blk} (hb : p.bl[b]? = some bl) : Seg (codeP p fo order) (adr (adP p fo order) b) (bC (fo b) (adr (adP p fo order)) bl) := by
  have hlt : b < p.bl.length := (List.getElem?_eq_some_iff.1 hb).1
  obtain ⟨o1, o2, e⟩ := List.append_of_mem (hall b hlt)
  have hn : b ∉ o2 := by
    rw [e] at hnd
    have := (List.nodup_append.1 hnd).2.1
    exact (List.nodup_cons.1 this).1
  have hB : blC p fo (adr (adP p fo order)) b = bC (fo b) (adr (adP p fo order)) bl := by unfold blC; rw [hb]
  refine ⟨o1.flatMap (blC p fo (adr (adP p fo order))), o2.flatMap (blC p fo (adr (adP p fo order))), ?_, ?_⟩
  · unfold codeP
    conv => lhs; rw [show (order.flatMap (blC p fo (adr (adP p fo order)))) = (o1 ++ b :: o2).flatMap (blC p fo (adr (adP p fo order))) by rw [← e]]
    rw [List.flatMap_append, List.flatMap_cons, hB]
  · rw [← adS_sum]
    conv => rhs; rw [e]
    rw [adP_at hlt hn]
theorem laid_own (p : Prg) : Laid (codeP p nof (List.range p.bl.length)) p nof (adr (adP p nof (List.range p.bl.length))) := fun b bl hb =>
  ⟨laid_seg List.nodup_range (fun b h => List.mem_range.2 h) hb, fun l h => by cases h⟩
theorem adr_0 {p : Prg} {fo : Nat → Option Nat} (hp : 1 ≤ p.bl.length) : adr (adP p fo (List.range p.bl.length)) 0 = 0 := by
  obtain ⟨n, hn⟩ : ∃ n, p.bl.length = n + 1 := ⟨p.bl.length - 1, by omega⟩
  have e : List.range p.bl.length = [] ++ 0 :: (List.range n).map Nat.succ := by rw [hn, List.range_succ_eq_map]; rfl
  rw [e, adP_at hp (by simp)]
  rfl
end J
set_option maxRecDepth 10000
/-! Heights. -/
namespace J
def Ins.pt : Ins → Nat
  | .push _ => 1
  | .load _ => 1
  | .keep _ => 0
  | .d1 _ => 1
  | .d2 _ => 1
  | .d3 _ => 1
  | .jump _ => 0
  | .unl _ => 0
  | .halt => 0
def ways (a : Nat) : Ins → List Nat
  | .halt => []
  | .jump l => [l]
  | .unl l => [a + 1, l]
  | _ => [a + 1]
theorem ways_len (a : Nat) (i : Ins) : (ways a i).length ≤ 2 := by cases i <;> simp [ways]
structure WH (C : List Ins) (Hs : Nat → Nat) : Prop where
  z : Hs 0 = 0
  ne : 0 < C.length
  at_ : ∀ a i, C[a]? = some i → i.tk ≤ Hs a ∧ ∀ w ∈ ways a i, w < C.length ∧ Hs w + i.tk = Hs a + i.pt
abbrev HR := List (Option Nat)
def outs (a h : Nat) (i : Ins) : List (Nat × Nat) := (ways a i).map fun w => (w, h - i.tk + i.pt)
def hstep (C : List Ins) (R : HR) (edge : List (Nat × Nat)) : Option (HR × List (Nat × Nat)) := match edge.getLast? with
  | none => none
  | some q => match R[q.1]?, C[q.1]? with
    | some (some _), some _ => some (R, edge.dropLast)
    | some none, some i => some (R.set q.1 (some q.2), edge.dropLast ++ outs q.1 q.2 i)
    | _, _ => none
def hfin (C : List Ins) : Nat → HR → List (Nat × Nat) → Option HR
  | _, R, [] => some R
  | 0, R, _ :: _ => none
  | n + 1, R, q :: r => match hstep C R (q :: r) with
    | some (R', e') => hfin C n R' e'
    | none => none
def vis (R : HR) (a : Nat) : Prop := ∃ h, R[a]? = some (some h)
structure HInv (C : List Ins) (Hs : Nat → Nat) (R : HR) (edge : List (Nat × Nat)) : Prop where
  len : R.length = C.length
  ed : ∀ q ∈ edge, q.1 < C.length ∧ q.2 = Hs q.1
  rs : ∀ a h, R[a]? = some (some h) → h = Hs a
  zero : vis R 0 ∨ (0, 0) ∈ edge
  cl : ∀ a i, vis R a → C[a]? = some i → ∀ w ∈ ways a i, vis R w ∨ ∃ h, (w, h) ∈ edge
theorem mem_last {α : Type} {l : List α} {x q : α} (h : l.getLast? = some q) (hx : x ∈ l) : x ∈ l.dropLast ∨ x = q := by
  have hne : l ≠ [] := by intro e; rw [e] at h; cases h
  have e := List.dropLast_concat_getLast hne
  rw [List.getLast?_eq_some_getLast hne] at h
  rw [← e] at hx
  rcases List.mem_append.1 hx with hx | hx
  · exact .inl hx
  · right; simp at hx h; rw [hx, h]
theorem last_mem {α : Type} {l : List α} {q : α} (h : l.getLast? = some q) : q ∈ l := List.mem_of_getLast? h
def nones (R : HR) : Nat := R.count none
theorem nones_set : ∀ (R : HR) (a h : Nat), R[a]? = some none → nones (R.set a (some h)) + 1 = nones R
  | [], a, h, e => by simp at e
  | x :: r, 0, h, e => by
    simp at e
    subst e
    simp [nones]
  | x :: r, a + 1, h, e => by
    have := nones_set r a h (by simpa using e)
    simp only [nones, List.set_cons_succ, List.count_cons] at this ⊢
    omega
theorem hstep_ok {C : List Ins} {Hs : Nat → Nat} (wh : WH C Hs) {R : HR} {edge : List (Nat × Nat)} (iv : HInv C Hs R edge) {q : Nat × Nat} (hq : edge.getLast? = some q) : ∃ i, C[q.1]? = some i ∧ i.tk ≤ q.2 ∧ ((∃ h, R[q.1]? = some (some h) ∧ h = q.2 ∧ hstep C R edge = some (R, edge.dropLast) ∧ HInv C Hs R edge.dropLast) ∨ (R[q.1]? = some none ∧ hstep C R edge = some (R.set q.1 (some q.2), edge.dropLast ++ outs q.1 q.2 i) ∧ HInv C Hs (R.set q.1 (some q.2)) (edge.dropLast ++ outs q.1 q.2 i))) := by
  obtain ⟨h1, h2⟩ := iv.ed q (last_mem hq)
  obtain ⟨i, hi⟩ : ∃ i, C[q.1]? = some i := ⟨_, List.getElem?_eq_getElem h1⟩
  obtain ⟨w1, w2⟩ := wh.at_ q.1 i hi
  refine ⟨i, hi, by omega, ?_⟩
  have hR : q.1 < R.length := by rw [iv.len]; exact h1
  cases hr : R[q.1] with
  | some h =>
    have hr' : R[q.1]? = some (some h) := by rw [List.getElem?_eq_getElem hR, hr]
    refine .inl ⟨h, hr', by rw [iv.rs _ _ hr', h2], by unfold hstep; simp only [hq, hr', hi], ⟨iv.len, fun x hx => iv.ed x (List.dropLast_subset _ hx), iv.rs, ?_, ?_⟩⟩
    · rcases iv.zero with z | z
      · exact .inl z
      · rcases mem_last hq z with z | z
        · exact .inr z
        · left; rw [← z] at hr'; exact ⟨_, hr'⟩
    · intro a j hv hj w hw
      rcases iv.cl a j hv hj w hw with z | ⟨h', z⟩
      · exact .inl z
      · rcases mem_last hq z with z | z
        · exact .inr ⟨h', z⟩
        · left; rw [← z] at hr'; exact ⟨_, hr'⟩
  | none =>
    have hr' : R[q.1]? = some none := by rw [List.getElem?_eq_getElem hR, hr]
    have vq : vis (R.set q.1 (some q.2)) q.1 := ⟨q.2, by simp [hR]⟩
    have vo : ∀ a, vis R a → vis (R.set q.1 (some q.2)) a := by
      rintro a ⟨h, e⟩
      by_cases hne : q.1 = a
      · rw [← hne]; exact vq
      · exact ⟨h, by rw [List.getElem?_set_ne hne]; exact e⟩
    refine .inr ⟨hr', by unfold hstep; simp only [hq, hr', hi], ⟨by simpa using iv.len, ?_, ?_, ?_, ?_⟩⟩
    · intro x hx
      rcases List.mem_append.1 hx with hx | hx
      · exact iv.ed x (List.dropLast_subset _ hx)
      · simp only [outs, List.mem_map] at hx
        obtain ⟨w, hw, rfl⟩ := hx
        obtain ⟨g1, g2⟩ := w2 w hw
        exact ⟨g1, by simp only; omega⟩
    · intro a h e
      by_cases hne : q.1 = a
      · subst hne
        simp [hR] at e
        omega
      · rw [List.getElem?_set_ne hne] at e
        exact iv.rs a h e
    · rcases iv.zero with z | z
      · exact .inl (vo 0 z)
      · rcases mem_last hq z with z | z
        · exact .inr (List.mem_append.2 (.inl z))
        · left; rw [show (0 : Nat) = q.1 by rw [← z]]; exact vq
    · intro a j hv hj w hw
      by_cases hne : q.1 = a
      · subst hne
        have : j = i := by rw [hi] at hj; cases hj; rfl
        subst this
        exact .inr ⟨_, List.mem_append.2 (.inr (List.mem_map.2 ⟨w, hw, rfl⟩))⟩
      · have hv' : vis R a := by
          obtain ⟨h, e⟩ := hv
          rw [List.getElem?_set_ne hne] at e
          exact ⟨h, e⟩
        rcases iv.cl a j hv' hj w hw with z | ⟨h', z⟩
        · exact .inl (vo w z)
        · rcases mem_last hq z with z | z
          · exact .inr ⟨h', List.mem_append.2 (.inl z)⟩
          · left; rw [show w = q.1 by rw [← z]]; exact vq
def mu (R : HR) (edge : List (Nat × Nat)) : Nat := 3 * nones R + edge.length
theorem hstep_mu {C : List Ins} {R R' : HR} {edge e' : List (Nat × Nat)} (h : hstep C R edge = some (R', e')) : mu R' e' < mu R edge := by
  unfold hstep at h
  split at h
  · cases h
  · rename_i q hq
    have hne : edge ≠ [] := by intro e; rw [e] at hq; cases hq
    have hlen : 0 < edge.length := List.length_pos_iff.2 hne
    split at h
    · cases h
      simp [mu]; omega
    · rename_i i hr hi
      cases h
      have := nones_set R q.1 q.2 hr
      have h2 := ways_len q.1 i
      simp [mu, outs]
      omega
    · cases h
theorem hfin_ex {C : List Ins} {Hs : Nat → Nat} (wh : WH C Hs) : ∀ (n : Nat) (R : HR) (edge : List (Nat × Nat)), mu R edge ≤ n → HInv C Hs R edge → ∃ RF, hfin C n R edge = some RF ∧ HInv C Hs RF []
  | n, R, [], hm, iv => ⟨R, by cases n <;> rfl, iv⟩
  | 0, R, q :: r, hm, iv => by simp [mu] at hm
  | n + 1, R, q :: r, hm, iv => by
    obtain ⟨x, hx⟩ : ∃ x, (q :: r).getLast? = some x := ⟨_, List.getLast?_eq_some_getLast (by simp)⟩
    obtain ⟨i, hi, ht, h | h⟩ := hstep_ok wh iv hx
    · obtain ⟨h', h1, h2, h3, h4⟩ := h
      have hmu := hstep_mu h3
      obtain ⟨RF, e1, e2⟩ := hfin_ex wh n _ _ (by omega) h4
      exact ⟨RF, by rw [hfin, h3]; exact e1, e2⟩
    · obtain ⟨h1, h3, h4⟩ := h
      have hmu := hstep_mu h3
      obtain ⟨RF, e1, e2⟩ := hfin_ex wh n _ _ (by omega) h4
      exact ⟨RF, by rw [hfin, h3]; exact e1, e2⟩
end J
set_option maxRecDepth 10000
namespace J
def oD : Option Nat → D
  | none => .none
  | some h => .i h
def hrD (R : HR) : List D := R.map oD
def EW (edge : List (Nat × Nat)) : List W := edge.map fun q => W.d (.t [.i q.1, .i q.2])
@[simp] theorem hrD_len (R : HR) : (hrD R).length = R.length := by simp [hrD]
@[simp] theorem EW_len (e : List (Nat × Nat)) : (EW e).length = e.length := by simp [EW]
theorem hrD_set (R : HR) (a h : Nat) : ((hrD R).map W.d).set a (.d (.i h)) = (hrD (R.set a (some h))).map W.d := by simp [hrD, List.map_set, oD]
theorem EW_app (a b : List (Nat × Nat)) : EW (a ++ b) = EW a ++ EW b := by simp [EW]
theorem goes_on_ok {c : List Ins} {a : Nat} {i : Ins} (hi : c[a]? = some i) : Pu 1 f_goes_on_to [.d (.t (cD c)), .d (.i a)] (.t (natD (ways a i))) := by
  refine pu (d := b_goes_on_to) rfl rfl fun j hj h => ?_
  have ha : a < c.length := (List.getElem?_eq_some_iff.1 hi).1
  have hga : c[a] = i := by rw [List.getElem?_eq_getElem ha] at hi; simpa using hi
  have hix : ixN (cD c).length (a : Int) = some a := ixN_nat _ _ (by simpa using ha)
  rw [cD_len] at hix
  have hgd : ∀ hh, (cD c)[a]'hh = i.d := fun hh => by simp [cD, hga]
  cases i <;> simp [b_goes_on_to, hix, ha, hgd, Ins.d, ways, natD]
theorem EW_last {edge : List (Nat × Nat)} {q : Nat × Nat} (h : edge.getLast? = some q) : (EW edge).getLast? = some (.d (.t [.i q.1, .i q.2])) ∧ (EW edge).dropLast = EW edge.dropLast := by
  simp [EW, h, List.map_dropLast]
theorem hfin_step {C : List Ins} {n : Nat} {R R' RF : HR} {edge e' : List (Nat × Nat)} (h : hstep C R edge = some (R', e')) (hn : hfin C n R edge = some RF) : ∃ n', hfin C n' R' e' = some RF := by
  cases edge with
  | nil => simp [hstep] at h
  | cons q r =>
    cases n with
    | zero => simp [hfin] at hn
    | succ n => rw [hfin, h] at hn; exact ⟨n, hn⟩
theorem heights_ok {C : List Ins} {Hs : Nat → Nat} (wh : WH C Hs) (hlen : C.length ≤ 30000) {RF : HR} (hf : hfin C (3 * C.length + 1) (List.replicate C.length none) [(0, 0)] = some RF) : Pu 6 f_heights_or_none [.d (.t (cD C))] (.t (hrD RF)) := by
  intro j hj h
  obtain ⟨j, rfl⟩ : ∃ i, j = i + 1 := ⟨j - 1, by omega⟩
  have := pw (f := f_heights_or_none) (ws := [.d (.t (cD C))]) (j := j) (h := h) (Q := fun q => q = (.d (.t (hrD RF)), h)) b_heights_or_none rfl rfl (by
    have e0 : ∀ (ρ : Env) (H : LH), compItems (turn (.n 6) ρ (evc (cx j) none) (ev (cx j) (.c .none))) ((cD C).map .d) [] H = some ((hrD (List.replicate C.length none)).map .d, H) := by
      intro ρ H
      have := comp_map (C := cx j) (e := .c .none) (i := 6) (ρ := ρ) (h := H) (g := W.d) (fun _ => .d .none) (xs := cD C) (by intro x hx; simp) (by simp; omega)
      rw [this]
      simp [-O1.nm, -O2.nm, -O3.nm, hrD, oD, cD]
      exact (List.map_const' (l := C) (b := W.d D.none))
    simp [-O1.nm, -O2.nm, -O3.nm, b_heights_or_none, e0]
    refine wp_while (fun m ρ H => ∃ R edge n K x3 x4 x5, ρ = [some (.d (.t (cD C))), some (.l h.length), some (.l (h.length + 1)), x3, x4, x5, none, none] ∧ H = h ++ ((hrD R).map .d :: EW edge :: K) ∧ HInv C Hs R edge ∧ (mu R edge = m ∧ m ≤ 3 * C.length + 1) ∧ hfin C n R edge = some RF) ?_ (3 * C.length + 1) _ _ _ ?_ ?_
    · rintro m ρ H ⟨R, edge, n, K, x3, x4, x5, rfl, rfl, iv, ⟨hm, hm2⟩, hn⟩
      have hRl := iv.len
      cases hq : edge.getLast? with
      | none =>
        have : edge = [] := List.getLast?_eq_none_iff.1 hq
        subst this
        have hRF : R = RF := by cases n <;> simpa [hfin] using hn
        subst hRF
        have l1 : R.length ≤ 16777216 := by omega
        refine ⟨(false, h ++ ((hrD R).map .d :: EW [] :: K)), by simp [-O1.nm, -O2.nm, -O3.nm, wc, EW], ?_⟩
        simp only [Bool.false_eq_true, if_false]
        simp [-O1.nm, -O2.nm, -O3.nm, l1]
      | some q =>
        have hne : edge ≠ [] := by intro e; rw [e] at hq; cases hq
        have hpos : 0 < edge.length := List.length_pos_iff.2 hne
        obtain ⟨i, hi, ht, hc⟩ := hstep_ok wh iv hq
        have ha : q.1 < C.length := (List.getElem?_eq_some_iff.1 hi).1
        have hga : C[q.1] = i := by rw [List.getElem?_eq_getElem ha] at hi; simpa using hi
        have hix : ixN (cD C).length (q.1 : Int) = some q.1 := ixN_nat _ _ (by simpa using ha)
        have hixR : ixN R.length (q.1 : Int) = some q.1 := ixN_nat _ _ (by omega)
        have haR : q.1 < R.length := by omega
        rw [cD_len] at hix
        have hgd : ∀ hh, (cD C)[q.1]'hh = i.d := fun hh => by simp [-O1.nm, -O2.nm, -O3.nm, cD, hga]
        have tk := takes_ok i j (by omega)
        have gt := goes_on_ok hi j (by omega)
        obtain ⟨w1, w2⟩ := EW_last hq
        refine ⟨(true, h ++ ((hrD R).map .d :: EW edge :: K)), by simp [-O1.nm, -O2.nm, -O3.nm, wc, hpos], ?_⟩
        simp only [if_true]
        have ci : (q.1 : Int) < C.length := by omega
        have cj : ¬ ((q.2 : Int) < i.tk) := by omega
        rcases hc with ⟨h', h1, h2, h3, h4⟩ | ⟨h1, h3, h4⟩
        · have hmu := hstep_mu h3
          have hr : ∀ hh, (hrD R)[q.1]'hh = .i q.2 := fun hh => by
            simp [-O1.nm, -O2.nm, -O3.nm, hrD]
            rw [List.getElem?_eq_getElem haR] at h1
            simp at h1
            rw [h1, h2]; rfl
          simp [-O1.nm, -O2.nm, -O3.nm, l0_heights_or_none, w1, w2, hix, hixR, ha, haR, hgd, tk, ci, cj, hr]
          obtain ⟨n', hn'⟩ := hfin_step h3 hn
          exact ⟨_, by omega, R, edge.dropLast, ⟨rfl, rfl⟩, h4, ⟨rfl, by omega⟩, n', hn'⟩
        · have hmu := hstep_mu h3
          obtain ⟨n', hn'⟩ := hfin_step h3 hn
          have hr : ∀ hh, (hrD R)[q.1]'hh = .none := fun hh => by
            simp [-O1.nm, -O2.nm, -O3.nm, hrD]
            rw [List.getElem?_eq_getElem haR] at h1
            simp at h1
            rw [h1]; rfl
          have hel : edge.length ≤ 90001 := by unfold mu at hm; omega
          have le1 : edge.length ≤ 16777216 := by omega
          have le2 : edge.length - 1 ≤ 16777216 := by omega
          have le3 : edge.length - 1 + 2 ≤ 16777216 := by omega
          have le4 : edge.length + 1 ≤ 16777216 := by omega
          have le5 : edge.length ≤ 16777215 := by omega
          have n0 : ¬ ((q.2 : Int) < 0) := by omega
          have okI : ∀ a (x : D), okIn a (.d x) = true := fun a x => rfl
          cases i with
          | push x =>
            simp only [Ins.tk, Ins.pt, ways, natD, List.map_cons, List.map_nil] at tk gt ht cj
            simp [-O1.nm, -O2.nm, -O3.nm, Ins.d] at tk gt hgd
            simp [-O1.nm, -O2.nm, -O3.nm, l0_heights_or_none, w1, w2, hix, hixR, ha, haR, hgd, tk, gt, ci, cj, hr, Ins.d, Tb, compItems, okAll, okI, n0, le1, le2, le3, le4, le5]
            refine ⟨_, by omega, _, _, ⟨hrD_set _ _ _, ?_⟩, h4, ⟨rfl, by omega⟩, n', hn'⟩
            rw [EW_app]
            simp [-O1.nm, -O2.nm, -O3.nm, EW, outs, ways, Ins.tk, Ins.pt]
            try omega
          | load x =>
            simp only [Ins.tk, Ins.pt, ways, natD, List.map_cons, List.map_nil] at tk gt ht cj
            simp [-O1.nm, -O2.nm, -O3.nm, Ins.d] at tk gt hgd
            simp [-O1.nm, -O2.nm, -O3.nm, l0_heights_or_none, w1, w2, hix, hixR, ha, haR, hgd, tk, gt, ci, cj, hr, Ins.d, Tb, compItems, okAll, okI, n0, le1, le2, le3, le4, le5]
            refine ⟨_, by omega, _, _, ⟨hrD_set _ _ _, ?_⟩, h4, ⟨rfl, by omega⟩, n', hn'⟩
            rw [EW_app]
            simp [-O1.nm, -O2.nm, -O3.nm, EW, outs, ways, Ins.tk, Ins.pt]
            try omega
          | keep x =>
            simp only [Ins.tk, Ins.pt, ways, natD, List.map_cons, List.map_nil] at tk gt ht cj
            simp [-O1.nm, -O2.nm, -O3.nm, Ins.d] at tk gt hgd
            have ck : ¬ ((q.2 : Int) < 1) := by omega
            simp [-O1.nm, -O2.nm, -O3.nm, l0_heights_or_none, w1, w2, hix, hixR, ha, haR, hgd, tk, gt, ci, ck, hr, Ins.d, Tb, compItems, okAll, okI, n0, le1, le2, le3, le4, le5]
            refine ⟨_, by omega, _, _, ⟨hrD_set _ _ _, ?_⟩, h4, ⟨rfl, by omega⟩, n', hn'⟩
            rw [EW_app]
            simp [-O1.nm, -O2.nm, -O3.nm, EW, outs, ways, Ins.tk, Ins.pt]
            try omega
          | d1 o =>
            simp only [Ins.tk, Ins.pt, ways, natD, List.map_cons, List.map_nil] at tk gt ht cj
            simp [-O1.nm, -O2.nm, -O3.nm, Ins.d] at tk gt hgd
            have ck : ¬ ((q.2 : Int) < 1) := by omega
            simp [-O1.nm, -O2.nm, -O3.nm, l0_heights_or_none, w1, w2, hix, hixR, ha, haR, hgd, tk, gt, ci, ck, hr, Ins.d, Tb, compItems, okAll, okI, n0, le1, le2, le3, le4, le5]
            refine ⟨_, by omega, _, _, ⟨hrD_set _ _ _, ?_⟩, h4, ⟨rfl, by omega⟩, n', hn'⟩
            rw [EW_app]
            simp [-O1.nm, -O2.nm, -O3.nm, EW, outs, ways, Ins.tk, Ins.pt]
            try omega
          | d2 o =>
            simp only [Ins.tk, Ins.pt, ways, natD, List.map_cons, List.map_nil] at tk gt ht cj
            simp [-O1.nm, -O2.nm, -O3.nm, Ins.d] at tk gt hgd
            have ck : ¬ ((q.2 : Int) < 2) := by omega
            simp [-O1.nm, -O2.nm, -O3.nm, l0_heights_or_none, w1, w2, hix, hixR, ha, haR, hgd, tk, gt, ci, ck, hr, Ins.d, Tb, compItems, okAll, okI, n0, le1, le2, le3, le4, le5]
            refine ⟨_, by omega, _, _, ⟨hrD_set _ _ _, ?_⟩, h4, ⟨rfl, by omega⟩, n', hn'⟩
            rw [EW_app]
            simp [-O1.nm, -O2.nm, -O3.nm, EW, outs, ways, Ins.tk, Ins.pt]
            try omega
          | d3 o =>
            simp only [Ins.tk, Ins.pt, ways, natD, List.map_cons, List.map_nil] at tk gt ht cj
            simp [-O1.nm, -O2.nm, -O3.nm, Ins.d] at tk gt hgd
            have ck : ¬ ((q.2 : Int) < 3) := by omega
            simp [-O1.nm, -O2.nm, -O3.nm, l0_heights_or_none, w1, w2, hix, hixR, ha, haR, hgd, tk, gt, ci, ck, hr, Ins.d, Tb, compItems, okAll, okI, n0, le1, le2, le3, le4, le5]
            refine ⟨_, by omega, _, _, ⟨hrD_set _ _ _, ?_⟩, h4, ⟨rfl, by omega⟩, n', hn'⟩
            rw [EW_app]
            simp [-O1.nm, -O2.nm, -O3.nm, EW, outs, ways, Ins.tk, Ins.pt]
            try omega
          | jump l =>
            simp only [Ins.tk, Ins.pt, ways, natD, List.map_cons, List.map_nil] at tk gt ht cj
            simp [-O1.nm, -O2.nm, -O3.nm, Ins.d] at tk gt hgd
            simp [-O1.nm, -O2.nm, -O3.nm, l0_heights_or_none, w1, w2, hix, hixR, ha, haR, hgd, tk, gt, ci, cj, hr, Ins.d, Tb, compItems, okAll, okI, n0, le1, le2, le3, le4, le5]
            refine ⟨_, by omega, _, _, ⟨hrD_set _ _ _, ?_⟩, h4, ⟨rfl, by omega⟩, n', hn'⟩
            rw [EW_app]
            simp [-O1.nm, -O2.nm, -O3.nm, EW, outs, ways, Ins.tk, Ins.pt]
            try omega
          | unl l =>
            simp only [Ins.tk, Ins.pt, ways, natD, List.map_cons, List.map_nil] at tk gt ht cj
            simp [-O1.nm, -O2.nm, -O3.nm, Ins.d] at tk gt hgd
            have ck : ¬ ((q.2 : Int) < 1) := by omega
            simp [-O1.nm, -O2.nm, -O3.nm, l0_heights_or_none, w1, w2, hix, hixR, ha, haR, hgd, tk, gt, ci, ck, hr, Ins.d, Tb, compItems, okAll, okI, n0, le1, le2, le3, le4, le5]
            refine ⟨_, by omega, _, _, ⟨hrD_set _ _ _, ?_⟩, h4, ⟨rfl, by omega⟩, n', hn'⟩
            rw [EW_app]
            simp [-O1.nm, -O2.nm, -O3.nm, EW, outs, ways, Ins.tk, Ins.pt]
            try omega
          | halt =>
            simp only [Ins.tk, Ins.pt, ways, natD, List.map_cons, List.map_nil] at tk gt ht cj
            simp [-O1.nm, -O2.nm, -O3.nm, Ins.d] at tk gt hgd
            have ck : ¬ ((q.2 : Int) < 1) := by omega
            simp [-O1.nm, -O2.nm, -O3.nm, l0_heights_or_none, w1, w2, hix, hixR, ha, haR, hgd, tk, gt, ci, ck, hr, Ins.d, Tb, compItems, okAll, okI, n0, le1, le2, le3, le4, le5]
            refine ⟨_, by omega, _, _, ⟨hrD_set _ _ _, ?_⟩, h4, ⟨rfl, by omega⟩, n', hn'⟩
            rw [EW_app]
            simp [-O1.nm, -O2.nm, -O3.nm, EW, outs, ways, Ins.tk, Ins.pt]
            try omega
    · show _ < 100000
      omega
    · refine ⟨_, [(0, 0)], _, [], none, none, none, rfl, rfl, ⟨by simp, ?_, ?_, ?_, ?_⟩, ?_, hf⟩
      · intro q hq
        simp at hq
        subst hq
        exact ⟨wh.ne, wh.z.symm⟩
      · intro a h e
        rw [List.getElem?_replicate] at e
        split at e <;> simp at e
      · right; simp
      · rintro a i ⟨h, e⟩
        rw [List.getElem?_replicate] at e
        split at e <;> simp at e
      · simp [-O1.nm, -O2.nm, -O3.nm, mu, nones])
  obtain ⟨q, e1, rfl⟩ := this
  exact e1
end J
set_option maxRecDepth 10000
namespace J
theorem compF {α : Type} {C : Ctx} {e cnd : E} {i : Nat} {ρ : Env} {h : LH} {g : α → W} (b : α → Bool) (r : α → W) : ∀ {xs : List α} (acc : List W), (∀ x ∈ xs, evc C (some cnd) ((wipe ρ [i]).set i (some (g x))) h = some (b x, h) ∧ (b x = true → ev C e ((wipe ρ [i]).set i (some (g x))) h = some (r x, h))) → acc.length + xs.length ≤ 16777216 → compItems (turn (.n i) ρ (evc C (some cnd)) (ev C e)) (xs.map g) acc h = some (acc ++ (xs.filter b).map r, h)
  | [], acc, _, _ => by simp [compItems]
  | x :: xs, acc, hx, hl => by
    obtain ⟨h1, h2⟩ := hx x (by simp)
    simp only [List.length_cons] at hl
    have hacc : acc.length < 16777216 := by omega
    simp only [List.map_cons, compItems]
    cases hb : b x with
    | true =>
      rw [hb] at h1
      have : turn (.n i) ρ (evc C (some cnd)) (ev C e) (g x) acc h = some (acc ++ [r x], h) := by
        unfold turn
        simp only [setT, Tg.slots, h1, h2 hb, SZ_eq, hacc, if_true]
      rw [this]
      dsimp only
      rw [compF b r (acc ++ [r x]) (fun y hy => hx y (List.mem_cons_of_mem _ hy)) (by simp; omega)]
      simp [List.filter_cons, hb]
    | false =>
      rw [hb] at h1
      have : turn (.n i) ρ (evc C (some cnd)) (ev C e) (g x) acc h = some (acc, h) := by
        unfold turn
        simp only [setT, Tg.slots, h1]
      rw [this]
      dsimp only
      rw [compF b r acc (fun y hy => hx y (List.mem_cons_of_mem _ hy)) (by omega)]
      simp [List.filter_cons, hb]
theorem comp_live {α : Type} {f : W → List W → LH → Option (List W × LH)} {g r : α → W} {h : LH} {a : Nat} {xs : List α} (ha : h[a]? = some (xs.map g)) (hf : ∀ x ∈ xs, ∀ acc, acc.length < 16777216 → f (g x) acc h = some (acc ++ [r x], h)) (hl : xs.length ≤ 16777216) : ∀ n, xs.length < n → compLive f a n 0 [] h = some (xs.map r, h) := by
  have key : ∀ (post pre : List α), xs = pre ++ post → ∀ n, post.length < n → compLive f a n pre.length (pre.map r) h = some (xs.map r, h) := by
    intro post
    induction post with
    | nil =>
      intro pre e n hn
      obtain ⟨n, rfl⟩ : ∃ m, n = m + 1 := ⟨n - 1, by simp at hn; omega⟩
      unfold compLive
      have : (xs.map g)[pre.length]? = none := by rw [e]; simp
      simp only [ha, this]
      rw [e]; simp
    | cons x post ih =>
      intro pre e n hn
      obtain ⟨n, rfl⟩ : ∃ m, n = m + 1 := ⟨n - 1, by simp at hn; omega⟩
      unfold compLive
      have : (xs.map g)[pre.length]? = some (g x) := by rw [e]; simp
      have hlen : pre.length < xs.length := by rw [e]; simp
      simp only [ha, this]
      rw [hf x (by rw [e]; simp) _ (by simp; omega)]
      have := ih (pre ++ [x]) (by simpa using e) n (by simp at hn; omega)
      simpa using this
  intro n hn
  have := key xs [] rfl n hn
  simpa using this
def Ins.ab : Ins → Bool
  | .load _ => true
  | .keep _ => true
  | _ => false
def Ins.vOk (M : Nat) : Ins → Prop
  | .load v => v < M
  | .keep v => v < M
  | _ => True
theorem variables_there {C : List Ins} {M : Nat} (hv : ∀ i ∈ C, i.vOk M) (hl : C.length ≤ 1000000) : Pu 1 f_are_variables_there [.d (.t (cD C)), .d (.i M)] (.b true) := by
  refine pu (d := b_are_variables_there) rfl rfl fun j hj h => ?_
  have e1 := compF (C := cx j) (e := .chain .le .lt (.c (.i 0)) (.ix (.var 2) (.c (.i 1))) (.var 1)) (cnd := .cmp .isin (.ix (.var 2) (.c (.i 0))) (.glob 10)) (i := 2) (ρ := [some (.d (.t (cD C))), some (.d (.i M)), none]) (h := h) (g := W.d ∘ Ins.d) Ins.ab (fun _ => .d (.b true)) (xs := C) [] (by
    intro i hi
    have := hv i hi
    cases i <;> simp [Ins.d, wipe, Ins.ab, G, c_ABOUT_VARIABLES, Ins.vOk] at this ⊢
    all_goals first | omega | skip) (by simp; omega)
  have hm : (cD C).map W.d = C.map (W.d ∘ Ins.d) := by simp [cD]
  rw [← hm] at e1
  simp -implicitDefEqProofs [b_are_variables_there, e1]
theorem check_code_ok {C : List Ins} {Hs : Nat → Nat} {M : Nat} (wh : WH C Hs) (hlen : C.length ≤ 30000) (hv : ∀ i ∈ C, i.vOk M) {RF : HR} (hf : hfin C (3 * C.length + 1) (List.replicate C.length none) [(0, 0)] = some RF) : Pu 7 f_check_code [.d (.t (cD C)), .d (.i M)] .none := by
  refine pu (d := b_check_code) rfl rfl fun j hj h => ?_
  have e1 := variables_there hv (by omega) j (by omega) h
  have e2 := heights_ok wh hlen hf j (by omega) h
  have := wh.ne
  have hne : ¬ ((C.length : Int) = 0) := by omega
  have hne2 : C ≠ [] := by intro e; rw [e] at this; simp at this
  simp [b_check_code, e1, e2, hne, hne2]
theorem ix18_10 : ixN 18 10 = some 10 := rfl
theorem ix18_11 : ixN 18 11 = some 11 := rfl
theorem ix18_12 : ixN 18 12 = some 12 := rfl
theorem ix18_13 : ixN 18 13 = some 13 := rfl
theorem ix18_14 : ixN 18 14 = some 14 := rfl
theorem law_arity1 (o : O1) : Pu 2 f_law_arity [.d (.s o.nm)] (.i 1) := by
  refine pu (d := b_law_arity) rfl rfl fun j hj h => ?_
  have e1 : call JP j f_law_names [] h = _ := (pu (k := 0) (d := b_law_names) rfl rfl fun j hj h => by simp [b_law_names]; rfl) j (by omega) h
  have e2 : call JP j f_law_arities [] h = _ := (pu (k := 0) (d := b_law_arities) rfl rfl fun j hj h => by simp [b_law_arities]; rfl) j (by omega) h
  cases o <;> simp [b_law_arity, e1, e2, List.findIdx?_cons, ix18_10, ix18_11, ix18_12, ix18_13, ix18_14]
theorem law_arity2 (o : O2) : Pu 2 f_law_arity [.d (.s o.nm)] (.i 2) := by
  refine pu (d := b_law_arity) rfl rfl fun j hj h => ?_
  have e1 : call JP j f_law_names [] h = _ := (pu (k := 0) (d := b_law_names) rfl rfl fun j hj h => by simp [b_law_names]; rfl) j (by omega) h
  have e2 : call JP j f_law_arities [] h = _ := (pu (k := 0) (d := b_law_arities) rfl rfl fun j hj h => by simp [b_law_arities]; rfl) j (by omega) h
  cases o <;> simp [b_law_arity, e1, e2, List.findIdx?_cons, ix18_10, ix18_11, ix18_12, ix18_13, ix18_14]
theorem law_arity3 (o : O3) : Pu 2 f_law_arity [.d (.s o.nm)] (.i 3) := by
  refine pu (d := b_law_arity) rfl rfl fun j hj h => ?_
  have e1 : call JP j f_law_names [] h = _ := (pu (k := 0) (d := b_law_names) rfl rfl fun j hj h => by simp [b_law_names]; rfl) j (by omega) h
  have e2 : call JP j f_law_arities [] h = _ := (pu (k := 0) (d := b_law_arities) rfl rfl fun j hj h => by simp [b_law_arities]; rfl) j (by omega) h
  cases o <;> simp [b_law_arity, e1, e2, List.findIdx?_cons, ix18_10, ix18_11, ix18_12, ix18_13, ix18_14]
theorem law_effect_ok (i : Ins) : Pu 4 f_law_effect [.d i.d] (.t [.i i.tk, .i i.pt]) := by
  refine pu (d := b_law_effect) rfl rfl fun j hj h => ?_
  cases i with
  | d1 o => have := law_arity1 o j (by omega) h; simp [-O1.nm, -O2.nm, -O3.nm, b_law_effect, Ins.d, this, Ins.tk, Ins.pt]
  | d2 o => have := law_arity2 o j (by omega) h; simp [-O1.nm, -O2.nm, -O3.nm, b_law_effect, Ins.d, this, Ins.tk, Ins.pt]
  | d3 o => have := law_arity3 o j (by omega) h; simp [-O1.nm, -O2.nm, -O3.nm, b_law_effect, Ins.d, this, Ins.tk, Ins.pt]
  | _ => simp [-O1.nm, -O2.nm, -O3.nm, b_law_effect, Ins.d, Ins.tk, Ins.pt]
theorem law_goes_on_ok {c : List Ins} {a : Nat} {i : Ins} (hi : c[a]? = some i) : ∀ j, 1 ≤ j → ∀ h, call JP j f_law_goes_on [.d (.t (cD c)), .d (.i a)] h = some (.l h.length, h ++ [natl (ways a i)]) := by
  intro j hj h
  obtain ⟨j, rfl⟩ : ∃ i, j = i + 1 := ⟨j - 1, by omega⟩
  refine pl (d := b_law_goes_on) rfl rfl ?_
  have ha : a < c.length := (List.getElem?_eq_some_iff.1 hi).1
  have hga : c[a] = i := by rw [List.getElem?_eq_getElem ha] at hi; simpa using hi
  have hix : ixN (cD c).length (a : Int) = some a := ixN_nat _ _ (by simpa using ha)
  rw [cD_len] at hix
  have hgd : ∀ hh, (cD c)[a]'hh = i.d := fun hh => by simp [-O1.nm, -O2.nm, -O3.nm, cD, hga]
  cases i <;> simp [-O1.nm, -O2.nm, -O3.nm, b_law_goes_on, hix, ha, hgd, Ins.d, ways, natl, fin]
theorem law_heights_ok {C : List Ins} {Hs : Nat → Nat} (wh : WH C Hs) (hlen : C.length ≤ 30000) {RF : HR} (hf : hfin C (3 * C.length + 1) (List.replicate C.length none) [(0, 0)] = some RF) : ∀ j, 6 ≤ j → ∀ h, call JP j f_law_heights [.d (.t (cD C))] h = some (.l h.length, h ++ [(hrD RF).map .d]) := by
  intro j hj h
  obtain ⟨j, rfl⟩ : ∃ i, j = i + 1 := ⟨j - 1, by omega⟩
  have := pw (f := f_law_heights) (ws := [.d (.t (cD C))]) (j := j) (h := h) (Q := fun q => q = (.l h.length, h ++ [(hrD RF).map .d])) b_law_heights rfl rfl (by
    have e0 : ∀ (ρ : Env) (H : LH), compItems (turn (.n 8) ρ (evc (cx j) none) (ev (cx j) (.c .none))) ((cD C).map .d) [] H = some ((hrD (List.replicate C.length none)).map .d, H) := by
      intro ρ H
      have := comp_map (C := cx j) (e := .c .none) (i := 8) (ρ := ρ) (h := H) (g := W.d) (fun _ => .d .none) (xs := cD C) (by intro x hx; simp) (by simp; omega)
      rw [this]
      simp [-O1.nm, -O2.nm, -O3.nm, hrD, oD, cD]
      exact (List.map_const' (l := C) (b := W.d D.none))
    have hm4 := mul_ii (h ++ [(hrD (List.replicate C.length none)).map W.d, [.d (.t [.i 0, .i 0])]]) 4 C.length (by omega)
    have hr := range_nat (4 * C.length + 4)
    have hR := inR_nat (4 * C.length + 4) (by omega)
    simp at hr hR
    simp -implicitDefEqProofs [-O1.nm, -O2.nm, -O3.nm, b_law_heights, e0, hm4, hR, hr]
    refine wp_items (g := fun (k : Nat) => W.d (.i k)) (fun pre ρ H => ∃ R edge n K x3 x4 x5 x6 x7 i, ρ = [some (.d (.t (cD C))), some (.l h.length), some (.l (h.length + (i + 1))), x3, x4, x5, x6, x7, none, none] ∧ H = h ++ ((hrD R).map .d :: K) ∧ K[i]? = some (EW edge) ∧ HInv C Hs R edge ∧ mu R edge + pre.length ≤ 3 * C.length + 1 ∧ hfin C n R edge = some RF) [] ?_ ?_ ?_
    · refine ⟨_, [(0, 0)], _, [[.d (.t [.i 0, .i 0])]], none, none, none, none, none, 0, rfl, rfl, rfl, ⟨by simp, ?_, ?_, ?_, ?_⟩, ?_, hf⟩
      · intro q hq
        simp at hq
        subst hq
        exact ⟨wh.ne, wh.z.symm⟩
      · intro a h e
        rw [List.getElem?_replicate] at e
        split at e <;> simp at e
      · right; simp
      · rintro a i ⟨h, e⟩
        rw [List.getElem?_replicate] at e
        split at e <;> simp at e
      · simp [-O1.nm, -O2.nm, -O3.nm, mu, nones]
    · rintro pre k post e ρ H ⟨R, edge, n, K, x3, x4, x5, x6, x7, t, rfl, rfl, ht, iv, hm, hn⟩
      have hRl := iv.len
      have htl : t < K.length := (List.getElem?_eq_some_iff.1 ht).1
      cases hq : edge.getLast? with
      | none =>
        have : edge = [] := List.getLast?_eq_none_iff.1 hq
        subst this
        have hRF : R = RF := by cases n <;> simpa [hfin] using hn
        subst hRF
        have hf0 := fin_own (h := h) (K := (hrD R).map W.d :: K) (i := 0) (zs := hrD R) rfl
        simp at hf0
        simp [-O1.nm, -O2.nm, -O3.nm, fb, l0_law_heights, ht, EW, hf0]
      | some q =>
        have hne : edge ≠ [] := by intro e; rw [e] at hq; cases hq
        have hpos : 0 < edge.length := List.length_pos_iff.2 hne
        have hpos' : ¬ ((edge.length : Int) = 0) := by omega
        obtain ⟨i, hi, hti, hc⟩ := hstep_ok wh iv hq
        have ha : q.1 < C.length := (List.getElem?_eq_some_iff.1 hi).1
        have hga : C[q.1] = i := by rw [List.getElem?_eq_getElem ha] at hi; simpa using hi
        have hix : ixN (cD C).length (q.1 : Int) = some q.1 := ixN_nat _ _ (by simpa using ha)
        have hixR : ixN R.length (q.1 : Int) = some q.1 := ixN_nat _ _ (by omega)
        have haR : q.1 < R.length := by omega
        rw [cD_len] at hix
        have hgd : ∀ hh, (cD C)[q.1]'hh = i.d := fun hh => by simp [-O1.nm, -O2.nm, -O3.nm, cD, hga]
        have ef := law_effect_ok i j (by omega)
        have gt := law_goes_on_ok hi j (by omega)
        obtain ⟨w1, w2⟩ := EW_last hq
        have ci : ¬ ((C.length : Int) ≤ q.1) := by omega
        have cj : ¬ ((q.2 : Int) < i.tk) := by omega
        have n0 : ¬ ((q.1 : Int) < 0) := by omega
        have gK : ∀ (x : List W) (X : LH), (K.set t x ++ X)[t]? = some x := fun x X => by
          rw [List.getElem?_append_left (by simpa using htl)]; simp [-O1.nm, -O2.nm, -O3.nm, htl]
        have gK0 : ∀ (x : List W), (K.set t x)[t]? = some x := fun x => by simp [-O1.nm, -O2.nm, -O3.nm, htl]
        rcases hc with ⟨h', h1, h2, h3, h4⟩ | ⟨h1, h3, h4⟩
        · have hmu := hstep_mu h3
          obtain ⟨n', hn'⟩ := hfin_step h3 hn
          have hr : ∀ hh, (hrD R)[q.1]'hh = .i q.2 := fun hh => by
            simp [-O1.nm, -O2.nm, -O3.nm, hrD]
            rw [List.getElem?_eq_getElem haR] at h1
            simp at h1
            rw [h1, h2]; rfl
          simp [-O1.nm, -O2.nm, -O3.nm, fb, l0_law_heights, ht, hpos', hne, w1, w2, hix, hixR, ha, haR, hgd, ef, ci, cj, n0, hr, gK0]
          exact ⟨R, edge.dropLast, n', _, _, _, _, _, _, _, ⟨rfl, rfl, rfl, rfl, rfl, rfl⟩, ⟨rfl, rfl⟩, gK0 _, h4, by omega, hn'⟩
        · have hmu := hstep_mu h3
          obtain ⟨n', hn'⟩ := hfin_step h3 hn
          have hr : ∀ hh, (hrD R)[q.1]'hh = .none := fun hh => by
            simp [-O1.nm, -O2.nm, -O3.nm, hrD]
            rw [List.getElem?_eq_getElem haR] at h1
            simp at h1
            rw [h1]; rfl
          have hel : edge.length ≤ 90001 := by unfold mu at hm; omega
          have ecomp : ∀ (r0 r1 r2 r3 r4 r8 r9 : Option W) (H : LH) (l : Nat), H[l]? = some (natl (ways q.1 i)) → compLive (turn (.n 9) [r0, r1, r2, r3, r4, some (.d (.i q.2)), some (.d (.i i.tk)), some (.d (.i i.pt)), r8, r9] (evc (cx j) none) (ev (cx j) (.tup [.var 9, .bin .add (.bin .sub (.var 5) (.var 6)) (.var 7)]))) l ((ways q.1 i).length + 1) 0 [] H = some (EW (outs q.1 q.2 i), H) := by
            intro r0 r1 r2 r3 r4 r8 r9 H l hl
            have := comp_live (f := turn (.n 9) [r0, r1, r2, r3, r4, some (.d (.i q.2)), some (.d (.i i.tk)), some (.d (.i i.pt)), r8, r9] (evc (cx j) none) (ev (cx j) (.tup [.var 9, .bin .add (.bin .sub (.var 5) (.var 6)) (.var 7)]))) (h := H) (a := l) (g := fun (v : Nat) => W.d (.i v)) (r := fun v => .d (.t [.i v, .i ((q.2 - i.tk + i.pt : Nat) : Int)])) (xs := ways q.1 i) hl (by
              intro x hx acc hacc
              have c0 : (q.2 : Int) - i.tk + i.pt = ((q.2 - i.tk + i.pt : Nat) : Int) := by omega
              simp -implicitDefEqProofs [-O1.nm, -O2.nm, -O3.nm, c0, hacc]) (by have := ways_len q.1 i; omega) _ (Nat.lt_succ_self _)
            rw [this]
            simp [-O1.nm, -O2.nm, -O3.nm, EW, outs]
          have hKl : ∀ (x : List W) (y : List W), (K.set t x ++ [y])[K.length]? = some y := fun x y => by
            rw [List.getElem?_append_right (by simp)]; simp
          have ways2 := ways_len q.1 i
          have le1 : edge.length - 1 + (ways q.1 i).length ≤ 16777216 := by omega
          have le2 : edge.length - 1 + (outs q.1 q.2 i).length ≤ 16777216 := by simp [-O1.nm, -O2.nm, -O3.nm, outs]; omega
          simp [-O1.nm, -O2.nm, -O3.nm, fb, l0_law_heights, ht, hpos', hne, w1, w2, hix, hixR, ha, haR, hgd, ef, ci, cj, n0, hr, gK, gK0, gt, ecomp, hKl, le1, le2]
          refine ⟨R.set q.1 (some q.2), edge.dropLast ++ outs q.1 q.2 i, n', _, _, _, _, _, _, _, ⟨rfl, rfl, rfl, rfl, rfl, rfl⟩, ⟨hrD_set _ _ _, rfl⟩, ?_, h4, by omega, hn'⟩
          rw [List.getElem?_append_right (by simp)]
          simp [-O1.nm, -O2.nm, -O3.nm, EW_app]
    · rintro ρ H ⟨R, edge, n, K, x3, x4, x5, x6, x7, t, rfl, rfl, ht, iv, hm, hn⟩
      simp at hm
      omega)
  obtain ⟨q, e1, rfl⟩ := this
  exact e1
end J
set_option maxRecDepth 10000
/-! The codes of programs are sound. -/
namespace J
abbrev IH := Ins × Nat
def zE : Nat → Exp → List IH
  | h, .know x => [(.push x, h)]
  | h, .of v => [(.load v, h)]
  | h, .o1 o a => zE h a ++ [(.d1 o, h + 1)]
  | h, .o2 o a b => zE h a ++ (zE (h + 1) b ++ [(.d2 o, h + 2)])
  | h, .o3 o a b c => zE h a ++ (zE (h + 1) b ++ (zE (h + 2) c ++ [(.d3 o, h + 3)]))
theorem zE_fst : ∀ (e : Exp) (h : Nat), (zE h e).map Prod.fst = code e
  | .know x, h => rfl
  | .of v, h => rfl
  | .o1 o a, h => by simp [zE, code, zE_fst a]
  | .o2 o a b, h => by simp [zE, code, zE_fst a, zE_fst b]
  | .o3 o a b c, h => by simp [zE, code, zE_fst a, zE_fst b, zE_fst c]
theorem zE_len (e : Exp) (h : Nat) : (zE h e).length = (code e).length := by rw [← zE_fst e h]; simp
def SegZ (Z : List IH) (a : Nat) (xs : List IH) : Prop := ∃ pre post, Z = pre ++ (xs ++ post) ∧ pre.length = a
theorem SegZ.left {C : List IH} {a : Nat} {xs ys : List IH} (h : SegZ C a (xs ++ ys)) : SegZ C a xs := by
  obtain ⟨pre, post, e, l⟩ := h
  exact ⟨pre, ys ++ post, by rw [e, List.append_assoc], l⟩
theorem SegZ.right {C : List IH} {a : Nat} {xs ys : List IH} (h : SegZ C a (xs ++ ys)) : SegZ C (a + xs.length) ys := by
  obtain ⟨pre, post, e, l⟩ := h
  exact ⟨pre ++ xs, post, by rw [e]; simp, by simp [l]⟩
theorem SegZ.get {C : List IH} {a : Nat} {x : IH} {xs : List IH} (h : SegZ C a (x :: xs)) : C[a]? = some x := by
  obtain ⟨pre, post, e, l⟩ := h
  rw [e, List.getElem?_append_right (by omega), l]
  simp
def Nx (Z : List IH) (a h : Nat) : Prop := ∃ i, Z[a]? = some (i, h)
def GoodZ (Z : List IH) (a : Nat) : Prop := ∀ i h, Z[a]? = some (i, h) → i.tk ≤ h ∧ ∀ w ∈ ways a i, Nx Z w (h - i.tk + i.pt)
def Goods (Z : List IH) (a n : Nat) : Prop := ∀ k, k < n → GoodZ Z (a + k)
theorem Goods.app {Z : List IH} {a n m : Nat} (h1 : Goods Z a n) (h2 : Goods Z (a + n) m) : Goods Z a (n + m) := fun k hk => by
  by_cases h : k < n
  · exact h1 k h
  · have := h2 (k - n) (by omega)
    rwa [show a + n + (k - n) = a + k by omega] at this
theorem Goods.one {Z : List IH} {a : Nat} {i : Ins} {h : Nat} (hz : Z[a]? = some (i, h)) (ht : i.tk ≤ h) (hw : ∀ w ∈ ways a i, Nx Z w (h - i.tk + i.pt)) : Goods Z a 1 := fun k hk => by
  have : k = 0 := by omega
  subst this
  intro i' h' e
  rw [Nat.add_zero, hz] at e
  cases e
  exact ⟨ht, hw⟩
theorem gE {Z : List IH} : ∀ (e : Exp) {a h : Nat}, SegZ Z a (zE h e) → Nx Z (a + (code e).length) (h + 1) → Goods Z a (code e).length ∧ Nx Z a h
  | .know x, a, h, sg, nx => ⟨Goods.one sg.get (by simp [Ins.tk]) (by intro w hw; simp [ways] at hw; subst hw; exact nx), ⟨_, sg.get⟩⟩
  | .of v, a, h, sg, nx => ⟨Goods.one sg.get (by simp [Ins.tk]) (by intro w hw; simp [ways] at hw; subst hw; exact nx), ⟨_, sg.get⟩⟩
  | .o1 o x, a, h, sg, nx => by
    have s2 := sg.right
    rw [zE_len] at s2
    have g1 := gE x sg.left ⟨_, s2.get⟩
    have g2 : Goods Z (a + (code x).length) 1 := Goods.one s2.get (by simp [Ins.tk]) (by
      intro w hw
      simp [ways] at hw
      subst hw
      simp only [Ins.tk, Ins.pt]
      simp only [code, List.length_append, List.length_singleton, ← Nat.add_assoc] at nx
      exact nx)
    simp only [code, List.length_append, List.length_singleton]
    exact ⟨g1.1.app g2, g1.2⟩
  | .o2 o x y, a, h, sg, nx => by
    have s2 := sg.right
    rw [zE_len] at s2
    have s3 := s2.right
    rw [zE_len] at s3
    have g2 := gE y s2.left ⟨_, s3.get⟩
    have g1 := gE x sg.left g2.2
    have g3 : Goods Z (a + (code x).length + (code y).length) 1 := Goods.one s3.get (by simp [Ins.tk]) (by
      intro w hw
      simp [ways] at hw
      subst hw
      simp only [Ins.tk, Ins.pt]
      simp only [code, List.length_append, List.length_singleton, ← Nat.add_assoc] at nx
      exact nx)
    simp only [code, List.length_append, List.length_singleton]
    exact ⟨g1.1.app (g2.1.app g3), g1.2⟩
  | .o3 o x y z, a, h, sg, nx => by
    have s2 := sg.right
    rw [zE_len] at s2
    have s3 := s2.right
    rw [zE_len] at s3
    have s4 := s3.right
    rw [zE_len] at s4
    have g3 := gE z s3.left ⟨_, s4.get⟩
    have g2 := gE y s2.left g3.2
    have g1 := gE x sg.left g2.2
    have g4 : Goods Z (a + (code x).length + (code y).length + (code z).length) 1 := Goods.one s4.get (by simp [Ins.tk]) (by
      intro w hw
      simp [ways] at hw
      subst hw
      simp only [Ins.tk, Ins.pt]
      simp only [code, List.length_append, List.length_singleton, ← Nat.add_assoc] at nx
      exact nx)
    simp only [code, List.length_append, List.length_singleton]
    exact ⟨g1.1.app (g2.1.app (g3.1.app g4)), g1.2⟩
def zAs (as : List (Nat × Exp)) : List IH := as.flatMap fun a => zE 0 a.2 ++ [(.keep a.1, 1)]
theorem zAs_fst (as : List (Nat × Exp)) : (zAs as).map Prod.fst = asC as := by
  induction as with
  | nil => rfl
  | cons a r ih => simp only [zAs, asC, List.flatMap_cons, List.map_append, zE_fst] at ih ⊢; rw [ih]; rfl
theorem zAs_len (as : List (Nat × Exp)) : (zAs as).length = (asC as).length := by rw [← zAs_fst]; simp
theorem gAs {Z : List IH} : ∀ (as : List (Nat × Exp)) {a : Nat}, SegZ Z a (zAs as) → Nx Z (a + (asC as).length) 0 → Goods Z a (asC as).length ∧ Nx Z a 0
  | [], a, sg, nx => ⟨fun k hk => by simp [asC] at hk, by simpa [asC] using nx⟩
  | x :: r, a, sg, nx => by
    have hz : zAs (x :: r) = zE 0 x.2 ++ ([(.keep x.1, 1)] ++ zAs r) := by simp [zAs]
    have ha : (asC (x :: r)).length = (code x.2).length + (1 + (asC r).length) := by simp [asC]; omega
    rw [hz] at sg
    rw [ha] at nx ⊢
    have s2 := sg.right
    rw [zE_len] at s2
    have s3 := s2.right
    have g3 := gAs r (a := a + (code x.2).length + 1) s3 (by rwa [show a + ((code x.2).length + (1 + (asC r).length)) = a + (code x.2).length + 1 + (asC r).length by omega] at nx)
    have g2 : Goods Z (a + (code x.2).length) 1 := Goods.one s2.get (by simp [Ins.tk]) (by
      intro w hw
      simp [ways] at hw
      subst hw
      exact g3.2)
    have g1 := gE x.2 sg.left ⟨_, s2.get⟩
    exact ⟨g1.1.app (g2.app g3.1), g1.2⟩
def zJ (ad : Nat → Nat) : Jmp → List IH
  | .goto l => [(.jump (ad l), 0)]
  | .test e l m => zE 0 e ++ ([(.unl (ad m), 1)] ++ [(.jump (ad l), 0)])
  | .fin e => zE 0 e ++ [(.halt, 1)]
def zB (ad : Nat → Nat) (b : Blk) : List IH := zAs b.as ++ zJ ad b.j
theorem zB_fst (ad : Nat → Nat) (b : Blk) : (zB ad b).map Prod.fst = bC none ad b := by
  unfold zB bC
  rw [List.map_append, zAs_fst]
  cases b.j with
  | goto l => simp [zJ, jC, toC]
  | test e l m => simp [zJ, jC, toC, zE_fst]
  | fin e => simp [zJ, jC, zE_fst]
theorem zE_head (e : Exp) : ∀ h, ∃ i r, zE h e = (i, h) :: r := by
  induction e with
  | know x => intro h; exact ⟨_, _, rfl⟩
  | of v => intro h; exact ⟨_, _, rfl⟩
  | o1 o a iha => intro h; obtain ⟨i, r, e⟩ := iha h; exact ⟨i, _, by simp only [zE]; rw [e]; rfl⟩
  | o2 o a b iha ihb => intro h; obtain ⟨i, r, e⟩ := iha h; exact ⟨i, _, by simp only [zE]; rw [e]; rfl⟩
  | o3 o a b c iha ihb ihc => intro h; obtain ⟨i, r, e⟩ := iha h; exact ⟨i, _, by simp only [zE]; rw [e]; rfl⟩
theorem zJ_head (ad : Nat → Nat) (j : Jmp) : ∃ i r, zJ ad j = (i, 0) :: r := by
  cases j with
  | goto l => exact ⟨_, _, rfl⟩
  | test e l m => obtain ⟨i, r, h⟩ := zE_head e 0; exact ⟨i, _, by simp only [zJ]; rw [h]; rfl⟩
  | fin e => obtain ⟨i, r, h⟩ := zE_head e 0; exact ⟨i, _, by simp only [zJ]; rw [h]; rfl⟩
theorem zB_head (ad : Nat → Nat) (b : Blk) : ∃ i r, zB ad b = (i, 0) :: r := by
  unfold zB
  cases b.as with
  | nil => exact zJ_head ad b.j
  | cons x r => obtain ⟨i, r', h⟩ := zE_head x.2 0; exact ⟨i, _, by simp only [zAs, List.flatMap_cons]; rw [h]; rfl⟩
theorem gB {Z : List IH} {ad : Nat → Nat} {b : Blk} {a M size : Nat} (sg : SegZ Z a (zB ad b)) (ho : b.j.Ok M size) (hx : ∀ l, l < size → Nx Z (ad l) 0) : Goods Z a (bC none ad b).length := by
  have s2 := sg.right
  rw [zAs_len] at s2
  obtain ⟨i0, r0, h0⟩ := zJ_head ad b.j
  have nx0 : Nx Z (a + (asC b.as).length) 0 := ⟨i0, by rw [h0] at s2; exact s2.get⟩
  have g1 := gAs b.as sg.left nx0
  have hlen : (bC none ad b).length = (asC b.as).length + (jC none ad b.j).length := by simp [bC]
  rw [hlen]
  refine g1.1.app ?_
  cases hj : b.j with
  | goto l =>
    rw [hj] at s2 ho
    refine Goods.one s2.get (by simp [Ins.tk]) ?_
    intro w hw
    simp [ways] at hw
    subst hw
    exact hx l ho
  | test e l m =>
    rw [hj] at s2 ho
    have s3 := s2.right
    rw [zE_len] at s3
    have s4 := s3.right
    have g2 := gE e s2.left ⟨_, s3.get⟩
    have g3 : Goods Z (a + (asC b.as).length + (code e).length) 1 := Goods.one s3.get (by simp [Ins.tk]) (by
      intro w hw
      simp [ways] at hw
      rcases hw with rfl | rfl
      · exact ⟨_, s4.get⟩
      · exact hx m ho.2.2)
    have g4 : Goods Z (a + (asC b.as).length + (code e).length + 1) 1 := Goods.one s4.get (by simp [Ins.tk]) (by
      intro w hw
      simp [ways] at hw
      subst hw
      exact hx l ho.2.1)
    have : (jC none ad (.test e l m)).length = (code e).length + (1 + 1) := by simp [jC, toC]
    rw [this]
    exact g2.1.app (g3.app g4)
  | fin e =>
    rw [hj] at s2 ho
    have s3 := s2.right
    rw [zE_len] at s3
    have g2 := gE e s2.left ⟨_, s3.get⟩
    have g3 : Goods Z (a + (asC b.as).length + (code e).length) 1 := Goods.one s3.get (by simp [Ins.tk]) (by
      intro w hw
      simp [ways] at hw)
    have : (jC none ad (.fin e)).length = (code e).length + 1 := by simp [jC]
    rw [this]
    exact g2.1.app g3
end J
set_option maxRecDepth 10000
namespace J
def zbl (p : Prg) (ad : Nat → Nat) (b : Nat) : List IH := match p.bl[b]? with
  | some bl => zB ad bl
  | none => []
def zP (p : Prg) (order : List Nat) : List IH := order.flatMap (zbl p (adr (adP p nof order)))
theorem zbl_fst (p : Prg) (ad : Nat → Nat) (b : Nat) : (zbl p ad b).map Prod.fst = blC p nof ad b := by
  unfold zbl blC
  cases p.bl[b]? with
  | none => rfl
  | some bl => exact zB_fst ad bl
theorem zP_fst (p : Prg) (order : List Nat) : (zP p order).map Prod.fst = codeP p nof order := by
  unfold zP codeP
  rw [List.map_flatMap]
  congr 1
  funext b
  exact zbl_fst p _ b
theorem flat_at {α β : Type} (f : α → List β) : ∀ (o : List α) (a : Nat), a < (o.flatMap f).length → ∃ o1 b o2 k, o = o1 ++ b :: o2 ∧ a = (o1.flatMap f).length + k ∧ k < (f b).length
  | [], a, h => by simp at h
  | b :: r, a, h => by
    by_cases ha : a < (f b).length
    · exact ⟨[], b, r, a, rfl, by simp, ha⟩
    · simp only [List.flatMap_cons, List.length_append] at h
      obtain ⟨o1, c, o2, k, e1, e2, e3⟩ := flat_at f r (a - (f b).length) (by omega)
      exact ⟨b :: o1, c, o2, k, by rw [e1]; rfl, by simp only [List.flatMap_cons, List.length_append]; omega, e3⟩
theorem zP_seg {p : Prg} {order o1 o2 : List Nat} {b : Nat} (e : order = o1 ++ b :: o2) (hlt : b < p.bl.length) (hn : b ∉ o2) : SegZ (zP p order) (adr (adP p nof order) b) (zbl p (adr (adP p nof order)) b) := by
  have hsum : ∀ o : List Nat, (o.flatMap (zbl p (adr (adP p nof order)))).length = (adS p nof o).2 := by
    intro o
    rw [adS_sum p nof (adr (adP p nof order))]
    have : (o.flatMap (zbl p (adr (adP p nof order)))).map Prod.fst = o.flatMap (blC p nof (adr (adP p nof order))) := by
      rw [List.map_flatMap]
      congr 1
      funext b
      exact zbl_fst p _ b
    rw [← this]; simp
  refine ⟨o1.flatMap (zbl p (adr (adP p nof order))), o2.flatMap (zbl p (adr (adP p nof order))), ?_, ?_⟩
  · unfold zP
    conv => lhs; rw [show order.flatMap (zbl p (adr (adP p nof order))) = (o1 ++ b :: o2).flatMap (zbl p (adr (adP p nof order))) by rw [← e]]
    rw [List.flatMap_append, List.flatMap_cons]
  · rw [hsum]
    conv => rhs; rw [e]
    rw [adP_at hlt hn]
def HsP (p : Prg) (order : List Nat) (a : Nat) : Nat := (((zP p order)[a]?).map Prod.snd).getD 0
theorem wh_own {p : Prg} (ok : p.Ok) : WH (codeP p nof (List.range p.bl.length)) (HsP p (List.range p.bl.length)) := by
  have hne := ok.ne
  generalize ho : List.range p.bl.length = order
  have hmem : ∀ b, b ∈ order ↔ b < p.bl.length := fun b => by rw [← ho]; exact List.mem_range
  have hnd : order.Nodup := by rw [← ho]; exact List.nodup_range
  have hn2 : ∀ {o1 o2 : List Nat} {b : Nat}, order = o1 ++ b :: o2 → b ∉ o2 := by
    intro o1 o2 b e
    rw [e] at hnd
    exact (List.nodup_cons.1 (List.nodup_append.1 hnd).2.1).1
  have seg : ∀ b bl, p.bl[b]? = some bl → SegZ (zP p order) (adr (adP p nof order) b) (zB (adr (adP p nof order)) bl) := by
    intro b bl hb
    have hlt : b < p.bl.length := (List.getElem?_eq_some_iff.1 hb).1
    obtain ⟨o1, o2, e⟩ := List.append_of_mem ((hmem b).2 hlt)
    have := zP_seg e hlt (hn2 e)
    rwa [show zbl p (adr (adP p nof order)) b = zB (adr (adP p nof order)) bl by unfold zbl; rw [hb]] at this
  have nx : ∀ l, l < p.bl.length → Nx (zP p order) (adr (adP p nof order) l) 0 := by
    intro l hl
    have sg := seg l p.bl[l] (List.getElem?_eq_getElem hl)
    obtain ⟨i, r, h⟩ := zB_head (adr (adP p nof order)) p.bl[l]
    rw [h] at sg
    exact ⟨i, sg.get⟩
  have good : ∀ a, GoodZ (zP p order) a := by
    intro a i h e
    have ha : a < (zP p order).length := (List.getElem?_eq_some_iff.1 e).1
    obtain ⟨o1, b, o2, k, e1, e2, e3⟩ := flat_at _ order a ha
    have hlt : b < p.bl.length := (hmem b).1 (by rw [e1]; simp)
    have hbl := List.getElem?_eq_getElem hlt
    have sg := zP_seg e1 hlt (hn2 e1)
    have g := gB (seg b _ hbl) (ok.bl _ (List.mem_of_getElem? hbl)).2.2 nx
    have hz : zbl p (adr (adP p nof order)) b = zB (adr (adP p nof order)) p.bl[b] := by unfold zbl; rw [hbl]
    have hpos : adr (adP p nof order) b = (o1.flatMap (zbl p (adr (adP p nof order)))).length := by
      have h2 : (adS p nof o1).2 = (o1.flatMap (zbl p (adr (adP p nof order)))).length := by
        rw [adS_sum p nof (adr (adP p nof order))]
        have : (o1.flatMap (zbl p (adr (adP p nof order)))).map Prod.fst = o1.flatMap (blC p nof (adr (adP p nof order))) := by
          rw [List.map_flatMap]
          congr 1
          funext b
          exact zbl_fst p _ b
        rw [← this]; simp
      rw [← h2]
      conv => lhs; rw [e1]
      exact adP_at hlt (hn2 e1)
    have hk : k < (bC none (adr (adP p nof order)) p.bl[b]).length := by
      rw [hz] at e3
      have := zB_fst (adr (adP p nof order)) p.bl[b]
      rw [← this]; simpa using e3
    have := g k hk
    rw [hpos, ← e2] at this
    exact this i h e
  have hfst := zP_fst p order
  refine ⟨?_, ?_, ?_⟩
  · have h0 := nx 0 (by omega)
    have hz : adr (adP p nof order) 0 = 0 := by rw [← ho]; exact adr_0 hne
    rw [hz] at h0
    obtain ⟨i, e⟩ := h0
    unfold HsP
    rw [e]; rfl
  · have h0 := nx 0 (by omega)
    obtain ⟨i, e⟩ := h0
    have : adr (adP p nof order) 0 < (zP p order).length := (List.getElem?_eq_some_iff.1 e).1
    rw [← hfst]
    simp
    omega
  · intro a i hi
    rw [← hfst] at hi
    simp only [List.getElem?_map, Option.map_eq_some_iff] at hi
    obtain ⟨⟨i', h⟩, e, rfl⟩ := hi
    have hH : HsP p order a = h := by unfold HsP; rw [e]; rfl
    obtain ⟨g1, g2⟩ := good a i' h e
    rw [hH]
    refine ⟨g1, fun w hw => ?_⟩
    obtain ⟨j, ej⟩ := g2 w hw
    refine ⟨?_, ?_⟩
    · rw [← hfst]
      have := (List.getElem?_eq_some_iff.1 ej).1
      simpa using this
    · unfold HsP
      rw [ej]
      simp only [Option.map_some, Option.getD_some]
      have : i'.tk ≤ h := g1
      omega
/-! ### what can be come to -/
def Clo (C : List Ins) (V : Nat → Prop) : Prop := ∀ a i, V a → C[a]? = some i → ∀ w ∈ ways a i, V w
theorem cE {C : List Ins} {V : Nat → Prop} (cl : Clo C V) : ∀ (e : Exp) {a : Nat}, Seg C a (code e) → V a → V (a + (code e).length)
  | .know x, a, sg, v => cl a _ v sg.get (a + 1) (by simp [ways])
  | .of x, a, sg, v => cl a _ v sg.get (a + 1) (by simp [ways])
  | .o1 o x, a, sg, v => by
    have h1 := cE cl x sg.left v
    have h2 := cl _ _ h1 sg.right.get _ (List.mem_singleton.2 rfl)
    simpa [code, ← Nat.add_assoc] using h2
  | .o2 o x y, a, sg, v => by
    have h1 := cE cl x sg.left v
    have h2 := cE cl y sg.right.left h1
    have h3 := cl _ _ h2 sg.right.right.get _ (List.mem_singleton.2 rfl)
    simpa [code, ← Nat.add_assoc] using h3
  | .o3 o x y z, a, sg, v => by
    have h1 := cE cl x sg.left v
    have h2 := cE cl y sg.right.left h1
    have h3 := cE cl z sg.right.right.left h2
    have h4 := cl _ _ h3 sg.right.right.right.get _ (List.mem_singleton.2 rfl)
    simpa [code, ← Nat.add_assoc] using h4
theorem cAs {C : List Ins} {V : Nat → Prop} (cl : Clo C V) : ∀ (as : List (Nat × Exp)) {a : Nat}, Seg C a (asC as) → V a → V (a + (asC as).length)
  | [], a, sg, v => v
  | x :: r, a, sg, v => by
    have ha : asC (x :: r) = code x.2 ++ ([.keep x.1] ++ asC r) := by simp [asC]
    rw [ha] at sg ⊢
    have h1 := cE cl x.2 sg.left v
    have h2 := cl _ _ h1 sg.right.left.get _ (List.mem_singleton.2 rfl)
    have h3 := cAs cl r sg.right.right h2
    rw [show a + (code x.2 ++ ([Ins.keep x.1] ++ asC r)).length = a + (code x.2).length + 1 + (asC r).length by simp; omega]
    exact h3
def suc : Jmp → List Nat
  | .goto l => [l]
  | .test _ l m => [l, m]
  | .fin _ => []
theorem cB {C : List Ins} {V : Nat → Prop} (cl : Clo C V) {ad : Nat → Nat} {b : Blk} {a : Nat} (sg : Seg C a (bC none ad b)) (v : V a) : ∀ l ∈ suc b.j, V (ad l) := by
  have h1 := cAs cl b.as sg.left v
  have s2 := sg.right
  intro l hl
  cases hj : b.j with
  | goto m =>
    rw [hj] at s2 hl
    simp [suc] at hl
    subst hl
    exact cl _ _ h1 s2.get _ (List.mem_singleton.2 rfl)
  | test e m n =>
    rw [hj] at s2 hl
    have h2 := cE cl e s2.left h1
    have s3 := s2.right
    have h3 := cl _ _ h2 s3.get
    simp [suc] at hl
    rcases hl with rfl | rfl
    · have h4 := h3 (a + (asC b.as).length + (code e).length + 1) (by simp [ways])
      exact cl _ _ h4 s3.right.get _ (List.mem_singleton.2 rfl)
    · exact h3 _ (by simp [ways])
  | fin e => rw [hj] at hl; simp [suc] at hl
end J
set_option maxRecDepth 10000
namespace J
theorem in_L {h : LH} {x : D} {a : Nat} {L : List D} (ha : h[a]? = some (L.map .d)) (hd : J.depth x ≤ 64) : cmpop h .isin (.d x) (.l a) = some (L.any fun z => eqv z x) ∧ cmpop h .nin (.d x) (.l a) = some (!(L.any fun z => eqv z x)) := by
  have : inW h (.d x) (.l a) = some (L.any fun z => eqv z x) := by
    unfold inW
    have : items h (.l a) = some (L.map .d) := ha
    rw [this]
    dsimp only
    rw [allD_map']
    simp [hd]
  exact ⟨this, by show (inW h (.d x) (.l a)).map (!·) = _; rw [this]; rfl⟩
theorem natD_any (fs : List Nat) (b : Nat) : ((natD fs).any fun z => eqv z (.i b)) = decide (b ∈ fs) := by
  induction fs with
  | nil => simp [natD]
  | cons f r ih =>
    simp only [natD, List.map_cons, List.any_cons] at ih ⊢
    rw [ih]
    simp
    by_cases h : f = b
    · subst h; simp
    · have h1 : ¬ ((f : Int) = b) := by omega
      have h2 : ¬ (b = f) := fun e => h e.symm
      simp [h1, h2]
theorem goes_to_ok (jp : Jmp) : Pu 1 f_goes_to [.d jp.d] (.t (natD (suc jp))) := by
  cases jp with
  | goto l => exact goes_to_goto l
  | test e l m => exact goes_to_test e l m
  | fin e => exact goes_to_fin e
theorem jok_suc {M size : Nat} {jp : Jmp} (h : jp.Ok M size) : ∀ l ∈ suc jp, l < size := by
  intro l hl
  cases jp with
  | goto m => simp [suc] at hl; subst hl; exact h
  | test e m n => simp [suc] at hl; rcases hl with rfl | rfl; exact h.2.1; exact h.2.2
  | fin e => simp [suc] at hl
theorem found_ok {p : Prg} (ok : p.Ok) (P : Nat → Prop) (h0 : P 0) (hs : ∀ b bl, p.bl[b]? = some bl → P b → ∀ l ∈ suc bl.j, P l) (j : Nat) (hj : 2 ≤ j) (h : LH) : ∃ q, call JP j f_found_from [.d p.d, .d (.i 0)] h = some q ∧ ∃ fs : List Nat, q = (.d (.t (natD fs)), h) ∧ fs.length ≤ 1000 ∧ ∀ b ∈ fs, b < p.bl.length ∧ P b := by
  obtain ⟨j, rfl⟩ : ∃ i, j = i + 1 := ⟨j - 1, by omega⟩
  refine pw b_found_from rfl rfl ?_
  have hn := ok.ne
  have hsm := ok.small
  simp [b_found_from]
  have bound : ∀ fs : List Nat, fs.Nodup → (∀ b ∈ fs, b < p.bl.length ∧ P b) → fs.length ≤ p.bl.length := by
    intro fs h1 h2
    have := List.Nodup.length_le_of_subset h1 (l₂ := List.range p.bl.length) (fun b hb => List.mem_range.2 (h2 b hb).1)
    simpa using this
  refine wp_while (fun m ρ H => ∃ (fs : List Nat) (at_ : Nat) (x4 : Option W), ρ = [some (.d p.d), some (.d (.i 0)), some (.l h.length), some (.d (.i at_)), x4] ∧ H = h ++ [(natD fs).map .d] ∧ at_ ≤ fs.length ∧ fs.Nodup ∧ (∀ b ∈ fs, b < p.bl.length ∧ P b) ∧ m + at_ = p.bl.length) ?_ p.bl.length _ _ _ ?_ ?_
  · rintro m ρ H ⟨fs, at_, x4, rfl, rfl, hat, hnd, hP, hm⟩
    have hlen := bound fs hnd hP
    by_cases hlt : at_ < fs.length
    · refine ⟨(true, h ++ [(natD fs).map .d]), by simp [wc, hlt], ?_⟩
      simp only [if_true]
      obtain ⟨hb, hPb⟩ := hP fs[at_] (List.getElem_mem hlt)
      obtain ⟨bl, hbl⟩ : ∃ bl, p.bl[fs[at_]]? = some bl := ⟨_, List.getElem?_eq_getElem hb⟩
      have hbl' : p.bl[fs[at_]] = bl := by rw [List.getElem?_eq_getElem hb] at hbl; simpa using hbl
      have hmm := List.mem_of_getElem? hbl
      have gt := goes_to_ok bl.j j (by omega)
      have hfa : ∀ hh, (natD fs)[at_]'hh = .i fs[at_] := fun hh => by simp [natD]
      simp [l1_found_from, Prg.d, ixN_nat _ _ hlt, hlt, hfa, ixN_nat _ _ hb, hb, hbl', Blk.d, gt]
      rw [natl_d]
      refine wp_items (g := fun (k : Nat) => W.d (.i k)) (fun pre ρ H => ∃ (fs' : List Nat) (x4 : Option W), ρ = [some (.d p.d), some (.d (.i 0)), some (.l h.length), some (.d (.i at_)), x4] ∧ H = h ++ [(natD fs').map .d] ∧ fs.length ≤ fs'.length ∧ fs'.Nodup ∧ (∀ b ∈ fs', b < p.bl.length ∧ P b)) (xs := suc bl.j) [] ?_ ?_ ?_
      · exact ⟨fs, x4, rfl, rfl, Nat.le_refl _, hnd, hP⟩
      · rintro pre l post e ρ H ⟨fs', x4, rfl, rfl, hle, hnd', hP'⟩
        have hl : l ∈ suc bl.j := by rw [show suc bl.j = pre ++ l :: post by simpa using e]; simp
        have hlen' := bound fs' hnd' hP'
        have hin := (in_L (h := h ++ [(natD fs').map .d]) (x := .i l) (a := h.length) (L := natD fs') (by simp) (by simp [J.depth])).2
        rw [natD_any] at hin
        have q : fs'.length < 16777216 := by omega
        by_cases hmem : l ∈ fs'
        · simp [fb, l0_found_from, hin, hmem]
          exact ⟨fs', rfl, hle, hnd', hP'⟩
        · simp [fb, l0_found_from, hin, hmem, q]
          refine ⟨fs' ++ [l], by simp [natD], by simp; omega, ?_, ?_⟩
          · rw [List.nodup_append]
            refine ⟨hnd', by simp, fun a ha b hb => ?_⟩
            simp at hb
            subst hb
            exact fun e => hmem (e ▸ ha)
          · intro b hb
            rcases List.mem_append.1 hb with hb | hb
            · exact hP' b hb
            · simp at hb
              subst hb
              exact ⟨jok_suc (ok.bl bl hmm).2.2 b hl, hs _ bl hbl hPb b hl⟩
      · rintro ρ H ⟨fs', x4, rfl, rfl, hle, hnd', hP'⟩
        simp
        have hlen' := bound fs' hnd' hP'
        exact ⟨m - 1, by omega, fs', at_ + 1, ⟨rfl, by omega⟩, rfl, by omega, hnd', hP', by omega⟩
    · refine ⟨(false, h ++ [(natD fs).map .d]), by simp [wc]; omega, ?_⟩
      simp only [Bool.false_eq_true, if_false]
      have q : fs.length ≤ 16777216 := by omega
      simp [q]
      exact ⟨fs, rfl, by omega, hP⟩
  · show _ < 100000
    omega
  · exact ⟨[0], 0, none, by simp, by simp [natD], by simp, by simp, by intro b hb; simp at hb; subst hb; exact ⟨by omega, h0⟩, by omega⟩
theorem insJ_m {x z : Int} : ∀ {ys : List Int}, z ∈ insJ x ys → z = x ∨ z ∈ ys
  | [], h => by simpa [insJ] using h
  | y :: r, h => by
    unfold insJ at h
    split at h
    · simpa using h
    · rcases List.mem_cons.1 h with e | e
      · right; rw [e]; simp
      · rcases insJ_m e with e | e
        · exact .inl e
        · exact .inr (List.mem_cons_of_mem _ e)
theorem sortJ_m {z : Int} : ∀ {xs : List Int}, z ∈ sortJ xs → z ∈ xs
  | [], h => by cases h
  | x :: r, h => by
    rcases insJ_m (show z ∈ insJ x (sortJ r) from h) with e | e
    · rw [e]; simp
    · exact List.mem_cons_of_mem _ (sortJ_m e)
theorem insJ_len (x : Int) : ∀ ys : List Int, (insJ x ys).length = ys.length + 1
  | [] => rfl
  | y :: r => by unfold insJ; split <;> simp [insJ_len x r]
theorem sortJ_len : ∀ xs : List Int, (sortJ xs).length = xs.length
  | [] => rfl
  | x :: r => by show (insJ x (sortJ r)).length = _; rw [insJ_len, sortJ_len r]; rfl
theorem intsL_nat (fs : List Nat) : intsL ((natD fs).map W.d) = some (fs.map fun (k : Nat) => (k : Int)) := by
  induction fs with
  | nil => rfl
  | cons f r ih => simp only [natD, List.map_cons, intsL] at ih ⊢; rw [ih]
theorem sorted_nat (h : LH) (fs : List Nat) : builtin h .sorted [.d (.t (natD fs))] = some (.l h.length, h ++ [(sortJ (fs.map fun (k : Nat) => (k : Int))).map fun x => .d (.i x)]) := by
  show (match items h (.d (.t (natD fs))) with
    | some ws => match intsL ws with
      | some xs => some (W.l h.length, h ++ [(sortJ xs).map (fun x => W.d (.i x))])
      | none => none
    | none => none) = _
  rw [items_t]
  dsimp only
  rw [intsL_nat]
theorem nat_list (P : Nat → Prop) : ∀ xs : List Int, (∀ x ∈ xs, ∃ k : Nat, x = k ∧ P k) → ∃ ks : List Nat, xs = ks.map (fun (k : Nat) => (k : Int)) ∧ ∀ k ∈ ks, P k
  | [], _ => ⟨[], rfl, by simp⟩
  | x :: r, h => by
    obtain ⟨k, rfl, hk⟩ := h x (by simp)
    obtain ⟨ks, rfl, hks⟩ := nat_list P r fun y hy => h y (List.mem_cons_of_mem _ hy)
    exact ⟨k :: ks, rfl, fun y hy => by rcases List.mem_cons.1 hy with rfl | hy; exact hk; exact hks y hy⟩
theorem reached_ok {p : Prg} (ok : p.Ok) (P : Nat → Prop) (h0 : P 0) (hs : ∀ b bl, p.bl[b]? = some bl → P b → ∀ l ∈ suc bl.j, P l) (j : Nat) (hj : 3 ≤ j) (h : LH) : ∃ ks : List Nat, call JP j f_reached [.d p.d] h = some (.d (.t (natD ks)), h) ∧ ks.length ≤ 1000 ∧ ∀ b ∈ ks, b < p.bl.length ∧ P b := by
  obtain ⟨j, rfl⟩ : ∃ i, j = i + 1 := ⟨j - 1, by omega⟩
  obtain ⟨q, e, fs, rfl, hl, hP⟩ := found_ok ok P h0 hs j (by omega) h
  obtain ⟨ks, hks, hkP⟩ := nat_list (fun b => b < p.bl.length ∧ P b) (sortJ (fs.map fun (k : Nat) => (k : Int))) (by
    intro x hx
    have := sortJ_m hx
    obtain ⟨k, hk, rfl⟩ := List.mem_map.1 this
    exact ⟨k, rfl, hP k hk⟩)
  have hkl : ks.length = fs.length := by
    have := congrArg List.length hks
    rw [sortJ_len] at this
    simpa using this.symm
  refine ⟨ks, ?_, by omega, hkP⟩
  have hlr : ks.length ≤ 16777216 := by omega
  have := pw (f := f_reached) (ws := [.d p.d]) (j := j) (h := h) (Q := fun q => q = (.d (.t (natD ks)), h)) b_reached rfl rfl (by
    simp [b_reached, e, sorted_nat, hks]
    have : List.map ((fun x => W.d (.i x)) ∘ fun (k : Nat) => (k : Int)) ks = (natD ks).map W.d := by simp [natD]
    simp [this, hlr])
  obtain ⟨q, e1, rfl⟩ := this
  exact e1
end J
set_option maxRecDepth 10000
namespace J
def InsOk (M : Nat) (i : Ins) : Prop := Dt 5 i.d ∧ i.vOk M
theorem code_in {M : Nat} : ∀ {e : Exp}, e.Ok M → ∀ i ∈ code e, InsOk M i
  | .know x, h, i, hi => by
    simp [code] at hi
    subst hi
    have := (Tn.dt h (by omega)).up (show 3 ≤ 4 by omega)
    exact ⟨by rw [show 5 = 4 + 1 from rfl]; simp [Ins.d, dt_t, this], trivial⟩
  | .of v, h, i, hi => by
    simp [code] at hi
    subst hi
    exact ⟨by rw [show 5 = 4 + 1 from rfl]; simp [Ins.d, dt_t], h⟩
  | .o1 o a, h, i, hi => by
    simp only [code, List.mem_append, List.mem_singleton] at hi
    rcases hi with hi | rfl
    · exact code_in (e := a) h i hi
    · exact ⟨by rw [show 5 = 4 + 1 from rfl]; simp [Ins.d, dt_t], trivial⟩
  | .o2 o a b, h, i, hi => by
    simp only [code, List.mem_append, List.mem_singleton] at hi
    rcases hi with hi | hi | rfl
    · exact code_in h.1 i hi
    · exact code_in h.2 i hi
    · exact ⟨by rw [show 5 = 4 + 1 from rfl]; simp [Ins.d, dt_t], trivial⟩
  | .o3 o a b c, h, i, hi => by
    simp only [code, List.mem_append, List.mem_singleton] at hi
    rcases hi with hi | hi | hi | rfl
    · exact code_in h.1 i hi
    · exact code_in h.2.1 i hi
    · exact code_in h.2.2 i hi
    · exact ⟨by rw [show 5 = 4 + 1 from rfl]; simp [Ins.d, dt_t], trivial⟩
theorem toC_in {M : Nat} (fo : Option Nat) (ad : Nat → Nat) (l : Nat) : ∀ i ∈ toC fo ad l, InsOk M i := by
  intro i hi
  unfold toC at hi
  split at hi
  · cases hi
  · simp at hi; subst hi
    exact ⟨by rw [show 5 = 4 + 1 from rfl]; simp [Ins.d, dt_t], trivial⟩
theorem bC_in {M size : Nat} {b : Blk} (hb : b.Ok M size) (fo : Option Nat) (ad : Nat → Nat) : ∀ i ∈ bC fo ad b, InsOk M i := by
  intro i hi
  unfold bC at hi
  rcases List.mem_append.1 hi with hi | hi
  · simp only [asC, List.mem_flatMap, List.mem_append, List.mem_singleton] at hi
    obtain ⟨a, ha, hi | rfl⟩ := hi
    · exact code_in (hb.2.1 a ha).2 i hi
    · exact ⟨by rw [show 5 = 4 + 1 from rfl]; simp [Ins.d, dt_t], (hb.2.1 a ha).1⟩
  · have hj := hb.2.2
    cases hbj : b.j with
    | goto l => rw [hbj] at hi; exact toC_in fo ad l i hi
    | test e l m =>
      rw [hbj] at hi hj
      simp only [jC, List.mem_append, List.mem_singleton] at hi
      rcases hi with hi | rfl | hi
      · exact code_in hj.1 i hi
      · exact ⟨by rw [show 5 = 4 + 1 from rfl]; simp [Ins.d, dt_t], trivial⟩
      · exact toC_in fo ad l i hi
    | fin e =>
      rw [hbj] at hi hj
      simp only [jC, List.mem_append, List.mem_singleton] at hi
      rcases hi with hi | rfl
      · exact code_in hj i hi
      · exact ⟨by rw [show 5 = 4 + 1 from rfl]; simp [Ins.d, dt_t], trivial⟩
theorem codeP_in {p : Prg} (ok : p.Ok) (fo : Nat → Option Nat) (order : List Nat) : ∀ i ∈ codeP p fo order, InsOk p.many i := by
  intro i hi
  simp only [codeP, List.mem_flatMap] at hi
  obtain ⟨b, _, hi⟩ := hi
  unfold blC at hi
  cases hb : p.bl[b]? with
  | none => rw [hb] at hi; cases hi
  | some bl => rw [hb] at hi; exact bC_in (ok.bl bl (List.mem_of_getElem? hb)) _ _ i hi
theorem cD_dt {p : Prg} (ok : p.Ok) (fo : Nat → Option Nat) (order : List Nat) (hl : (codeP p fo order).length ≤ 1000000) : Dt 6 (.t (cD (codeP p fo order))) := by
  rw [show 6 = 5 + 1 from rfl, dt_t]
  refine ⟨by simpa using hl, fun x hx => ?_⟩
  simp only [cD, List.mem_map] at hx
  obtain ⟨i, hi, rfl⟩ := hx
  exact (codeP_in ok fo order i hi).1
theorem natD_dt (vs : List Nat) (hl : vs.length ≤ 1000000) : Dt 1 (.t (natD vs)) := by
  rw [show 1 = 0 + 1 from rfl, dt_t]
  refine ⟨by simpa using hl, fun x hx => ?_⟩
  simp only [natD, List.mem_map] at hx
  obtain ⟨i, hi, rfl⟩ := hx
  simp
theorem hrD_dt (R : HR) (hl : R.length ≤ 1000000) : Dt 1 (.t (hrD R)) := by
  rw [show 1 = 0 + 1 from rfl, dt_t]
  refine ⟨by simpa using hl, fun x hx => ?_⟩
  simp only [hrD, List.mem_map] at hx
  obtain ⟨i, hi, rfl⟩ := hx
  cases i <;> simp [oD]
/-- a program small enough for the second machine -/
structure Sml (p : Prg) : Prop where
  ok : p.Ok
  few : ∀ b ∈ p.bl, Few b
  small : p.bl.length ≤ 7
theorem Sml.lo {p : Prg} (s : Sml p) : Lo p nof (List.range p.bl.length) := ⟨s.ok, s.few, by have := s.small; omega, fun b hb => List.mem_range.1 hb, by simp; have := s.small; omega⟩
theorem Sml.len {p : Prg} (s : Sml p) : (codeP p nof (List.range p.bl.length)).length ≤ 30000 := by
  have := code_in_len (fo := nof) s.few (adr (adP p nof (List.range p.bl.length))) (List.range p.bl.length)
  have h := s.small
  simp only [List.length_range] at this
  unfold codeP
  omega
theorem own_order_ok {p : Prg} (hs : p.bl.length ≤ 1000) : Pu 1 f_own_order [.d p.d] (.t (natD (List.range p.bl.length))) := by
  refine pu (d := b_own_order) rfl rfl fun j hj h => ?_
  have hr := range_nat p.bl.length
  have hn := natl_d (List.range p.bl.length)
  rw [← hn] at hr
  have l : p.bl.length ≤ 16777216 := by omega
  simp [b_own_order, Prg.d, inR_nat _ (show p.bl.length ≤ 1000000 by omega), hr, l]
theorem none_follow_ok {p : Prg} (hs : p.bl.length ≤ 1000) : Pu 1 f_none_follow [.d p.d] (.t (List.replicate p.bl.length .none)) := by
  refine pu (d := b_none_follow) rfl rfl fun j hj h => ?_
  have e0 := comp_map (C := cx j) (e := .c .none) (i := 1) (ρ := [some (.d p.d), none]) (h := h) (g := W.d ∘ Blk.d) (fun _ => .d .none) (xs := p.bl) (by intro x hx; simp) (by omega)
  have hc : (p.bl.map fun _ => W.d .none) = (List.replicate p.bl.length D.none).map W.d := by simp [List.map_const']
  rw [hc] at e0
  simp only [Prg.d] at e0
  have l : (List.replicate p.bl.length D.none).length ≤ 16777216 := by simp; omega
  generalize List.replicate p.bl.length D.none = L at *
  simp [b_none_follow, Prg.d]
  rw [e0]
  simp [l]
theorem follow_none {p : Prg} : ∀ b, b < p.bl.length → (List.replicate p.bl.length D.none)[b]? = some (foP (nof b)) := by
  intro b hb
  simp [hb, foP]
theorem target_ok {p : Prg} (s : Sml p) : Pu 13 f_target_of [.d p.d] (.t (cD (codeP p nof (List.range p.bl.length)))) := by
  refine pu (d := b_target_of) rfl rfl fun j hj h => ?_
  have hs := s.small
  have e1 := own_order_ok (p := p) (by omega) j (by omega) h
  have e2 := none_follow_ok (p := p) (by omega) j (by omega) h
  have e3 := code_in_ok s.lo (fl := List.replicate p.bl.length D.none) follow_none j (by omega) h
  simp [b_target_of, e1, e2, e3]
theorem block_addresses_ok {p : Prg} (s : Sml p) : Pu 12 f_block_addresses [.d p.d] (.t (natD (adP p nof (List.range p.bl.length)))) := by
  refine pu (d := b_block_addresses) rfl rfl fun j hj h => ?_
  have hs := s.small
  have e1 := own_order_ok (p := p) (by omega) j (by omega) h
  have e2 := none_follow_ok (p := p) (by omega) j (by omega) h
  have e3 := addresses_ok s.lo (fl := List.replicate p.bl.length D.none) follow_none j (by omega) h
  simp [b_block_addresses, e1, e2, e3]
theorem HsP_zero (p : Prg) {b : Nat} (hb : b < p.bl.length) : HsP p (List.range p.bl.length) (adr (adP p nof (List.range p.bl.length)) b) = 0 := by
  have hnd : (List.range p.bl.length).Nodup := List.nodup_range
  obtain ⟨o1, o2, e⟩ := List.append_of_mem (List.mem_range.2 hb)
  have hn2 : b ∉ o2 := by
    rw [e] at hnd
    exact (List.nodup_cons.1 (List.nodup_append.1 hnd).2.1).1
  have sg := zP_seg e hb hn2
  have hz : zbl p (adr (adP p nof (List.range p.bl.length))) b = zB (adr (adP p nof (List.range p.bl.length))) p.bl[b] := by unfold zbl; rw [List.getElem?_eq_getElem hb]
  obtain ⟨i, r, h⟩ := zB_head (adr (adP p nof (List.range p.bl.length))) p.bl[b]
  rw [hz, h] at sg
  unfold HsP
  rw [sg.get]; rfl
theorem own_zero {p : Prg} (s : Sml p) {RF : HR} (iv : HInv (codeP p nof (List.range p.bl.length)) (HsP p (List.range p.bl.length)) RF []) : (∀ b, vis RF b → True) ∧ vis RF (adr (adP p nof (List.range p.bl.length)) 0) ∧ ∀ b bl, p.bl[b]? = some bl → vis RF (adr (adP p nof (List.range p.bl.length)) b) → ∀ l ∈ suc bl.j, vis RF (adr (adP p nof (List.range p.bl.length)) l) := by
  have cl : Clo (codeP p nof (List.range p.bl.length)) (vis RF) := by
    intro a i hv hi w hw
    rcases iv.cl a i hv hi w hw with h | ⟨h, hh⟩
    · exact h
    · cases hh
  refine ⟨fun _ _ => trivial, ?_, ?_⟩
  · rw [adr_0 s.ok.ne]
    rcases iv.zero with h | h
    · exact h
    · cases h
  · intro b bl hb hv l hl
    exact cB cl (laid_own p b bl hb).1 hv l hl
theorem is_target_ok {p : Prg} (s : Sml p) : Pu 20 f_law_is_target [.d p.d] (.b true) := by
  intro j hj h
  obtain ⟨j, rfl⟩ : ∃ i, j = i + 1 := ⟨j - 1, by omega⟩
  have hs := s.small
  have hlen := s.len
  have wh := wh_own s.ok
  have hin := codeP_in s.ok nof (List.range p.bl.length)
  have laid := law_laid_ok s.lo (by simpa using s.ok.ne) j (by omega)
  have tg := target_ok s j (by omega)
  have ba := block_addresses_ok s j (by omega)
  have d1 := same (cD_dt s.ok nof (List.range p.bl.length) (by omega)) j (by omega)
  have adl : (adP p nof (List.range p.bl.length)).length = p.bl.length := by simp [adP, adS_len]
  have d2 := same (natD_dt (adP p nof (List.range p.bl.length)) (by omega)) j (by omega)
  obtain ⟨RF, hf, iv⟩ := hfin_ex wh (3 * (codeP p nof (List.range p.bl.length)).length + 1) (List.replicate (codeP p nof (List.range p.bl.length)).length none) [(0, 0)] (by simp [mu, nones]) (by
    refine ⟨by simp, ?_, ?_, ?_, ?_⟩
    · intro q hq
      simp at hq
      subst hq
      exact ⟨wh.ne, wh.z.symm⟩
    · intro a h e
      rw [List.getElem?_replicate] at e
      split at e <;> simp at e
    · right; simp
    · rintro a i ⟨h, e⟩
      rw [List.getElem?_replicate] at e
      split at e <;> simp at e)
  have ck := check_code_ok (M := p.many) wh hlen (fun i hi => (hin i hi).2) hf j (by omega)
  have h1 := heights_ok wh hlen hf
  have ch : ∀ h, call JP j f_code_heights [.d (.t (cD (codeP p nof (List.range p.bl.length))))] h = some (.d (.t (hrD RF)), h) := by
    intro h
    exact (pu (k := 6) (d := b_code_heights) rfl rfl fun j hj h => by have := h1 j hj h; simp [b_code_heights, this]) j (by omega) h
  have lh := law_heights_ok wh hlen hf j (by omega)
  have hRl : RF.length ≤ 30000 := by rw [iv.len]; exact hlen
  have d3 := same (hrD_dt RF (by omega)) j (by omega)
  obtain ⟨_, v0, vs⟩ := own_zero s iv
  generalize hC : codeP p nof (List.range p.bl.length) = C at *
  generalize hA : adP p nof (List.range p.bl.length) = A at *
  have hx0 : ∀ b, b < p.bl.length → vis RF (adr A b) → adr A b < RF.length ∧ ∀ hh, (hrD RF)[adr A b]'hh = .i 0 := by
    intro b hb ⟨h, e⟩
    have hlt : adr A b < RF.length := (List.getElem?_eq_some_iff.1 e).1
    refine ⟨hlt, fun hh => ?_⟩
    have h0 := iv.rs _ _ e
    rw [← hA, HsP_zero p hb] at h0
    subst h0
    rw [List.getElem?_eq_getElem hlt] at e
    simp at e
    simp [hrD, e, oD]
  have := pw (f := f_law_is_target) (ws := [.d p.d]) (j := j) (h := h) (Q := fun q => q = (.d (.b true), h)) b_law_is_target rfl rfl (by
    have hr := range_nat p.bl.length
    have hn := natl_d (List.range p.bl.length)
    rw [← hn] at hr
    have hlr : (natD (List.range p.bl.length)).length ≤ 16777216 := by simp; omega
    have hR := inR_nat p.bl.length (by omega)
    have l3 : RF.length ≤ 16777216 := by omega
    obtain ⟨ks, ek, hkl, hk⟩ := reached_ok s.ok (fun b => vis RF (adr A b)) v0 vs j (by omega) (h ++ [(hrD RF).map .d])
    have l4 : p.bl.length ≤ 16777216 := by omega
    have ec : ∀ (r0 r1 r2 r5 : Option W) (H : LH), compItems (turn (.n 5) [r0, r1, r2, some (.d (.t (natD A))), some (.d (.t (hrD RF))), r5] (evc (cx j) (some (.cmp .ne (.ix (.var 4) (.ix (.var 3) (.var 5))) (.c (.i 0))))) (ev (cx j) (.var 5))) ((natD ks).map .d) [] H = some ([], H) := by
      intro r0 r1 r2 r5 H
      rw [natl_d]
      have := compF (C := cx j) (e := .var 5) (cnd := .cmp .ne (.ix (.var 4) (.ix (.var 3) (.var 5))) (.c (.i 0))) (i := 5) (ρ := [r0, r1, r2, some (.d (.t (natD A))), some (.d (.t (hrD RF))), r5]) (h := H) (g := fun (k : Nat) => W.d (.i k)) (fun _ => false) (fun k => .d (.i k)) (xs := ks) [] (by
        intro k hkk
        obtain ⟨hb, hv⟩ := hk k hkk
        obtain ⟨x1, x2⟩ := hx0 k hb hv
        have hkA : k < A.length := by omega
        have hga : ∀ hh, (natD A)[k]'hh = .i (adr A k) := fun hh => by simp [natD, adr, hkA]
        constructor
        · simp [wipe, ixN_nat _ _ hkA, hkA, hga, ixN_nat _ _ x1, x1, x2]
        · intro h; cases h) (by simp; omega)
      rw [this]
      simp
    simp only [Prg.d] at laid tg ba ek
    simp -implicitDefEqProofs [b_law_is_target, Prg.d, hR, hr, hlr, laid, tg, ba, d1, d2, ck, ch, lh, d3, l3, l4, ek, ec])
  obtain ⟨q, e1, rfl⟩ := this
  exact e1
end J
set_option maxRecDepth 10000
/-! Runs gone through. -/
namespace J
def atD (b : Nat) (st : List D) : D := .t [.s "at", .i b, .t st]
def path (p : Prg) : Nat → Nat → List D → List D
  | 0, b, st => [atD b st]
  | n + 1, b, st => atD b st :: match stepP p b st with
    | .go b' st' => path p n b' st'
    | .ended x => [.t [.s "ended", x]]
def trace (p : Prg) : Nat → Nat → List D → List (Nat × List D)
  | 0, _, _ => []
  | n + 1, b, st => (b, st) :: match stepP p b st with
    | .go b' st' => trace p n b' st'
    | .ended _ => []
def isAt : D → Bool
  | .t (.s s :: _) => s == "at"
  | _ => false
theorem path_take (p : Prg) : ∀ (n b : Nat) (st : List D), ((path p n b st).take n).filter isAt = (trace p n b st).map fun q => atD q.1 q.2
  | 0, b, st => rfl
  | n + 1, b, st => by
    unfold path trace
    rw [List.take_succ_cons, List.filter_cons]
    have : isAt (atD b st) = true := by simp [isAt, atD]
    rw [if_pos this, List.map_cons]
    congr 1
    cases stepP p b st with
    | go b' st' => exact path_take p n b' st'
    | ended x => cases n <;> simp [isAt]
theorem path_len (p : Prg) : ∀ (n b : Nat) (st : List D), (path p n b st).length ≤ n + 1
  | 0, b, st => by simp [path]
  | n + 1, b, st => by
    unfold path
    cases stepP p b st with
    | go b' st' => have := path_len p n b' st'; simp; omega
    | ended x => simp
theorem path_one (p : Prg) (n b : Nat) (st : List D) : ∀ x ∈ path p n b st, (∃ b' st', x = atD b' st') ∨ ∃ y, x = .t [.s "ended", y] := by
  induction n generalizing b st with
  | zero => intro x hx; simp [path] at hx; exact .inl ⟨_, _, hx⟩
  | succ n ih =>
    intro x hx
    unfold path at hx
    rcases List.mem_cons.1 hx with e | hx
    · exact .inl ⟨_, _, e⟩
    · cases hs : stepP p b st with
      | go b' st' => rw [hs] at hx; exact ih b' st' x hx
      | ended y => rw [hs] at hx; simp at hx; exact .inr ⟨_, hx⟩
theorem first_state_ok (st : List D) : Pu 1 f_first_state [.d (.t st)] (atD 0 st) := by
  exact fun j hj => (pu (k := 0) (d := b_first_state) rfl rfl fun j hj h => by simp [b_first_state, atD]) j (by omega)
theorem states_ok {p : Prg} {st : List D} {most : Nat} (hm : most ≤ 10000) (hs : SafeRun p most 0 st) : ∀ j, 53 ≤ j → ∀ h, call JP j f_states_of [.d p.d, .d (.t st), .d (.i most)] h = some (.l h.length, h ++ [(path p most 0 st).map .d]) := by
  intro j hj h
  obtain ⟨j, rfl⟩ : ∃ i, j = i + 1 := ⟨j - 1, by omega⟩
  have := pw (f := f_states_of) (ws := [.d p.d, .d (.t st), .d (.i most)]) (j := j) (h := h) (Q := fun q => q = (.l h.length, h ++ [(path p most 0 st).map .d])) b_states_of rfl rfl (by
    have e0 := first_state_ok st j (by omega)
    simp [b_states_of, e0]
    refine wp_while (fun m ρ H => ∃ L : List D, ρ = [some (.d p.d), some (.d (.t st)), some (.d (.i most)), some (.l h.length)] ∧ H = h ++ [L.map .d] ∧ ((∃ done b st' n, L = done ++ [atD b st'] ∧ done.length + n = most ∧ SafeRun p n b st' ∧ done ++ path p n b st' = path p most 0 st ∧ m = n + 1) ∨ (L = path p most 0 st ∧ m = 0 ∧ ∃ pre x, L = pre ++ [.t [.s "ended", x]]))) ?_ (most + 1) _ _ _ ?_ ?_
    · rintro m ρ H ⟨L, rfl, rfl, ⟨done, b, st', n, rfl, hdn, hsr, hpath, rfl⟩ | ⟨rfl, rfl, pre, x, hx⟩⟩
      · cases n with
        | zero =>
          have c0 : ¬ ((done.length : Int) + 1 ≤ most) := by omega
          refine ⟨(false, h ++ [(done ++ [atD b st']).map .d]), by simp [wc, c0], ?_⟩
          simp only [Bool.false_eq_true, if_false]
          have : done ++ [atD b st'] = path p most 0 st := hpath
          have hf := fin_own (h := h) (K := [(done ++ [atD b st']).map W.d]) (i := 0) (zs := done ++ [atD b st']) rfl
          rw [this] at hf ⊢
          simp at hf
          simp [hf]
        | succ n =>
          have hix := ixN_m1 done.length
          have c1 : done.length + 1 ≤ most := by omega
          have c2 : (done.length : Int) + 1 ≤ most := by omega
          refine ⟨(true, h ++ [(done ++ [atD b st']).map .d]), by simp [wc, hix, atD, c2], ?_⟩
          simp only [if_true]
          obtain ⟨⟨bl, hb, hsb⟩, hrest⟩ := hsr
          have e1 := next_state hb hsb j (by omega)
          have l1 : done.length + 1 < 16777216 := by omega
          have l2 : done.length < 16777215 := by omega
          rw [path] at hpath
          cases ho : stepP p b st' with
          | go b' st'' =>
            rw [ho] at e1 hrest hpath
            simp only [outD] at e1
            refine ⟨(.nxt, [some (.d p.d), some (.d (.t st)), some (.d (.i most)), some (.l h.length)], h ++ [(done ++ [atD b st', atD b' st'']).map .d]), by simp [l0_states_of, hix, atD, e1, l1, l2], ?_⟩
            exact ⟨n + 1, by omega, done ++ [atD b st', atD b' st''], rfl, rfl, .inl ⟨done ++ [atD b st'], b', st'', n, by simp, by simp; omega, hrest, by simpa using hpath, rfl⟩⟩
          | ended x =>
            rw [ho] at e1 hpath
            simp only [outD] at e1
            refine ⟨(.nxt, [some (.d p.d), some (.d (.t st)), some (.d (.i most)), some (.l h.length)], h ++ [(done ++ [atD b st', .t [.s "ended", x]]).map .d]), by simp [l0_states_of, hix, atD, e1, l1, l2], ?_⟩
            exact ⟨0, by omega, done ++ [atD b st', .t [.s "ended", x]], rfl, rfl, .inr ⟨by simpa using hpath, rfl, done ++ [atD b st'], x, by simp⟩⟩
      · have hlen : (path p most 0 st).length = pre.length + 1 := by rw [hx]; simp
        have hix := ixN_m1 pre.length
        rw [hx]
        refine ⟨(false, h ++ [(pre ++ [D.t [.s "ended", x]]).map W.d]), by by_cases c : (pre.length : Int) + 1 ≤ most <;> simp [wc, hix, c], ?_⟩
        simp only [Bool.false_eq_true, if_false]
        have hf := fin_own (h := h) (K := [(pre ++ [D.t [.s "ended", x]]).map W.d]) (i := 0) (zs := pre ++ [D.t [.s "ended", x]]) rfl
        simp at hf
        simp [hf]
    · show _ < 100000
      omega
    · exact ⟨[atD 0 st], by simp, by simp, .inl ⟨[], 0, st, most, rfl, by simp, hs, by simp, rfl⟩⟩)
  obtain ⟨q, e1, rfl⟩ := this
  exact e1
end J
set_option maxRecDepth 10000
namespace J
theorem comp_liveF {α : Type} {f : W → List W → LH → Option (List W × LH)} {g r : α → W} {h : LH} {a : Nat} {xs : List α} (ha : h[a]? = some (xs.map g)) (b : α → Bool) (hf : ∀ x ∈ xs, ∀ acc, acc.length < 16777216 → f (g x) acc h = some (if b x = true then acc ++ [r x] else acc, h)) (hl : xs.length ≤ 16777216) : ∀ n, xs.length < n → compLive f a n 0 [] h = some ((xs.filter b).map r, h) := by
  have key : ∀ (post pre : List α), xs = pre ++ post → ∀ n, post.length < n → compLive f a n pre.length ((pre.filter b).map r) h = some ((xs.filter b).map r, h) := by
    intro post
    induction post with
    | nil =>
      intro pre e n hn
      obtain ⟨n, rfl⟩ : ∃ m, n = m + 1 := ⟨n - 1, by simp at hn; omega⟩
      unfold compLive
      have : (xs.map g)[pre.length]? = none := by rw [e]; simp
      simp only [ha, this]
      rw [e]; simp
    | cons x post ih =>
      intro pre e n hn
      obtain ⟨n, rfl⟩ : ∃ m, n = m + 1 := ⟨n - 1, by simp at hn; omega⟩
      unfold compLive
      have : (xs.map g)[pre.length]? = some (g x) := by rw [e]; simp
      have hlen : pre.length < xs.length := by rw [e]; simp
      have hfl : (pre.filter b).length ≤ pre.length := List.length_filter_le _ _
      simp only [ha, this]
      rw [hf x (by rw [e]; simp) _ (by simp; omega)]
      have := ih (pre ++ [x]) (by simpa using e) n (by simp at hn; omega)
      cases hb : b x <;> simp [List.filter_append, hb] at this ⊢ <;> exact this
  intro n hn
  have := key xs [] rfl n hn
  simpa using this
theorem slice_l {h : LH} {a : Nat} {ws : List W} (ha : h[a]? = some ws) (lo hi : Option Int) : slice h (.l a) lo hi = some (.l h.length, h ++ [cutL ws lo hi]) := by
  unfold slice; dsimp only; rw [ha]
def trD (t : List (Nat × List D)) : List D := t.map fun q => atD q.1 q.2
theorem trace_len (p : Prg) : ∀ (n b : Nat) (st : List D), (trace p n b st).length ≤ n
  | 0, b, st => by simp [trace]
  | n + 1, b, st => by
    unfold trace
    cases stepP p b st with
    | go b' st' => have := trace_len p n b' st'; simp; omega
    | ended x => simp
theorem trace_safe {p : Prg} : ∀ {n b : Nat} {st : List D}, SafeRun p n b st → ∀ q ∈ trace p n b st, ∃ bl, p.bl[q.1]? = some bl ∧ SafeB q.2 bl
  | 0, b, st, _, q, hq => by simp [trace] at hq
  | n + 1, b, st, hs, q, hq => by
    obtain ⟨h1, h2⟩ := hs
    unfold trace at hq
    rcases List.mem_cons.1 hq with rfl | hq
    · exact h1
    · cases ho : stepP p b st with
      | go b' st' => rw [ho] at hq h2; exact trace_safe h2 q hq
      | ended x => rw [ho] at hq; cases hq
theorem gone_ok {p : Prg} {st : List D} {most : Nat} (hm : most ≤ 10000) (hs : SafeRun p most 0 st) : ∀ j, 54 ≤ j → ∀ h, call JP j f_gone_through [.d p.d, .d (.t st), .d (.i most)] h = some (.l h.length, h ++ [(trD (trace p most 0 st)).map .d]) := by
  intro j hj h
  obtain ⟨j, rfl⟩ : ∃ i, j = i + 1 := ⟨j - 1, by omega⟩
  have := pw (f := f_gone_through) (ws := [.d p.d, .d (.t st), .d (.i most)]) (j := j) (h := h) (Q := fun q => q = (.l h.length, h ++ [(trD (trace p most 0 st)).map .d])) b_gone_through rfl rfl (by
    have e0 := states_ok hm hs j (by omega)
    have hpl := path_len p most 0 st
    have hct : cutL ((path p most 0 st).map W.d) none (some (most : Int)) = ((path p most 0 st).take most).map W.d := by
      by_cases hc : most ≤ (path p most 0 st).length
      · rw [cutL_to _ _ (by simpa using hc)]; simp [List.map_take]
      · unfold cutL cutAt
        have h1 : ¬ ((most : Int) < 0) := by omega
        have h2 : min most (path p most 0 st).length = (path p most 0 st).length := by omega
        simp [h1, h2]
    have e1 : ∀ (r0 r1 r2 r3 : Option W) (H : LH) (l n : Nat), H[l]? = some (((path p most 0 st).take most).map W.d) → ((path p most 0 st).take most).length < n → compLive (turn (.n 3) [r0, r1, r2, r3] (evc (cx j) (some (.cmp .eq (.ix (.var 3) (.c (.i 0))) (.c (.s "at"))))) (ev (cx j) (.var 3))) l n 0 [] H = some ((trD (trace p most 0 st)).map W.d, H) := by
      intro r0 r1 r2 r3 H l n hl hn
      have := comp_liveF (f := turn (.n 3) [r0, r1, r2, r3] (evc (cx j) (some (.cmp .eq (.ix (.var 3) (.c (.i 0))) (.c (.s "at"))))) (ev (cx j) (.var 3))) (h := H) (a := l) (g := W.d) (r := W.d) (xs := (path p most 0 st).take most) hl isAt (by
        intro x hx acc hacc
        rcases path_one p most 0 st x (List.mem_of_mem_take hx) with ⟨b', st', rfl⟩ | ⟨y, rfl⟩
        · unfold turn
          simp [setT, wipe, atD, isAt, hacc]
        · unfold turn
          simp [setT, wipe, isAt, hacc]) (by simp; omega) n hn
      rw [path_take] at this
      exact this
    have hsl := slice_l (h := h ++ [(path p most 0 st).map W.d]) (a := h.length) (ws := (path p most 0 st).map W.d) (by simp) none (some (most : Int))
    rw [hct] at hsl
    have hf := fin_own (h := h) (K := [(path p most 0 st).map W.d, ((path p most 0 st).take most).map W.d, (trD (trace p most 0 st)).map W.d]) (i := 2) (zs := trD (trace p most 0 st)) rfl
    have e2 := fun (r0 r1 r2 r3 : Option W) (n : Nat) => e1 r0 r1 r2 r3 (h ++ [(path p most 0 st).map W.d, ((path p most 0 st).take most).map W.d]) (h.length + 1) n (by simp)
    generalize path p most 0 st = P at *
    generalize trD (trace p most 0 st) = T at *
    generalize hQ : P.take most = Q at *
    simp [b_gone_through, e0, hsl, e2]
    simp [hf])
  obtain ⟨q, e1, rfl⟩ := this
  exact e1
end J
set_option maxRecDepth 10000
namespace J
theorem trD_len (t : List (Nat × List D)) : (trD t).length = t.length := by simp [trD]
theorem way_ok {p : Prg} {st : List D} {most : Nat} (hm : most ≤ 10000) (hs : SafeRun p most 0 st) : Pu 55 f_way_of [.d p.d, .d (.t st), .d (.i most)] (.t (natD ((trace p most 0 st).map Prod.fst))) := by
  intro j hj h
  obtain ⟨j, rfl⟩ : ∃ i, j = i + 1 := ⟨j - 1, by omega⟩
  have := pw (f := f_way_of) (ws := [.d p.d, .d (.t st), .d (.i most)]) (j := j) (h := h) (Q := fun q => q = (.d (.t (natD ((trace p most 0 st).map Prod.fst))), h)) b_way_of rfl rfl (by
    have e0 := gone_ok hm hs j (by omega)
    have hl := trace_len p most 0 st
    generalize trace p most 0 st = T at *
    have e1 : ∀ (r0 r1 r2 r3 : Option W) (n : Nat), (trD T).length < n → compLive (turn (.n 3) [r0, r1, r2, r3] (evc (cx j) none) (ev (cx j) (.ix (.var 3) (.c (.i 1))))) h.length n 0 [] (h ++ [(trD T).map W.d]) = some ((natD (T.map Prod.fst)).map W.d, h ++ [(trD T).map W.d]) := by
      intro r0 r1 r2 r3 n hn
      have := comp_live (f := turn (.n 3) [r0, r1, r2, r3] (evc (cx j) none) (ev (cx j) (.ix (.var 3) (.c (.i 1))))) (h := h ++ [(trD T).map W.d]) (a := h.length) (g := fun (q : Nat × List D) => W.d (atD q.1 q.2)) (r := fun q => W.d (.i q.1)) (xs := T) (by simp [trD]) (by
        intro x hx acc hacc
        simp [atD, hacc]) (by omega) n (by rwa [trD_len] at hn)
      rw [this]
      simp [natD]
    have l : T.length ≤ 16777216 := by omega
    simp [b_way_of, e0, trD_len] at e1 ⊢
    simp [e1, l])
  obtain ⟨q, e1, rfl⟩ := this
  exact e1
theorem jump_steps_ok {st : List D} {jp : Jmp} (hj : SafeJ st jp) (hl : ∀ e, (∃ l m, jp = .test e l m) ∨ jp = .fin e → (code e).length ≤ 10000) (hn : ∀ e, (∃ l m, jp = .test e l m) ∨ jp = .fin e → e.nest ≤ 40) : Pu 48 f_jump_steps [.d jp.d, .d .none, .d (.t st)] (.i (jS none st jp)) := by
  refine pu (d := b_jump_steps) rfl rfl fun j hj' h => ?_
  cases jp with
  | goto l => simp [b_jump_steps, Jmp.d, jS, tS]
  | fin e =>
    have e1 := code_ok e (hl e (.inr rfl)) j (by have := hn e (.inr rfl); omega) h
    simp [b_jump_steps, Jmp.d, jS, e1]
  | test e l m =>
    have e1 := code_ok e (hl e (.inl ⟨l, m, rfl⟩)) j (by have := hn e (.inl ⟨l, m, rfl⟩); omega) h
    have e2 := answer_of e l m hj.1 hj.2 j (by omega) h
    simp only [Jmp.d] at e2
    by_cases hz : zeroB (wo st e) = true
    · simp [hz] at e2
      simp [b_jump_steps, Jmp.d, jS, tS, e1, e2, hz]
    · simp [hz] at e2
      simp [b_jump_steps, Jmp.d, jS, tS, e1, e2, hz]
def bSat (p : Prg) (q : Nat × List D) : Nat := match p.bl[q.1]? with
  | some bl => bS none bl q.2
  | none => 0
theorem stN_sum (p : Prg) : ∀ (n b : Nat) (st : List D), SafeRun p n b st → stN p nof n b st = ((trace p n b st).map (bSat p)).sum
  | 0, b, st, hs => rfl
  | n + 1, b, st, hs => by
    obtain ⟨⟨bl, hb, hsb⟩, hrest⟩ := hs
    rw [stN_succ p nof n b st hb]
    unfold trace
    have hst : stepP p b st = stepB bl st := by unfold stepP; rw [hb]
    rw [hst] at hrest ⊢
    have hB : bSat p (b, st) = bS none bl st := by unfold bSat; rw [hb]
    cases ho : stepB bl st with
    | go b' st' =>
      rw [ho] at hrest
      simp only [List.map_cons, List.sum_cons, hB]
      rw [stN_sum p n b' st' hrest]
    | ended x => simp [hB]
theorem steps_in_ok {p : Prg} {st : List D} {most : Nat} (s : Sml p) (hm : most ≤ 10000) (hs : SafeRun p most 0 st) (hst : st.length ≤ 1000) : Pu 56 f_steps_in [.d p.d, .d (.t (List.replicate p.bl.length .none)), .d (.t st), .d (.i most)] (.i (stN p nof most 0 st)) := by
  intro j hj h
  obtain ⟨j, rfl⟩ : ∃ i, j = i + 1 := ⟨j - 1, by omega⟩
  have := pw (f := f_steps_in) (ws := [.d p.d, .d (.t (List.replicate p.bl.length .none)), .d (.t st), .d (.i most)]) (j := j) (h := h) (Q := fun q => q = (.d (.i (stN p nof most 0 st)), h)) b_steps_in rfl rfl (by
    have e0 := gone_ok hm hs j (by omega)
    have hl := trace_len p most 0 st
    have hsf := trace_safe hs
    rw [stN_sum p most 0 st hs]
    generalize trace p most 0 st = T at *
    simp [b_steps_in, e0]
    refine wp_live (g := fun (q : Nat × List D) => W.d (atD q.1 q.2)) (xs := T) (fun pre ρ H => ∃ x5 x6 x7 x8, ρ = [some (.d p.d), some (.d (.t (List.replicate p.bl.length .none))), some (.d (.t st)), some (.d (.i most)), some (.d (.i ((pre.map (bSat p)).sum : Nat))), x5, x6, x7, x8] ∧ H = h ++ [(trD T).map .d]) ?_ ?_ ?_ ?_ ?_
    · exact ⟨none, none, none, none, rfl, rfl⟩
    · rintro pre ρ H ⟨x5, x6, x7, x8, rfl, rfl⟩
      simp [trD]
    · rintro pre q post e ρ H ⟨x5, x6, x7, x8, rfl, rfl⟩
      obtain ⟨bl, hb, hsb⟩ := hsf q (by rw [e]; simp)
      have hlt : q.1 < p.bl.length := (List.getElem?_eq_some_iff.1 hb).1
      have hb' : p.bl[q.1] = bl := by rw [List.getElem?_eq_getElem hlt] at hb; simpa using hb
      have few := s.few bl (List.mem_of_getElem? hb)
      have e1 := store_behind bl.as hsb.1 hsb.2.2 j (by omega) (h ++ [(trD T).map .d])
      have e2 := assigns_ok few.2.1 (by have := few.1; omega) j (by omega) (h ++ [(trD T).map .d])
      have hcl : ∀ e, (∃ l m, bl.j = .test e l m) ∨ bl.j = .fin e → e.nest ≤ 5 := by
        rintro e (⟨l, m, he⟩ | he)
        · exact few.2.2.1 e l m he
        · exact few.2.2.2 e he
      have e3 := jump_steps_ok hsb.2.1 (fun e he => by have := code_364 (hcl e he); omega) (fun e he => by have := hcl e he; omega) j (by omega) (h ++ [(trD T).map .d])
      have hB : bSat p q = bS none bl q.2 := by unfold bSat; rw [hb]
      simp [fb, l0_steps_in, atD, Prg.d, ixN_nat _ _ hlt, hlt, hb', Blk.d, e1, e2, e3, hB, bS]
    · rintro ρ H ⟨x5, x6, x7, x8, rfl, rfl⟩
      simp
    · simp [trD])
  obtain ⟨q, e1, rfl⟩ := this
  exact e1
theorem target_steps_ok {p : Prg} {st : List D} {most : Nat} (s : Sml p) (hm : most ≤ 10000) (hs : SafeRun p most 0 st) (hst : st.length ≤ 1000) : Pu 57 f_target_steps [.d p.d, .d (.t st), .d (.i most)] (.i (stN p nof most 0 st)) := by
  refine pu (d := b_target_steps) rfl rfl fun j hj h => ?_
  have hsm := s.small
  have e1 := none_follow_ok (p := p) (by omega) j (by omega) h
  have e2 := steps_in_ok s hm hs hst j (by omega) h
  simp [b_target_steps] at e1 e2 ⊢
  simp [e1, e2]
def thL : List D → List (Nat × Exp) → List D
  | _, [] => []
  | st, a :: r => wo st a.2 :: thL (asg st a) r
theorem thL_len : ∀ (as : List (Nat × Exp)) (st : List D), (thL st as).length = as.length
  | [], st => rfl
  | a :: r, st => by simp [thL, thL_len r]
theorem thL_app (st : List D) (a : Nat × Exp) : ∀ (as : List (Nat × Exp)) (st : List D), thL st (as ++ [a]) = thL st as ++ [wo (sb st as) a.2]
  | [], st => rfl
  | x :: r, st => by
    simp only [List.cons_append, thL]
    rw [thL_app st a r]
    rfl
def nextI (bl : Blk) (st : List D) : Int := match stepB bl st with
  | .go b _ => b
  | .ended _ => -1
def lineD (p : Prg) (q : Nat × List D) : D := match p.bl[q.1]? with
  | some bl => .t [.i q.1, .t (thL q.2 bl.as), .i (nextI bl q.2)]
  | none => .none
theorem line_ok {p : Prg} {b : Nat} {st : List D} {bl : Blk} (hb : p.bl[b]? = some bl) (hs : SafeB st bl) (hl : bl.as.length ≤ 1000) : Pu 50 f_line_of [.d p.d, .d (atD b st)] (.t [.i b, .t (thL st bl.as), .i (nextI bl st)]) := by
  intro j hj h
  obtain ⟨j, rfl⟩ : ∃ i, j = i + 1 := ⟨j - 1, by omega⟩
  have hlt : b < p.bl.length := (List.getElem?_eq_some_iff.1 hb).1
  have hb' : p.bl[b] = bl := by rw [List.getElem?_eq_getElem hlt] at hb; simpa using hb
  have := pw (f := f_line_of) (ws := [.d p.d, .d (atD b st)]) (j := j) (h := h) (Q := fun q => q = (.d (.t [.i b, .t (thL st bl.as), .i (nextI bl st)]), h)) b_line_of rfl rfl (by
    simp [b_line_of, atD, Prg.d, ixN_nat _ _ hlt, hlt, hb', Blk.d]
    refine wp_items (g := W.d ∘ asD) (fun pre ρ H => ∃ x6 x7, ρ = [some (.d p.d), some (.d (atD b st)), some (.d (.t (bl.as.map asD))), some (.d bl.j.d), some (.d (.t (sb st pre))), some (.l h.length), x6, x7] ∧ H = h ++ [(thL st pre).map .d]) [] ?_ ?_ ?_
    · exact ⟨none, none, rfl, rfl⟩
    · rintro pre a post e ρ H ⟨x6, x7, rfl, rfl⟩
      have e' : bl.as = pre ++ a :: post := by simpa using e
      obtain ⟨h1, h2, h3⟩ := hs.1.mid e'
      have e1 := worth a.2 h1 j (by omega) (h ++ [(thL st pre).map .d])
      have h2' : a.1 < (sb st pre).length := by simpa using h2
      have e2 := with_thing (sb st pre) a.1 h2' (by simpa using hs.2.2) (wo (sb st pre) a.2) j (by omega) (h ++ [(thL st pre).map .d ++ [.d (wo (sb st pre) a.2)]])
      have hpl : pre.length < bl.as.length := by rw [e']; simp
      have l1 : (thL st pre).length < 16777216 := by rw [thL_len]; omega
      have hix := ixN_m1 (thL st pre).length
      simp [fb, l0_line_of, asD, e1, l1, hix, e2, thL_app st, sb_app, J.asg]
    · rintro ρ H ⟨x6, x7, rfl, rfl⟩
      have l1 : (thL st bl.as).length ≤ 16777216 := by rw [thL_len]; omega
      have hj2 := hs.2.1
      have l2 : (sb st bl.as).length ≤ 1000 := by simpa using hs.2.2
      cases hjj : bl.j with
      | goto l =>
        have e1 := block_goto (st := sb st bl.as) l j (by omega)
        simp only [Jmp.d] at e1
        simp [atD, hjj, Jmp.d, e1, l1, nextI, stepB]
      | test e l m =>
        rw [hjj] at hj2
        have e1 := block_test (st := sb st bl.as) e l m hj2.1 hj2.2 j (by omega)
        simp only [Jmp.d] at e1
        by_cases hz : zeroB (wo (sb st bl.as) e) = true
        · simp [hz] at e1
          simp [atD, hjj, Jmp.d, e1, l1, nextI, stepB, hz]
        · simp [hz] at e1
          simp [atD, hjj, Jmp.d, e1, l1, nextI, stepB, hz]
      | fin e => simp [atD, hjj, Jmp.d, l1, nextI, stepB])
  obtain ⟨q, e1, rfl⟩ := this
  exact e1
end J
set_option maxRecDepth 10000
namespace J
def wk (p : Prg) (q : Nat × List D) : Nat := match p.bl[q.1]? with
  | some bl => bl.as.length + 1
  | none => 0
theorem book_ok {p : Prg} {st : List D} {most : Nat} (s : Sml p) (hm : most ≤ 10000) (hs : SafeRun p most 0 st) : Pu 56 f_book_of [.d p.d, .d (.t st), .d (.i most)] (.t ((trace p most 0 st).map (lineD p))) := by
  intro j hj h
  obtain ⟨j, rfl⟩ : ∃ i, j = i + 1 := ⟨j - 1, by omega⟩
  have := pw (f := f_book_of) (ws := [.d p.d, .d (.t st), .d (.i most)]) (j := j) (h := h) (Q := fun q => q = (.d (.t ((trace p most 0 st).map (lineD p))), h)) b_book_of rfl rfl (by
    have e0 := gone_ok hm hs j (by omega)
    have hl := trace_len p most 0 st
    have hsf := trace_safe hs
    generalize trace p most 0 st = T at *
    have e1 : ∀ (r1 r2 r3 : Option W) (n : Nat), T.length < n → compLive (turn (.n 3) [some (.d p.d), r1, r2, r3] (evc (cx j) none) (ev (cx j) (.call f_line_of [.var 0, .var 3]))) h.length n 0 [] (h ++ [(trD T).map .d]) = some ((T.map (lineD p)).map W.d, h ++ [(trD T).map .d]) := by
      intro r1 r2 r3 n hn
      have := comp_live (f := turn (.n 3) [some (.d p.d), r1, r2, r3] (evc (cx j) none) (ev (cx j) (.call f_line_of [.var 0, .var 3]))) (h := h ++ [(trD T).map W.d]) (a := h.length) (g := fun (q : Nat × List D) => W.d (atD q.1 q.2)) (r := fun q => W.d (lineD p q)) (xs := T) (by simp [trD]) (by
        intro q hq acc hacc
        obtain ⟨bl, hb, hsb⟩ := hsf q hq
        have e2 := line_ok hb hsb (by have := (s.few bl (List.mem_of_getElem? hb)).1; omega) j (by omega) (h ++ [(trD T).map .d])
        have hL : lineD p q = .t [.i q.1, .t (thL q.2 bl.as), .i (nextI bl q.2)] := by unfold lineD; rw [hb]
        simp [e2, hacc, hL]) (by omega) n hn
      rw [this]
      simp
    have l : T.length ≤ 16777216 := by omega
    simp [b_book_of, e0, trD_len] at e1 ⊢
    simp [e1, l])
  obtain ⟨q, e1, rfl⟩ := this
  exact e1
theorem line_items {p : Prg} {q : Nat × List D} {bl : Blk} (hb : p.bl[q.1]? = some bl) : lineD p q = .t [.i q.1, .t (thL q.2 bl.as), .i (nextI bl q.2)] := by unfold lineD; rw [hb]
theorem works_ok {p : Prg} {T : List (Nat × List D)} (ht : ∀ q ∈ T, ∃ bl, p.bl[q.1]? = some bl) : Pu 1 f_works_in [.d (.t (T.map (lineD p)))] (.i ((T.map (wk p)).sum : Nat)) := by
  intro j hj h
  obtain ⟨j, rfl⟩ : ∃ i, j = i + 1 := ⟨j - 1, by omega⟩
  have := pw (f := f_works_in) (ws := [.d (.t (T.map (lineD p)))]) (j := j) (h := h) (Q := fun q => q = (.d (.i ((T.map (wk p)).sum : Nat)), h)) b_works_in rfl rfl (by
    simp [b_works_in]
    refine wp_items (g := W.d ∘ lineD p) (fun pre ρ H => ∃ x2, ρ = [some (.d (.t (T.map (lineD p)))), some (.d (.i ((pre.map (wk p)).sum : Nat))), x2] ∧ H = h) [] ?_ ?_ ?_
    · exact ⟨none, rfl, rfl⟩
    · rintro pre q post e ρ H ⟨x2, rfl, rfl⟩
      obtain ⟨bl, hb⟩ := ht q (by rw [show T = pre ++ q :: post by simpa using e]; simp)
      have hw : wk p q = bl.as.length + 1 := by unfold wk; rw [hb]
      simp [fb, l0_works_in, line_items hb, thL_len, hw]
    · rintro ρ H ⟨x2, rfl, rfl⟩
      simp)
  obtain ⟨q, e1, rfl⟩ := this
  exact e1
theorem zeros_comp (p : Prg) {C : Ctx} {i : Nat} (hp : p.bl.length ≤ 1000) (ρ : Env) (H : LH) : compItems (turn (.n i) ρ (evc C none) (ev C (.c (.i 0)))) (p.bl.map (W.d ∘ Blk.d)) [] H = some (natl (List.replicate p.bl.length 0), H) := by
  have := comp_map (C := C) (e := .c (.i 0)) (i := i) (ρ := ρ) (h := H) (g := W.d ∘ Blk.d) (fun _ => .d (.i 0)) (xs := p.bl) (by intro x hx; simp) (by omega)
  rwa [zeros] at this
theorem bC_bS {bl : Blk} (ad : Nat → Nat) (st : List D) : ((bC none ad bl).length : Int) - (match bl.j with
    | .test e _ _ => if zeroB (wo (sb st bl.as) e) = true then 1 else 0
    | _ => 0) = (bS none bl st : Nat) := by
  unfold bS bC
  cases bl.j with
  | goto l => simp [jC, toC, jS, tS]
  | test e l m =>
    by_cases hz : zeroB (wo (sb st bl.as) e) = true
    · simp [jC, toC, jS, tS, hz]; omega
    · simp [jC, toC, jS, tS, hz]; omega
  | fin e => simp [jC, jS]
theorem own_loop {bl : Blk} {st : List D} (hs : SafeB st bl) {j : Nat} (hj : 52 ≤ j) (H : LH) (r0 r1 r2 r3 r4 r5 r6 r7 r8 r9 r10 r11 r12 r13 r15 r16 r17 : Option W) : ∃ y15 y16, forItems (fb (cx j) (.t [15, 16]) l0_law_store_steps) (bl.as.map (W.d ∘ asD)) [r0, r1, r2, r3, r4, r5, r6, r7, r8, r9, r10, r11, r12, r13, some (.l H.length), r15, r16, r17] (H ++ [st.map .d]) = some (.nxt, [r0, r1, r2, r3, r4, r5, r6, r7, r8, r9, r10, r11, r12, r13, some (.l H.length), y15, y16, r17], H ++ [(sb st bl.as).map .d]) := by
  have := wp_items (f := fb (cx j) (.t [15, 16]) l0_law_store_steps) (g := W.d ∘ asD) (Q := ⟨fun q => ∃ y15 y16, q = (.nxt, [r0, r1, r2, r3, r4, r5, r6, r7, r8, r9, r10, r11, r12, r13, some (.l H.length), y15, y16, r17], H ++ [(sb st bl.as).map .d])⟩) (xs := bl.as) (fun pre ρ H' => ∃ y15 y16, ρ = [r0, r1, r2, r3, r4, r5, r6, r7, r8, r9, r10, r11, r12, r13, some (.l H.length), y15, y16, r17] ∧ H' = H ++ [(sb st pre).map .d]) [] (ρ := [r0, r1, r2, r3, r4, r5, r6, r7, r8, r9, r10, r11, r12, r13, some (.l H.length), r15, r16, r17]) (h := H ++ [st.map .d]) ⟨r15, r16, rfl, rfl⟩ (by
    rintro pre a post e ρ H' ⟨y15, y16, rfl, rfl⟩
    obtain ⟨h1, h2, h3⟩ := hs.1.mid (show bl.as = pre ++ a :: post by simpa using e)
    have e1 := law_worth a.2 h1 (.l H.length) (H ++ [(sb st pre).map .d]) (by simp) j (by omega)
    have h2' : a.1 < (sb st pre).length := by simpa using h2
    simp [fb, l0_law_store_steps, asD, e1, ixN_nat _ _ h2', ixN_nat _ _ h2, sb_app, J.asg, List.map_set])
    (by rintro ρ H' ⟨y15, y16, rfl, rfl⟩; exact ⟨_, _, rfl⟩)
  obtain ⟨q, e, y15, y16, rfl⟩ := this
  exact ⟨y15, y16, e⟩
theorem own_loop_wp {bl : Blk} {st : List D} (hs : SafeB st bl) {j : Nat} (hj : 52 ≤ j) (H : LH) {r0 r1 r2 r3 r4 r5 r6 r7 r8 r9 r10 r11 r12 r13 r15 r16 r17 : Option W} {l : Nat} {X : LH} (hl : l = H.length) (hX : X = H ++ [st.map .d]) {Q : Kt (Fl × Env × LH)} (q : ∀ y15 y16, Q.run (.nxt, [r0, r1, r2, r3, r4, r5, r6, r7, r8, r9, r10, r11, r12, r13, some (.l l), y15, y16, r17], H ++ [(sb st bl.as).map .d])) : @Wp _ (forItems (fb (cx j) (.t [15, 16]) l0_law_store_steps) (bl.as.map (W.d ∘ asD)) [r0, r1, r2, r3, r4, r5, r6, r7, r8, r9, r10, r11, r12, r13, some (.l l), r15, r16, r17] X) Q := by
  subst hl hX
  obtain ⟨y15, y16, e⟩ := own_loop hs hj H r0 r1 r2 r3 r4 r5 r6 r7 r8 r9 r10 r11 r12 r13 r15 r16 r17
  exact ⟨_, e, q y15 y16⟩
theorem store_steps_ok {p : Prg} {st : List D} {most : Nat} (s : Sml p) (hm : most ≤ 10000) (hs : SafeRun p most 0 st) (hst : st.length ≤ 1000) (O : W) : ∀ j, 56 ≤ j → ∀ h, call JP j f_law_store_steps [.d p.d, O, .d (.b true), .d (.t st), .d (.i most)] h = some (.d (.i (stN p nof most 0 st : Nat)), h) := by
  intro j hj h
  obtain ⟨j, rfl⟩ : ∃ i, j = i + 1 := ⟨j - 1, by omega⟩
  have := pw (f := f_law_store_steps) (ws := [.d p.d, O, .d (.b true), .d (.t st), .d (.i most)]) (j := j) (h := h) (Q := fun q => q = (.d (.i (stN p nof most 0 st : Nat)), h)) b_law_store_steps rfl rfl (by
    have hsl : st.length ≤ 16777216 := by omega
    simp [b_law_store_steps, Prg.d, hsl, inR_nat most (by omega), range_nat]
    refine wp_items (g := fun (k : Nat) => W.d (.i k)) (fun pre ρ H => ∃ b st' f x9 x10 x11 x12 x13 x14 x15 x16 K, ρ = [some (.d p.d), some O, some (.d (.b true)), some (.d (.t st)), some (.d (.i most)), some (.d (.t (p.bl.map Blk.d))), some (.d (.i (b : Nat))), some (.d (.t st')), some (.d (.i (f : Nat))), x9, x10, x11, x12, x13, x14, x15, x16, none] ∧ H = h ++ K ∧ SafeRun p (most - pre.length) b st' ∧ f + stN p nof (most - pre.length) b st' = stN p nof most 0 st) (xs := List.range most) [] ?_ ?_ ?_
    · exact ⟨0, st, 0, none, none, none, none, none, none, none, none, [], by simp [Prg.d], by simp, by simpa using hs, by simp⟩
    · rintro pre k post e ρ H ⟨b, st', f, x9, x10, x11, x12, x13, x14, x15, x16, K, rfl, rfl, hsr, hsum⟩
      have hpl : pre.length < most := by
        have := congrArg List.length e
        simp at this
        omega
      obtain ⟨n, hn⟩ : ∃ n, most - pre.length = n + 1 := ⟨most - pre.length - 1, by omega⟩
      have hn2 : most - (pre ++ [k]).length = n := by simp; omega
      rw [hn] at hsr hsum
      rw [hn2]
      obtain ⟨⟨bl, hb, hsb⟩, hrest⟩ := hsr
      rw [stN_succ p nof n b st' hb, show nof b = none from rfl] at hsum
      have hlt : b < p.bl.length := (List.getElem?_eq_some_iff.1 hb).1
      have hb' : p.bl[b] = bl := by rw [List.getElem?_eq_getElem hlt] at hb; simpa using hb
      have hmm := List.mem_of_getElem? hb
      have few := s.few bl hmm
      have hsm := s.small
      have e0 := fun ρ H => zeros_comp p (C := cx j) (i := 17) (by omega) ρ H
      have e1 := fun (w : W) (H : LH) hw => law_block_code_ok (fo := none) (adl := List.replicate p.bl.length 0) few (s.ok.bl bl hmm).2.2 (by simp) (w := w) (h := H) hw j (by omega)
      simp only [foL, foI] at e1
      have e2 := fun H => law_step hb hsb j (by omega) H
      have hst : stepP p b st' = stepB bl st' := by unfold stepP; rw [hb]
      rw [hst] at e2 hrest
      have hB := bC_bS (bl := bl) (adr (List.replicate p.bl.length 0)) st'
      have hsl' : st'.length ≤ 16777216 := by have := hsb.2.2; omega
      simp only [Prg.d, Blk.d] at e2 e1
      cases hjj : bl.j with
      | goto l =>
        simp only [hjj] at hB
        simp [stepB, hjj, outL, Jmp.d] at e2 hrest hsum e1
        have n0 : ¬ ((l : Int) < 0) := by omega
        simp [fb, l1_law_store_steps, Prg.d, ixN_nat _ _ hlt, hlt, hb', Blk.d, hjj, Jmp.d, e0, e1, e2, n0]
        exact ⟨l, sb st' bl.as, f + (bC none (adr (List.replicate p.bl.length 0)) bl).length, ⟨rfl, rfl, by omega⟩, hrest, by omega⟩
      | fin e =>
        simp only [hjj] at hB
        simp [stepB, hjj, outL, Jmp.d] at e2 hrest hsum e1
        simp [fb, l1_law_store_steps, Prg.d, ixN_nat _ _ hlt, hlt, hb', Blk.d, hjj, Jmp.d, e0, e1, e2]
        omega
      | test e l m =>
        simp only [hjj] at hB
        have hj2 := hsb.2.1
        rw [hjj] at hj2
        by_cases hz : zeroB (wo (sb st' bl.as) e) = true
        · simp [stepB, hjj, outL, Jmp.d, hz] at e2 hrest hsum e1 hB
          have n0 : ¬ ((m : Int) < 0) := by omega
          simp [fb, l1_law_store_steps, Prg.d, ixN_nat _ _ hlt, hlt, hb', Blk.d, hjj, Jmp.d, e0, e1, e2, n0, hsl']
          refine own_loop_wp hsb (by omega) (h ++ (K ++ [natl (List.replicate p.bl.length 0), (cD (bC none (adr (List.replicate p.bl.length 0)) bl)).map .d])) (by simp) (by simp) ?_
          intro y15 y16
          have e4 := law_worth e hj2.1 (.l (h.length + (K.length + 2))) (h ++ (K ++ [natl (List.replicate p.bl.length 0), (cD (bC none (adr (List.replicate p.bl.length 0)) bl)).map .d, (sb st' bl.as).map .d])) (by simp) j (by have := hj2.2; omega)
          have hz' : eqv (wo (sb st' bl.as) e) (.i 0) = true := by simpa [zeroB] using hz
          simp [e4, hz', n0]
          exact ⟨m, sb st' bl.as, f + bS none bl st', ⟨rfl, rfl, by omega⟩, hrest, by omega⟩
        · simp [stepB, hjj, outL, Jmp.d, hz] at e2 hrest hsum e1 hB
          have n0 : ¬ ((l : Int) < 0) := by omega
          simp [fb, l1_law_store_steps, Prg.d, ixN_nat _ _ hlt, hlt, hb', Blk.d, hjj, Jmp.d, e0, e1, e2, n0, hsl']
          refine own_loop_wp hsb (by omega) (h ++ (K ++ [natl (List.replicate p.bl.length 0), (cD (bC none (adr (List.replicate p.bl.length 0)) bl)).map .d])) (by simp) (by simp) ?_
          intro y15 y16
          have e4 := law_worth e hj2.1 (.l (h.length + (K.length + 2))) (h ++ (K ++ [natl (List.replicate p.bl.length 0), (cD (bC none (adr (List.replicate p.bl.length 0)) bl)).map .d, (sb st' bl.as).map .d])) (by simp) j (by have := hj2.2; omega)
          have hz' : eqv (wo (sb st' bl.as) e) (.i 0) = false := by simpa [zeroB] using hz
          simp [e4, hz', n0]
          exact ⟨l, sb st' bl.as, f + bS none bl st', ⟨rfl, rfl, by omega⟩, hrest, by omega⟩
    · rintro ρ H ⟨b, st', f, x9, x10, x11, x12, x13, x14, x15, x16, K, rfl, rfl, hsr, hsum⟩
      simp [stN] at hsum
      simp [hsum])
  obtain ⟨q, e1, rfl⟩ := this
  exact e1
end J
set_option maxRecDepth 10000
namespace J
theorem SafeRun.le {p : Prg} : ∀ {n m b : Nat} {st : List D}, SafeRun p n b st → m ≤ n → SafeRun p m b st
  | _, 0, b, st, h, hm => trivial
  | 0, m + 1, b, st, h, hm => by omega
  | n + 1, m + 1, b, st, h, hm => by
    obtain ⟨h1, h2⟩ := h
    refine ⟨h1, ?_⟩
    cases ho : stepP p b st with
    | go b' st' => rw [ho] at h2; exact SafeRun.le h2 (by omega)
    | ended x => trivial
/-- what a safe run gives is a thing -/
theorem run_thing {p : Prg} : ∀ {n b : Nat} {st : List D} {k : Nat} {x : D}, SafeRun p n b st → runP p n b st = some (k, x) → Th x
  | 0, b, st, k, x, _, h => by simp [runP] at h
  | n + 1, b, st, k, x, hs, h => by
    obtain ⟨⟨bl, hb, hsb⟩, hrest⟩ := hs
    unfold runP at h
    cases ho : stepP p b st with
    | ended y =>
      rw [ho] at h
      simp at h
      obtain ⟨rfl, rfl⟩ := h
      unfold stepP at ho
      rw [hb] at ho
      simp only at ho
      unfold stepB at ho
      have hj := hsb.2.1
      cases hj2 : bl.j with
      | goto l => rw [hj2] at ho; simp at ho
      | test e l m => rw [hj2] at ho; simp only at ho; split at ho <;> cases ho
      | fin e =>
        rw [hj2] at ho hj
        simp only [Out.ended.injEq] at ho
        subst ho
        exact hj.1.th
    | go b' st' =>
      rw [ho] at h hrest
      simp only [Option.map_eq_some_iff] at h
      obtain ⟨⟨k', y⟩, h1, h2⟩ := h
      simp at h2
      obtain ⟨rfl, rfl⟩ := h2
      exact run_thing hrest h1
theorem stN_le {p : Prg} (few : ∀ b ∈ p.bl, Few b) : ∀ (n b : Nat) (st : List D), stN p nof n b st ≤ 4016 * n
  | 0, b, st => by simp [stN]
  | n + 1, b, st => by
    cases hb : p.bl[b]? with
    | none => rw [stN, hb]; simp
    | some bl =>
      rw [stN_succ p nof n b st hb, show nof b = none from rfl]
      have h1 := bC_len (few bl (List.mem_of_getElem? hb)) none (fun _ => 0)
      have h2 := bC_bS (bl := bl) (fun _ => 0) st
      have h3 : bS none bl st ≤ (bC none (fun _ => 0) bl).length := by
        unfold bS bC
        cases bl.j with
        | goto l => simp [jC, toC, jS, tS]
        | test e l m => by_cases hz : zeroB (wo (sb st bl.as) e) = true <;> simp [jC, toC, jS, tS, hz]
        | fin e => simp [jC, jS]
      cases stepB bl st with
      | go b' st' => have := stN_le few n b' st'; simp only; omega
      | ended x => simp only; omega
theorem same_res (n : Nat) (r : Option (Nat × D)) (hr : ∀ k x, r = some (k, x) → Dt 60 x) : Pu 62 f_law_same [.d (resD n r), .d (resD n r)] (.b true) := by
  refine same (n := 61) ?_
  cases r with
  | none => simp [resD, dt_t]
  | some r =>
    have := hr r.1 r.2 rfl
    simp [resD, dt_t, this]
theorem is_run_ok {p : Prg} {st : List D} {most : Nat} (s : Sml p) (hm : most ≤ 40) (hs : SafeRun p most 0 st) (hst : st.length ≤ 1000) : Pu 70 f_law_is_run_v1 [.d p.d, .d (.t st), .d (.i most)] (.b true) := by
  refine pu (d := b_law_is_run_v1) rfl rfl fun j hj h => ?_
  have hsm := s.small
  have ra : ∀ k x, runP p most 0 st = some (k, x) → Dt 60 x := fun k x e => ((run_thing hs e).dt (by omega)).up (by omega)
  have e1 := target_ok s j (by omega) h
  have e2 := law_run_ok (p := p) (st := st) (most := most) (by omega) hst hs j (by omega) h
  have e3 := fun O => store_steps_ok s (by omega) hs hst O j (by omega) h
  have e4 := target_steps_ok s (by omega) hs hst j (by omega) h
  have e5 := same (dt_i 1 (stN p nof most 0 st)) j (by omega) h
  have e6 := run_ok (p := p) (st := st) (most := most) (by omega) hs j (by omega) h
  have e7 := same_res most (runP p most 0 st) ra j (by omega) h
  obtain ⟨S1, S2⟩ := sim_run (laid_own p) most 0 st hs
  rw [adr_0 s.ok.ne] at S1 S2
  have hle := stN_le s.few most 0 st
  generalize stN p nof most 0 st = N at *
  generalize hC : codeP p nof (List.range p.bl.length) = C at *
  have rc : ∀ n : Nat, n ≤ N → call JP j f_run_code [.d (.t (cD C)), .d (.t st), .d (.i n)] h = some (.d (resD n (runM C n 0 [] st)), h) := fun n hn => run_code_ok (by omega) (S1.le hn) j (by omega) h
  have hr := range_nat p.bl.length
  have hn := natl_d (List.range p.bl.length)
  rw [← hn] at hr
  have hlr : (natD (List.range p.bl.length)).length ≤ 16777216 := by simp; omega
  have l4 : p.bl.length ≤ 16777216 := by omega
  have hR := inR_nat p.bl.length (by omega)
  have so := fun n : Nat => same_res n none (fun k x e => by cases e) j (by omega) h
  simp only [resD] at so
  simp only [Prg.d] at e1 e2 e3 e4 e6
  cases hp : runP p most 0 st with
  | none =>
    rw [hp] at e2 e6 e7 S2
    simp only [resD, Option.map_none] at e2 e6 e7 S2
    by_cases h4 : 400 < N
    · have h4' : (400 : Int) < N := by omega
      have r4 := rc 400 (by omega)
      rw [runM_none S2 (by omega)] at r4
      have so4 := so 400
      simp [resD] at r4 so4
      simp [b_law_is_run_v1, Prg.d, hR, hr, l4, e1, e2, e3, e4, e5, e6, e7, h4', h4, r4, so4]
    · have h4' : ¬ (400 : Int) < N := by omega
      have r4 := rc N (by omega)
      rw [S2] at r4
      have so4 := so N
      simp [resD] at r4 so4
      simp [b_law_is_run_v1, Prg.d, hR, hr, l4, e1, e2, e3, e4, e5, e6, e7, h4', h4, r4, so4]
  | some r =>
    obtain ⟨k, x⟩ := r
    rw [hp] at e2 e6 e7 S2
    simp only [resD, Option.map_some] at e2 e6 e7 S2
    by_cases h4 : 400 < N
    · have h4' : (400 : Int) < N := by omega
      have r4 := rc 400 (by omega)
      rw [runM_less S2 h4] at r4
      have so4 := so 400
      simp [resD] at r4 so4
      simp [b_law_is_run_v1, Prg.d, hR, hr, l4, e1, e2, e3, e4, e5, e6, e7, h4', h4, r4, so4]
    · have h4' : ¬ (400 : Int) < N := by omega
      have r4 := rc N (by omega)
      rw [S2] at r4
      have so4 := same_res N (some (N, x)) (fun k' x' e => by cases e; exact ra k x hp) j (by omega) h
      simp [resD] at r4 so4
      by_cases h1 : N = 1
      · subst h1
        simp at e3 e4 e5 r4 so4
        simp [b_law_is_run_v1, Prg.d, hR, hr, l4, e1, e2, e3, e4, e5, e6, e7, r4, so4]
      · have hpos : 1 ≤ N := by
          rcases Nat.eq_zero_or_pos N with h0 | h0
          · rw [h0] at S2; cases S2
          · exact h0
        have r5 := rc (N - 1) (by omega)
        rw [runM_less S2 (by omega)] at r5
        have so5 := so (N - 1)
        have cN : ((N - 1 : Nat) : Int) = (N : Int) - 1 := by omega
        simp [resD, cN] at r5 so5
        have h1' : ¬ ((N : Int) = 1) := by omega
        simp [b_law_is_run_v1, Prg.d, hR, hr, l4, e1, e2, e3, e4, e5, e6, e7, h4', h4, r4, so4, r5, so5, h1, h1']
theorem range_1 (m : Nat) : range 1 ((m : Int) + 1) = (List.range m).map fun (k : Nat) => W.d (.i ((k + 1 : Nat) : Int)) := by
  simp [range]
  intro a ha
  omega
theorem intsL_f {α : Type} (f : α → Nat) : ∀ T : List α, intsL (T.map fun q => W.d (.i (f q : Int))) = some (T.map fun q => (f q : Int))
  | [] => rfl
  | x :: r => by simp only [List.map_cons, intsL, intsL_f f r]
theorem sum_f {α : Type} (f : α → Nat) : ∀ T : List α, (T.map fun q => (f q : Int)).sum = ((T.map f).sum : Nat)
  | [] => rfl
  | x :: r => by simp only [List.map_cons, List.sum_cons, sum_f f r]; omega
theorem sum_l {α : Type} {h : LH} {a : Nat} {T : List α} {f : α → Nat} (ha : h[a]? = some (T.map fun q => W.d (.i (f q : Int)))) : builtin h .sum [.l a] = some (.d (.i ((T.map f).sum : Nat)), h) := by
  have h1 := intsL_f f T
  have h2 := sum_f f T
  show (match h[a]? with
    | some ws => match intsL ws with
      | some xs => some (W.d (.i xs.sum), h)
      | none => none
    | none => none) = _
  rw [ha]
  dsimp only
  rw [h1]
  dsimp only
  rw [h2]
theorem blocks_met_ok {p : Prg} {st : List D} {most : Nat} (s : Sml p) (hm : most ≤ 40) (hs : SafeRun p most 0 st) (hst : st.length ≤ 1000) : Pu 70 f_law_are_blocks_met [.d p.d, .d (.t st), .d (.i most)] (.b true) := by
  intro j hj h
  obtain ⟨j, rfl⟩ : ∃ i, j = i + 1 := ⟨j - 1, by omega⟩
  have := pw (f := f_law_are_blocks_met) (ws := [.d p.d, .d (.t st), .d (.i most)]) (j := j) (h := h) (Q := fun q => q = (.d (.b true), h)) b_law_are_blocks_met rfl rfl (by
    have hsm := s.small
    have e1 := fun H => way_ok (by omega) hs j (by omega) H
    have e2 := fun H => book_ok s (by omega) hs j (by omega) H
    have hl := trace_len p most 0 st
    have hsf := trace_safe hs
    generalize trace p most 0 st = T at *
    have e3 := fun H => works_ok (p := p) (T := T) (fun q hq => by obtain ⟨bl, hb, _⟩ := hsf q hq; exact ⟨bl, hb⟩) j (by omega) H
    have e4 := fun H => same (dt_i 1 ((T.map (wk p)).sum : Nat)) j (by omega) H
    have e5 := fun H => same (natD_dt (T.map Prod.fst) (by simp; omega)) j (by omega) H
    have l1 : T.length ≤ 16777216 := by omega
    have c1 : ∀ (r1 r2 r3 r4 r5 r6 r7 r8 : Option W) (H : LH), compItems (turn (.n 8) [some (.d p.d), r1, r2, r3, r4, r5, r6, r7, r8] (evc (cx j) none) (ev (cx j) (.bin .add (.bi .len [.ix (.ix (.ix (.var 0) (.c (.i 1))) (.ix (.var 8) (.c (.i 0)))) (.c (.i 0))]) (.c (.i 1))))) (T.map (W.d ∘ lineD p)) [] H = some (T.map fun q => W.d (.i (wk p q : Int)), H) := by
      intro r1 r2 r3 r4 r5 r6 r7 r8 H
      refine comp_map (g := W.d ∘ lineD p) (fun q => W.d (.i (wk p q : Int))) (fun q hq => ?_) (by omega)
      obtain ⟨bl, hb, hsb⟩ := hsf q hq
      have hlt : q.1 < p.bl.length := (List.getElem?_eq_some_iff.1 hb).1
      have hb' : p.bl[q.1] = bl := by rw [List.getElem?_eq_getElem hlt] at hb; simpa using hb
      have hw : wk p q = bl.as.length + 1 := by unfold wk; rw [hb]
      simp [line_items hb, Prg.d, ixN_nat _ _ hlt, hlt, hb', Blk.d, hw]
    have c2 : ∀ (r0 r1 r2 r3 r4 r5 r6 r7 r8 : Option W) (H : LH), compItems (turn (.n 8) [r0, r1, r2, r3, r4, r5, r6, r7, r8] (evc (cx j) none) (ev (cx j) (.ix (.var 8) (.c (.i 0))))) (T.map (W.d ∘ lineD p)) [] H = some ((natD (T.map Prod.fst)).map W.d, H) := by
      intro r0 r1 r2 r3 r4 r5 r6 r7 r8 H
      have := comp_map (C := cx j) (e := .ix (.var 8) (.c (.i 0))) (i := 8) (ρ := [r0, r1, r2, r3, r4, r5, r6, r7, r8]) (h := H) (g := W.d ∘ lineD p) (fun q => W.d (.i q.1)) (xs := T) (fun q hq => by
        obtain ⟨bl, hb, hsb⟩ := hsf q hq
        simp [line_items hb]) (by omega)
      rw [this]
      simp [natD]
    have su := sum_l (h := h ++ [T.map fun q => W.d (.i (wk p q : Int))]) (a := h.length) (T := T) (f := wk p) (by simp)
    have hr := range_nat p.bl.length
    have hn := natl_d (List.range p.bl.length)
    rw [← hn] at hr
    have l4 : p.bl.length ≤ 16777216 := by omega
    have hR := inR_nat p.bl.length (by omega)
    have hr1 := range_1 T.length
    have hR1 := inR_nat (T.length + 1) (by omega)
    simp at hR1 hr1
    have c3 : ∀ (r2 r3 r4 r5 r6 r7 r8 : Option W) (H : LH), compItems (turn (.n 7) [some (.d p.d), some (.d (.t st)), r2, r3, r4, r5, r6, r7, r8] (evc (cx j) none) (ev (cx j) (.call f_law_store_steps [.var 0, .ofIt true (.r1 (.bi .len [.ix (.var 0) (.c (.i 1))])), .c (.b true), .var 1, .var 7]))) ((List.range T.length).map fun (k : Nat) => W.d (.i ((k : Int) + 1))) [] H = some ((natD ((List.range T.length).map fun k => stN p nof (k + 1) 0 st)).map W.d, H) := by
      intro r2 r3 r4 r5 r6 r7 r8 H
      have := comp_map (C := cx j) (e := .call f_law_store_steps [.var 0, .ofIt true (.r1 (.bi .len [.ix (.var 0) (.c (.i 1))])), .c (.b true), .var 1, .var 7]) (i := 7) (ρ := [some (.d p.d), some (.d (.t st)), r2, r3, r4, r5, r6, r7, r8]) (h := H) (g := fun (k : Nat) => W.d (.i ((k : Int) + 1))) (fun k => W.d (.i (stN p nof (k + 1) 0 st : Nat))) (xs := List.range T.length) (fun k hk => by
        have hk := List.mem_range.1 hk
        have e6 := fun O => store_steps_ok s (most := k + 1) (by omega) (hs.le (by omega)) hst O j (by omega) H
        simp [Prg.d] at e6
        simp [Prg.d, hR, hr, l4, e6]) (by simp; omega)
      rw [this]
      simp [natD]
    have c4 : ∀ (r2 r3 r4 r5 r6 r7 r8 : Option W) (H : LH), compItems (turn (.n 7) [some (.d p.d), some (.d (.t st)), r2, r3, r4, r5, r6, r7, r8] (evc (cx j) none) (ev (cx j) (.call f_target_steps [.var 0, .var 1, .var 7]))) ((List.range T.length).map fun (k : Nat) => W.d (.i ((k : Int) + 1))) [] H = some ((natD ((List.range T.length).map fun k => stN p nof (k + 1) 0 st)).map W.d, H) := by
      intro r2 r3 r4 r5 r6 r7 r8 H
      have := comp_map (C := cx j) (e := .call f_target_steps [.var 0, .var 1, .var 7]) (i := 7) (ρ := [some (.d p.d), some (.d (.t st)), r2, r3, r4, r5, r6, r7, r8]) (h := H) (g := fun (k : Nat) => W.d (.i ((k : Int) + 1))) (fun k => W.d (.i (stN p nof (k + 1) 0 st : Nat))) (xs := List.range T.length) (fun k hk => by
        have hk := List.mem_range.1 hk
        have e6 := target_steps_ok s (most := k + 1) (by omega) (hs.le (by omega)) hst j (by omega) H
        simp at e6
        simp [e6]) (by simp; omega)
      rw [this]
      simp [natD]
    have e7 := fun H => same (natD_dt ((List.range T.length).map fun k => stN p nof (k + 1) 0 st) (by simp; omega)) j (by omega) H
    generalize hN : natD ((List.range T.length).map fun k => stN p nof (k + 1) 0 st) = N at *
    have hNl : N.length ≤ 16777216 := by rw [← hN]; simp; omega
    simp -implicitDefEqProofs [b_law_are_blocks_met, e1, e2, e3, e4, e5, c1, c2, c3, c4, su, l1, e7, hR1, hr1, hNl])
  obtain ⟨q, e1, rfl⟩ := this
  exact e1
end J
set_option maxRecDepth 10000
namespace J
theorem sml_of {F M : Nat} {p : Prg} (m : MildP F M p) (hM : M ≤ 1000) (hs : p.bl.length ≤ 7) : Sml p where
  ok := m.ok hM (by omega)
  few := fun b hb => ⟨by have := (m.bl b hb).1; omega, (m.bd.nest b hb).mono (by omega)⟩
  small := hs
theorem mild_safe {F M : Nat} {p : Prg} (m : MildP F M p) (hM : M ≤ 1000) (hs : p.bl.length ≤ 1000) {st : List D} (hl : st.length = M) (ht : ∀ x ∈ st, Tn 2 10 x) (n : Nat) (hn : n ≤ 1000) : SafeRun p n 0 st := by
  have ok := m.ok hM hs
  have := ok.ne
  exact safe_run ok m.bd (by omega) n 0 10 st (by omega) (st_ok ht) (Nat.le_refl _) (by rw [m.many]; exact hl) (by omega)
end J
set_option maxRecDepth 100000
/-! Layouts: orders. -/
namespace J
/-- a call given data that gives a list of data, run over the empty heap, does the same over every heap -/
theorem closedL {P : Prog} {k f : Nat} {xs ys : List D} (e : call P k f (xs.map .d) [] = some (.l 0, [ys.map .d])) (h : LH) : call P k f (xs.map .d) h = some (.l h.length, h ++ [ys.map .d]) := by
  have := sh_call (X := h) P k f (xs.map .d) []
  rw [shs_d, shT_nil, e] at this
  simpa [shR, sh, shT] using this
def endsL (ys : List D) : Option (W × LH) → Bool
  | some (.l 0, [ws]) => (match allD ws with
    | some zs => bqD (.t zs) (.t ys)
    | none => false)
  | _ => false
theorem allD_back : ∀ {ws : List W} {zs : List D}, allD ws = some zs → ws = zs.map .d
  | [], zs, h => by simp [allD] at h; subst h; rfl
  | .d x :: r, zs, h => by
    unfold allD at h
    split at h
    · rename_i ys hy
      cases h
      rw [allD_back hy]; rfl
    · cases h
  | .l _ :: r, zs, h => by simp [allD] at h
theorem endsL_eq {ys : List D} {z : Option (W × LH)} (h : endsL ys z = true) : z = some (.l 0, [ys.map .d]) := by
  unfold endsL at h
  split at h
  · rename_i ws
    split at h
    · rename_i zs hz
      have := bqD_eq _ _ h
      simp at this
      subst this
      rw [allD_back hz]
    · cases h
  · cases h
theorem closedLB {P : Prog} {k f : Nat} {xs : List D} (ys : List D) (e : endsL ys (call P k f (xs.map .d) []) = true) (h : LH) : call P k f (xs.map .d) h = some (.l h.length, h ++ [ys.map .d]) := closedL (endsL_eq e) h
def ordsN (n : Nat) : Nat → List (List Nat)
  | 0 => [[0]]
  | k + 1 => (ordsN n k).flatMap fun o => ((List.range n).filter fun k => !o.contains k).map fun k => o ++ [k]
/-- all orders of n blocks, 0 first -/
def ords (n : Nat) : List (List Nat) := ordsN n (n - 1)
def ordD (n : Nat) : List D := (ords n).map fun o => .t (natD o)
theorem all_orders_ok {n : Nat} (h1 : 1 ≤ n) (h5 : n ≤ 5) (h : LH) : call JP 79 f_all_orders [.d (.i n)] h = some (.l h.length, h ++ [(ordD n).map .d]) := by
  have : n = 1 ∨ n = 2 ∨ n = 3 ∨ n = 4 ∨ n = 5 := by omega
  rcases this with rfl | rfl | rfl | rfl | rfl
  · exact closedLB (xs := [.i 1]) (ordD 1) (by decide +kernel) h
  · exact closedLB (xs := [.i 2]) (ordD 2) (by decide +kernel) h
  · exact closedLB (xs := [.i 3]) (ordD 3) (by decide +kernel) h
  · exact closedLB (xs := [.i 4]) (ordD 4) (by decide +kernel) h
  · exact closedLB (xs := [.i 5]) (ordD 5) (by decide +kernel) h
theorem law_orders_ok {n : Nat} (h1 : 1 ≤ n) (h5 : n ≤ 5) (h : LH) : call JP 80 f_law_orders [.d (.i n)] h = some (.l h.length, h ++ [(ordD n).map .d]) := by
  have : n = 1 ∨ n = 2 ∨ n = 3 ∨ n = 4 ∨ n = 5 := by omega
  rcases this with rfl | rfl | rfl | rfl | rfl
  · exact closedLB (xs := [.i 1]) (ordD 1) (by decide +kernel) h
  · exact closedLB (xs := [.i 2]) (ordD 2) (by decide +kernel) h
  · exact closedLB (xs := [.i 3]) (ordD 3) (by decide +kernel) h
  · exact closedLB (xs := [.i 4]) (ordD 4) (by decide +kernel) h
  · exact closedLB (xs := [.i 5]) (ordD 5) (by decide +kernel) h
/-- each of them is one: 0 first, each block once -/
def isOrd (n : Nat) (o : List Nat) : Prop := o.length = n ∧ o.Nodup ∧ (∀ b, b < n → b ∈ o) ∧ (∀ b ∈ o, b < n) ∧ o.head? = some 0
instance (n : Nat) (o : List Nat) : Decidable (isOrd n o) := by unfold isOrd; infer_instance
theorem ords_ok {n : Nat} (h1 : 1 ≤ n) (h5 : n ≤ 5) : ∀ o ∈ ords n, isOrd n o := by
  have : n = 1 ∨ n = 2 ∨ n = 3 ∨ n = 4 ∨ n = 5 := by omega
  rcases this with rfl | rfl | rfl | rfl | rfl <;> decide +kernel
theorem ords_ne {n : Nat} (h1 : 1 ≤ n) (h5 : n ≤ 5) : ords n ≠ [] := by
  have : n = 1 ∨ n = 2 ∨ n = 3 ∨ n = 4 ∨ n = 5 := by omega
  rcases this with rfl | rfl | rfl | rfl | rfl <;> decide +kernel
end J
set_option maxRecDepth 10000
/-! Heights of blocks that others follow. -/
namespace J
def zTo (fo : Option Nat) (ad : Nat → Nat) (l : Nat) : List IH := if fo = some l then [] else [(.jump (ad l), 0)]
def zJf (fo : Option Nat) (ad : Nat → Nat) : Jmp → List IH
  | .goto l => zTo fo ad l
  | .test e l m => zE 0 e ++ ([(.unl (ad m), 1)] ++ zTo fo ad l)
  | .fin e => zE 0 e ++ [(.halt, 1)]
def zBf (fo : Option Nat) (ad : Nat → Nat) (b : Blk) : List IH := zAs b.as ++ zJf fo ad b.j
theorem zTo_fst (fo : Option Nat) (ad : Nat → Nat) (l : Nat) : (zTo fo ad l).map Prod.fst = toC fo ad l := by unfold zTo toC; split <;> rfl
theorem zBf_fst (fo : Option Nat) (ad : Nat → Nat) (b : Blk) : (zBf fo ad b).map Prod.fst = bC fo ad b := by
  unfold zBf bC
  rw [List.map_append, zAs_fst]
  cases b.j with
  | goto l => simp [zJf, jC, zTo_fst]
  | test e l m => simp [zJf, jC, zTo_fst, zE_fst]
  | fin e => simp [zJf, jC, zE_fst]
/-- a block's code begins with nothing on the pile, or is empty -/
theorem zBf_head (fo : Option Nat) (ad : Nat → Nat) (b : Blk) : (∃ i r, zBf fo ad b = (i, 0) :: r) ∨ (zBf fo ad b = [] ∧ ∃ l, b.j = .goto l ∧ fo = some l) := by
  unfold zBf
  cases has : b.as with
  | cons x r => obtain ⟨i, r', h⟩ := zE_head x.2 0; exact .inl ⟨i, _, by simp only [zAs, List.flatMap_cons]; rw [h]; rfl⟩
  | nil =>
    cases hj : b.j with
    | goto l =>
      by_cases hf : fo = some l
      · exact .inr ⟨by simp [zAs, zJf, zTo, hf], l, rfl, hf⟩
      · exact .inl ⟨_, [], by simp only [zAs, List.flatMap_nil, List.nil_append, zJf, zTo, if_neg hf]; rfl⟩
    | test e l m => obtain ⟨i, r, h⟩ := zE_head e 0; exact .inl ⟨i, _, by simp only [zAs, List.flatMap_nil, List.nil_append, zJf]; rw [h]; rfl⟩
    | fin e => obtain ⟨i, r, h⟩ := zE_head e 0; exact .inl ⟨i, _, by simp only [zAs, List.flatMap_nil, List.nil_append, zJf]; rw [h]; rfl⟩
theorem gTo {Z : List IH} {fo : Option Nat} {ad : Nat → Nat} {l a : Nat} (sg : SegZ Z a (zTo fo ad l)) (hf : fo = some l → ad l = a) (hx : Nx Z (ad l) 0) : Goods Z a (toC fo ad l).length ∧ Nx Z a 0 := by
  unfold zTo at sg
  unfold toC
  by_cases h : fo = some l
  · rw [if_pos h]
    exact ⟨fun k hk => by simp at hk, by rw [← hf h]; exact hx⟩
  · rw [if_neg h] at sg ⊢
    refine ⟨Goods.one sg.get (by simp [Ins.tk]) ?_, ⟨_, sg.get⟩⟩
    intro w hw
    simp [ways] at hw
    subst hw
    exact hx
theorem gBf {Z : List IH} {fo : Option Nat} {ad : Nat → Nat} {b : Blk} {a M size : Nat} (sg : SegZ Z a (zBf fo ad b)) (ho : b.j.Ok M size) (hf : ∀ l, fo = some l → ad l = a + (bC fo ad b).length) (hx : ∀ l, l < size → Nx Z (ad l) 0) : Goods Z a (bC fo ad b).length := by
  have s2 := sg.right
  rw [zAs_len] at s2
  have hlen : (bC fo ad b).length = (asC b.as).length + (jC fo ad b.j).length := by simp [bC]
  rw [hlen] at hf ⊢
  cases hj : b.j with
  | goto l =>
    rw [hj] at s2 ho hf
    have g2 := gTo (fo := fo) (ad := ad) (l := l) s2 (fun h => by rw [hf l h]; simp [jC, toC, h]) (hx l ho)
    have g1 := gAs b.as sg.left g2.2
    exact g1.1.app g2.1
  | test e l m =>
    rw [hj] at s2 ho hf
    have s3 := s2.right
    rw [zE_len] at s3
    have s4 : SegZ Z (a + (asC b.as).length + (code e).length + 1) (zTo fo ad l) := s3.right
    have g4 := gTo (fo := fo) (ad := ad) (l := l) s4 (fun h => by rw [hf l h]; simp [jC, toC, h]; omega) (hx l ho.2.1)
    have g3 : Goods Z (a + (asC b.as).length + (code e).length) 1 := Goods.one s3.get (by simp [Ins.tk]) (by
      intro w hw
      simp [ways] at hw
      rcases hw with rfl | rfl
      · exact g4.2
      · exact hx m ho.2.2)
    have g2 := gE e s2.left ⟨_, s3.get⟩
    have g1 := gAs b.as sg.left g2.2
    have : (jC fo ad (.test e l m)).length = (code e).length + (1 + (toC fo ad l).length) := by simp [jC]; omega
    rw [this]
    exact g1.1.app (g2.1.app (g3.app g4.1))
  | fin e =>
    rw [hj] at s2 ho
    have s3 := s2.right
    rw [zE_len] at s3
    have g2 := gE e s2.left ⟨_, s3.get⟩
    have g1 := gAs b.as sg.left g2.2
    have g3 : Goods Z (a + (asC b.as).length + (code e).length) 1 := Goods.one s3.get (by simp [Ins.tk]) (by
      intro w hw
      simp [ways] at hw)
    have : (jC fo ad (.fin e)).length = (code e).length + 1 := by simp [jC]
    rw [this]
    exact g1.1.app (g2.1.app g3)
end J
set_option maxRecDepth 10000
namespace J
/-- a layout: each block once, 0 first; each follows the one ahead of it -/
structure Ly (p : Prg) (fo : Nat → Option Nat) (order : List Nat) : Prop where
  lo : Lo p fo order
  nd : order.Nodup
  all : ∀ b, b < p.bl.length → b ∈ order
  nx : ∀ o1 b o2, order = o1 ++ b :: o2 → fo b = o2.head?
  z : order.head? = some 0
section
variable {p : Prg} {fo : Nat → Option Nat} {order : List Nat}
theorem Ly.out (L : Ly p fo order) {o1 o2 : List Nat} {b : Nat} (e : order = o1 ++ b :: o2) : b < p.bl.length ∧ b ∉ o2 := by
  refine ⟨L.lo.lt b (by rw [e]; simp), ?_⟩
  have := L.nd
  rw [e] at this
  exact (List.nodup_cons.1 (List.nodup_append.1 this).2.1).1
theorem Ly.ad (L : Ly p fo order) {o1 o2 : List Nat} {b : Nat} (e : order = o1 ++ b :: o2) : adr (adP p fo order) b = (adS p fo o1).2 := by
  obtain ⟨h1, h2⟩ := L.out e
  conv => lhs; rw [e]
  exact adP_at h1 h2
theorem Ly.ad_next (L : Ly p fo order) {o1 o2 : List Nat} {b c : Nat} (e : order = o1 ++ b :: c :: o2) : adr (adP p fo order) c = adr (adP p fo order) b + lenB p fo b := by
  rw [L.ad (show order = (o1 ++ [b]) ++ c :: o2 by rw [e]; simp), L.ad e, adS_app]
theorem Ly.follow (L : Ly p fo order) {b : Nat} {bl : Blk} (hb : p.bl[b]? = some bl) : ∀ l, fo b = some l → adr (adP p fo order) l = adr (adP p fo order) b + (bC (fo b) (adr (adP p fo order)) bl).length := by
  intro l hl
  have hlt : b < p.bl.length := (List.getElem?_eq_some_iff.1 hb).1
  obtain ⟨o1, o2, e⟩ := List.append_of_mem (L.all b hlt)
  have hn := L.nx o1 b o2 e
  rw [hl] at hn
  cases o2 with
  | nil => cases hn
  | cons c o2 =>
    simp at hn
    subst hn
    have hB : lenB p fo b = (bC (fo b) (adr (adP p fo order)) bl).length := by unfold lenB; rw [hb]; exact bC_n _ _ _ _
    rw [L.ad_next e, hB]
theorem Ly.laid (L : Ly p fo order) : Laid (codeP p fo order) p fo (adr (adP p fo order)) := fun b bl hb =>
  ⟨laid_seg L.nd L.all hb, L.follow hb⟩
theorem Ly.zero (L : Ly p fo order) : adr (adP p fo order) 0 = 0 := by
  obtain ⟨r, e⟩ : ∃ r, order = 0 :: r := by
    have := L.z
    cases order with
    | nil => cases this
    | cons a r => simp at this; exact ⟨r, by rw [this]⟩
  rw [L.ad (o1 := []) (o2 := r) (by simpa using e)]
  rfl
def zblf (p : Prg) (fo : Nat → Option Nat) (ad : Nat → Nat) (b : Nat) : List IH := match p.bl[b]? with
  | some bl => zBf (fo b) ad bl
  | none => []
def zPf (p : Prg) (fo : Nat → Option Nat) (order : List Nat) : List IH := order.flatMap (zblf p fo (adr (adP p fo order)))
theorem zblf_fst (p : Prg) (fo : Nat → Option Nat) (ad : Nat → Nat) (b : Nat) : (zblf p fo ad b).map Prod.fst = blC p fo ad b := by
  unfold zblf blC
  cases p.bl[b]? with
  | none => rfl
  | some bl => exact zBf_fst _ ad bl
theorem flatf_fst (p : Prg) (fo : Nat → Option Nat) (ad : Nat → Nat) (o : List Nat) : (o.flatMap (zblf p fo ad)).map Prod.fst = o.flatMap (blC p fo ad) := by
  rw [List.map_flatMap]
  congr 1
  funext b
  exact zblf_fst p fo ad b
theorem flatf_len (p : Prg) (fo : Nat → Option Nat) (ad : Nat → Nat) (o : List Nat) : (o.flatMap (zblf p fo ad)).length = (adS p fo o).2 := by
  rw [adS_sum p fo ad, ← flatf_fst]; simp
theorem Ly.seg (L : Ly p fo order) {o1 o2 : List Nat} {b : Nat} (e : order = o1 ++ b :: o2) : SegZ (zPf p fo order) (adr (adP p fo order) b) (zblf p fo (adr (adP p fo order)) b) := by
  refine ⟨o1.flatMap (zblf p fo (adr (adP p fo order))), o2.flatMap (zblf p fo (adr (adP p fo order))), ?_, ?_⟩
  · unfold zPf
    conv => lhs; rw [show order.flatMap (zblf p fo (adr (adP p fo order))) = (o1 ++ b :: o2).flatMap (zblf p fo (adr (adP p fo order))) by rw [← e]]
    rw [List.flatMap_append, List.flatMap_cons]
  · rw [flatf_len, L.ad e]
theorem Ly.nx0 (L : Ly p fo order) : ∀ (o2 o1 : List Nat) (b : Nat), order = o1 ++ b :: o2 → Nx (zPf p fo order) (adr (adP p fo order) b) 0
  | o2, o1, b, e => by
    have sg := L.seg e
    obtain ⟨hlt, _⟩ := L.out e
    have hz : zblf p fo (adr (adP p fo order)) b = zBf (fo b) (adr (adP p fo order)) p.bl[b] := by unfold zblf; rw [List.getElem?_eq_getElem hlt]
    rw [hz] at sg
    rcases zBf_head (fo b) (adr (adP p fo order)) p.bl[b] with ⟨i, r, h⟩ | ⟨h, l, hj, hf⟩
    · rw [h] at sg
      exact ⟨i, sg.get⟩
    · cases o2 with
      | nil => rw [L.nx o1 b [] e] at hf; cases hf
      | cons c o2 =>
        have ih := Ly.nx0 L o2 (o1 ++ [b]) c (by rw [e]; simp)
        have hl : lenB p fo b = 0 := by
          have h2 := zBf_fst (fo b) (adr (adP p fo order)) p.bl[b]
          rw [h] at h2
          unfold lenB
          rw [List.getElem?_eq_getElem hlt]
          show (bC (fo b) (fun _ => 0) p.bl[b]).length = 0
          rw [bC_n (fo b) (fun _ => 0) (adr (adP p fo order)) p.bl[b], ← h2]; rfl
        have := L.ad_next e
        rw [hl] at this
        rw [this] at ih
        exact ih
  termination_by o2 => o2.length
end
end J
set_option maxRecDepth 10000
namespace J
section
variable {p : Prg} {fo : Nat → Option Nat} {order : List Nat}
def HsPf (p : Prg) (fo : Nat → Option Nat) (order : List Nat) (a : Nat) : Nat := (((zPf p fo order)[a]?).map Prod.snd).getD 0
theorem zPf_fst (p : Prg) (fo : Nat → Option Nat) (order : List Nat) : (zPf p fo order).map Prod.fst = codeP p fo order := flatf_fst p fo _ order
theorem wh_lay (L : Ly p fo order) : WH (codeP p fo order) (HsPf p fo order) := by
  have ok := L.lo.ok
  have hne := ok.ne
  have nx : ∀ l, l < p.bl.length → Nx (zPf p fo order) (adr (adP p fo order) l) 0 := by
    intro l hl
    obtain ⟨o1, o2, e⟩ := List.append_of_mem (L.all l hl)
    exact L.nx0 o2 o1 l e
  have good : ∀ a, GoodZ (zPf p fo order) a := by
    intro a i h e
    have ha : a < (zPf p fo order).length := (List.getElem?_eq_some_iff.1 e).1
    obtain ⟨o1, b, o2, k, e1, e2, e3⟩ := flat_at _ order a ha
    obtain ⟨hlt, _⟩ := L.out e1
    have hbl := List.getElem?_eq_getElem hlt
    have sg := L.seg e1
    have hz : zblf p fo (adr (adP p fo order)) b = zBf (fo b) (adr (adP p fo order)) p.bl[b] := by unfold zblf; rw [hbl]
    rw [hz] at sg
    have g := gBf sg (ok.bl _ (List.mem_of_getElem? hbl)).2.2 (L.follow hbl) nx
    have hpos : adr (adP p fo order) b = (o1.flatMap (zblf p fo (adr (adP p fo order)))).length := by rw [flatf_len, L.ad e1]
    have hk : k < (bC (fo b) (adr (adP p fo order)) p.bl[b]).length := by
      rw [hz] at e3
      have := zBf_fst (fo b) (adr (adP p fo order)) p.bl[b]
      rw [← this]; simpa using e3
    have := g k hk
    rw [hpos, ← e2] at this
    exact this i h e
  have hfst := zPf_fst p fo order
  refine ⟨?_, ?_, ?_⟩
  · have h0 := nx 0 (by omega)
    rw [L.zero] at h0
    obtain ⟨i, e⟩ := h0
    unfold HsPf
    rw [e]; rfl
  · have h0 := nx 0 (by omega)
    obtain ⟨i, e⟩ := h0
    have : adr (adP p fo order) 0 < (zPf p fo order).length := (List.getElem?_eq_some_iff.1 e).1
    rw [← hfst]
    simp
    omega
  · intro a i hi
    rw [← hfst] at hi
    simp only [List.getElem?_map, Option.map_eq_some_iff] at hi
    obtain ⟨⟨i', h⟩, e, rfl⟩ := hi
    have hH : HsPf p fo order a = h := by unfold HsPf; rw [e]; rfl
    obtain ⟨g1, g2⟩ := good a i' h e
    rw [hH]
    refine ⟨g1, fun w hw => ?_⟩
    obtain ⟨j, ej⟩ := g2 w hw
    refine ⟨?_, ?_⟩
    · rw [← hfst]
      have := (List.getElem?_eq_some_iff.1 ej).1
      simpa using this
    · unfold HsPf
      rw [ej]
      simp only [Option.map_some, Option.getD_some]
      have : i'.tk ≤ h := g1
      omega
end
end J
set_option maxRecDepth 10000
namespace J
/-- the block that stands right behind one -/
def fol : List Nat → Nat → Option Nat
  | [], _ => none
  | a :: r, b => if a = b then r.head? else fol r b
theorem fol_at : ∀ (o1 : List Nat) {o2 : List Nat} {b : Nat}, b ∉ o1 → fol (o1 ++ b :: o2) b = o2.head?
  | [], o2, b, h => by simp [fol]
  | a :: r, o2, b, h => by
    have h1 : a ≠ b := fun e => h (by simp [e])
    simp only [List.cons_append, fol, if_neg h1]
    exact fol_at r fun hh => h (List.mem_cons_of_mem _ hh)
theorem ly_of {p : Prg} {o : List Nat} (ok : p.Ok) (few : ∀ b ∈ p.bl, Few b) (hs : p.bl.length ≤ 5) (h : isOrd p.bl.length o) : Ly p (fol o) o where
  lo := ⟨ok, few, by omega, h.2.2.2.1, by rw [h.1]; omega⟩
  nd := h.2.1
  all := h.2.2.1
  nx := fun o1 b o2 e => by
    have hnd := h.2.1
    rw [e] at hnd ⊢
    refine fol_at o1 fun hh => ?_
    have := (List.nodup_append.1 hnd).2.2 b hh b (by simp)
    exact this rfl
  z := h.2.2.2.2
/-- follows_in's list behind so many turns -/
def flw (o : List Nat) : Nat → List D
  | 0 => List.replicate o.length .none
  | k + 1 => (flw o k).set (adr o k) (.i (adr o (k + 1)))
theorem flw_len (o : List Nat) : ∀ k, (flw o k).length = o.length
  | 0 => by simp [flw]
  | k + 1 => by simp [flw, flw_len o k]
theorem follows_loop {o : List Nat} (hlt : ∀ b ∈ o, b < o.length) (hl : o.length ≤ 1000) (hne : 1 ≤ o.length) : Pu 1 f_follows_in [.d (.t (natD o))] (.t (flw o (o.length - 1))) := by
  intro j hj h
  obtain ⟨j, rfl⟩ : ∃ i, j = i + 1 := ⟨j - 1, by omega⟩
  obtain ⟨m, hm⟩ : ∃ m, o.length = m + 1 := ⟨o.length - 1, by omega⟩
  have := pw (f := f_follows_in) (ws := [.d (.t (natD o))]) (j := j) (h := h) (Q := fun q => q = (.d (.t (flw o (o.length - 1))), h)) b_follows_in rfl rfl (by
    have e0 := comp_map (C := cx j) (e := .c .none) (i := 3) (ρ := [some (.d (.t (natD o))), none, none, none]) (h := h) (g := W.d) (fun _ => .d .none) (xs := natD o) (by intro x hx; simp) (by simp; omega)
    have hc : ((natD o).map fun _ => W.d .none) = (flw o 0).map W.d := by simp [flw, natD]; exact (List.map_const' (l := o) (b := W.d D.none))
    rw [hc] at e0
    have hr := range_1 m
    have hR := inR_nat (m + 1) (by omega)
    have hR1 := inR_nat 1 (by omega)
    rw [← show ((m + 1 : Nat) : Int) = (m : Int) + 1 by omega] at hr
    rw [← hm] at hr hR
    simp at hr hR1
    have hm1 : o.length - 1 = m := by omega
    rw [hm1]
    simp [b_follows_in, e0, hR, hR1, hr]
    refine wp_items (g := fun (k : Nat) => W.d (.i ((k : Int) + 1))) (fun pre ρ H => ∃ x2, ρ = [some (.d (.t (natD o))), some (.l h.length), x2, none] ∧ H = h ++ [(flw o pre.length).map .d]) (xs := List.range m) [] ?_ ?_ ?_
    · exact ⟨none, rfl, rfl⟩
    · rintro pre k post e ρ H ⟨x2, rfl, rfl⟩
      have hk : k = pre.length ∧ k < m := by
        have e' : List.range m = pre ++ k :: post := by simpa using e
        have h1 : (List.range m)[pre.length]? = some k := by rw [e']; simp
        have hlen := congrArg List.length e'
        simp at hlen
        rw [List.getElem?_range (by omega)] at h1
        simp at h1
        omega
      obtain ⟨rfl, hkm⟩ := hk
      have a1 : pre.length < o.length := by omega
      have a2 : pre.length + 1 < o.length := by omega
      have i1 : ixN o.length (pre.length : Int) = some pre.length := ixN_nat _ _ a1
      have i2 : ixN o.length ((pre.length : Int) + 1) = some (pre.length + 1) := ixN_nat o.length (pre.length + 1) a2
      have g1 : ∀ hh, (natD o)[pre.length]'hh = .i (adr o pre.length) := fun hh => by simp [natD, adr, a1]
      have g2 : ∀ hh, (natD o)[pre.length + 1]'hh = .i (adr o (pre.length + 1)) := fun hh => by simp [natD, adr, a2]
      have hb : adr o pre.length < (flw o pre.length).length := by
        rw [flw_len]
        have : adr o pre.length = o[pre.length] := by simp [adr, a1]
        rw [this]
        exact hlt _ (List.getElem_mem a1)
      have i3 : ixN (flw o pre.length).length (adr o pre.length : Int) = some (adr o pre.length) := ixN_nat _ _ hb
      simp [fb, l0_follows_in, i1, i2, a1, a2, g1, g2, i3, hb, flw, List.map_set]
    · rintro ρ H ⟨x2, rfl, rfl⟩
      have l1 : (flw o m).length ≤ 16777216 := by rw [flw_len]; omega
      simp [l1])
  obtain ⟨q, e1, rfl⟩ := this
  exact e1
theorem take_split {o : List Nat} {k : Nat} (hk : k < o.length) : o = o.take k ++ o[k] :: o.drop (k + 1) := by
  rw [← List.drop_eq_getElem_cons hk, List.take_append_drop]
theorem flw_at {o : List Nat} (hnd : o.Nodup) (hlt : ∀ b ∈ o, b < o.length) : ∀ (k : Nat), k + 1 ≤ o.length → ∀ b, b < o.length → (flw o k)[b]? = some (if b ∈ o.take k then foP (fol o b) else .none)
  | 0, hk, b, hb => by simp [flw, hb]
  | k + 1, hk, b, hb => by
    have a1 : k < o.length := by omega
    have a2 : k + 1 < o.length := by omega
    have e1 : adr o k = o[k] := by simp [adr, a1]
    have e2 : adr o (k + 1) = o[k + 1] := by simp [adr, a2]
    have hsp := take_split a1
    have hnk : o[k] ∉ o.take k := by
      intro hh
      have h2 := hnd
      rw [hsp] at h2
      exact (List.nodup_append.1 h2).2.2 _ hh _ List.mem_cons_self rfl
    have hf : fol o o[k] = some o[k + 1] := by
      have := fol_at (o.take k) (o2 := o.drop (k + 1)) (b := o[k]) hnk
      rw [← hsp] at this
      rw [this, List.head?_drop, List.getElem?_eq_getElem a2]
    have ih := flw_at hnd hlt k (by omega) b hb
    have htk : o.take (k + 1) = o.take k ++ [o[k]] := by rw [List.take_succ_eq_append_getElem a1]
    unfold flw
    rw [e1, e2, htk]
    by_cases hbk : o[k] = b
    · subst hbk
      have : o[k] < (flw o k).length := by rw [flw_len]; exact hlt _ (List.getElem_mem a1)
      rw [List.getElem?_set_self this, if_pos (List.mem_append_right _ (List.mem_singleton.2 rfl)), hf]
      rfl
    · rw [List.getElem?_set_ne hbk, ih]
      have : (b ∈ o.take k ++ [o[k]]) = (b ∈ o.take k) := propext ⟨fun h => (List.mem_append.1 h).elim id (fun h => absurd (List.mem_singleton.1 h).symm hbk), fun h => List.mem_append_left _ h⟩
      simp only [this]
theorem flw_all {n : Nat} {o : List Nat} (h : isOrd n o) (hn : 1 ≤ n) : ∀ b, b < n → (flw o (o.length - 1))[b]? = some (foP (fol o b)) := by
  obtain ⟨hl, hnd, hall, hlt, hz⟩ := h
  intro b hb
  have h1 := flw_at hnd (by rw [hl]; exact hlt) (o.length - 1) (by omega) b (by omega)
  rw [h1]
  have a1 : o.length - 1 < o.length := by omega
  by_cases hm : b ∈ o.take (o.length - 1)
  · rw [if_pos hm]
  · rw [if_neg hm]
    have hsp := take_split a1
    have hmem := hall b hb
    rw [hsp] at hmem
    have hd : o.drop (o.length - 1 + 1) = [] := List.drop_of_length_le (by omega)
    rw [hd] at hmem hsp
    have hb2 : b = o[o.length - 1] := by
      rcases List.mem_append.1 hmem with h | h
      · exact absurd h hm
      · simpa using h
    have := fol_at (o.take (o.length - 1)) (o2 := []) (b := o[o.length - 1]) (by rw [← hb2]; exact hm)
    rw [← hsp] at this
    rw [hb2, this]
    rfl
end J
set_option maxRecDepth 10000
namespace J
section
variable {p : Prg} {o : List Nat}
theorem follows_ok (h : isOrd p.bl.length o) (hn : 1 ≤ p.bl.length) (hs : p.bl.length ≤ 5) : Pu 1 f_follows_in [.d (.t (natD o))] (.t (flw o (o.length - 1))) :=
  follows_loop (by rw [h.1]; exact h.2.2.2.1) (by rw [h.1]; omega) (by rw [h.1]; omega)
theorem laid_out_ok (ok : p.Ok) (few : ∀ b ∈ p.bl, Few b) (hs : p.bl.length ≤ 5) (h : isOrd p.bl.length o) : Pu 13 f_laid_out [.d p.d, .d (.t (natD o))] (.t (cD (codeP p (fol o) o))) := by
  refine pu (d := b_laid_out) rfl rfl fun j hj hh => ?_
  have L := ly_of ok few hs h
  have e1 := follows_ok h ok.ne hs j (by omega) hh
  have e2 := code_in_ok L.lo (fl := flw o (o.length - 1)) (flw_all h ok.ne) j (by omega) hh
  simp [b_laid_out, e1, e2]
/-- a jump's last way -/
def wayJ : Jmp → Option Nat
  | .goto l => some l
  | .test _ l _ => some l
  | .fin _ => none
theorem first_way_ok (jp : Jmp) : Pu 1 f_first_way [.d jp.d] (foP (wayJ jp)) := by
  refine pu (d := b_first_way) rfl rfl fun j hj h => ?_
  cases jp <;> simp [b_first_way, Jmp.d, wayJ, foP]
/-- a block needs a jump -/
def ndJ (jp : Jmp) (fo : Option Nat) : Bool := match wayJ jp with
  | none => false
  | some l => decide (fo ≠ some l)
theorem needs_jump_ok (b : Blk) (fo : Option Nat) : Pu 2 f_needs_jump [.d b.d, .d (foP fo)] (.b (ndJ b.j fo)) := by
  refine pu (d := b_needs_jump) rfl rfl fun j hj h => ?_
  have e1 := first_way_ok b.j j (by omega) h
  cases hw : wayJ b.j with
  | none => rw [hw] at e1; simp [foP] at e1; simp [b_needs_jump, Blk.d, e1, ndJ, hw]
  | some l =>
    rw [hw] at e1
    simp [foP] at e1
    cases fo with
    | none => simp [b_needs_jump, Blk.d, e1, ndJ, hw, foP]
    | some m =>
      by_cases hm : m = l
      · subst hm; simp [b_needs_jump, Blk.d, e1, ndJ, hw, foP]
      · have hm' : ¬ ((l : Int) = m) := by omega
        simp [b_needs_jump, Blk.d, e1, ndJ, hw, foP, hm, hm']
end
end J
set_option maxRecDepth 10000
namespace J
section
variable {p : Prg} {o : List Nat}
def nd (p : Prg) (o : List Nat) (b : Nat) : Bool := match p.bl[b]? with
  | some bl => ndJ bl.j (fol o b)
  | none => false
/-- the jumps of a layout -/
def cnt (p : Prg) (o : List Nat) : Nat := (o.filter (nd p o)).length
theorem jumps_by_ok (hn : 1 ≤ p.bl.length) (hs : p.bl.length ≤ 5) (h : isOrd p.bl.length o) : Pu 4 f_jumps_by [.d p.d, .d (.t (natD o))] (.i (cnt p o)) := by
  refine pu (d := b_jumps_by) rfl rfl fun j hj hh => ?_
  have e1 := follows_ok h hn hs j (by omega) hh
  have hfl := flw_all h hn
  have hlt := h.2.2.2.1
  have hol := h.1
  generalize flw o (o.length - 1) = fl at *
  have e2 := compF (C := cx j) (e := .c (.i 1)) (cnd := .call f_needs_jump [.ix (.ix (.var 0) (.c (.i 1))) (.var 3), .ix (.var 2) (.var 3)]) (i := 3) (ρ := [some (.d p.d), some (.d (.t (natD o))), some (.d (.t fl)), none]) (h := hh) (g := fun (k : Nat) => W.d (.i k)) (nd p o) (fun _ => .d (.i 1)) (xs := o) [] (by
    intro b hb
    have hbl := hlt b hb
    have hfb := hfl b hbl
    have hfb2 : b < fl.length := (List.getElem?_eq_some_iff.1 hfb).1
    have hfb3 : fl[b] = foP (fol o b) := by rw [List.getElem?_eq_getElem hfb2] at hfb; simpa using hfb
    have hnd : nd p o b = ndJ p.bl[b].j (fol o b) := by unfold nd; rw [List.getElem?_eq_getElem hbl]
    have e3 := needs_jump_ok p.bl[b] (fol o b) j (by omega) hh
    constructor
    · simp [wipe, Prg.d, ixN_nat _ _ hbl, hbl, ixN_nat _ _ hfb2, hfb2, hfb3, e3, hnd]
    · intro _; simp [wipe]) (by simp; omega)
  rw [← natl_d] at e2
  simp [b_jumps_by, e1, e2, cnt]
end
end J
set_option maxRecDepth 10000
namespace J
section
variable {p : Prg}
def bstep (p : Prg) (acc : Option (List Nat × Nat)) (o : List Nat) : Option (List Nat × Nat) := match acc with
  | none => some (o, cnt p o)
  | some (b, f) => if cnt p o < f then some (o, cnt p o) else some (b, f)
def bD (acc : Option (List Nat × Nat)) : D := match acc with
  | none => .none
  | some (b, _) => .t (natD b)
def fD (acc : Option (List Nat × Nat)) : D := match acc with
  | none => .none
  | some (_, f) => .i f
def best (p : Prg) : Option (List Nat × Nat) := (ords p.bl.length).foldl (bstep p) none
theorem fewest_jumps_ok (hn : 1 ≤ p.bl.length) (hs : p.bl.length ≤ 5) (h : LH) : call JP 80 f_fewest_jumps [.d p.d] h = some (.d (bD (best p)), h) := by
  have := pw (f := f_fewest_jumps) (ws := [.d p.d]) (j := 79) (h := h) (Q := fun q => q = (.d (bD (best p)), h)) b_fewest_jumps rfl rfl (by
    have e0 := all_orders_ok hn hs h
    have hok := ords_ok hn hs
    simp [b_fewest_jumps, Prg.d, e0]
    refine wp_live (g := fun o => W.d (.t (natD o))) (xs := ords p.bl.length) (fun pre ρ H => ∃ x3 x4, ρ = [some (.d p.d), some (.d (bD (pre.foldl (bstep p) none))), some (.d (fD (pre.foldl (bstep p) none))), x3, x4] ∧ H = h ++ [(ordD p.bl.length).map .d]) ?_ ?_ ?_ ?_ ?_
    · exact ⟨none, none, rfl, rfl⟩
    · rintro pre ρ H ⟨x3, x4, rfl, rfl⟩
      simp [ordD]
    · rintro pre o post e ρ H ⟨x3, x4, rfl, rfl⟩
      have ho := hok o (by rw [e]; simp)
      have e1 := jumps_by_ok hn hs ho 79 (by omega) (h ++ [(ordD p.bl.length).map .d])
      rw [List.foldl_append]
      simp only [List.foldl_cons, List.foldl_nil]
      cases hacc : pre.foldl (bstep p) none with
      | none =>
        simp [fb, l0_fewest_jumps, bD, fD, bstep, e1]
      | some q =>
        obtain ⟨b, f⟩ := q
        by_cases hlt : cnt p o < f
        · have hlt' : (cnt p o : Int) < f := by omega
          simp [fb, l0_fewest_jumps, bD, fD, bstep, e1, hlt, hlt']
        · have hlt' : ¬ (cnt p o : Int) < f := by omega
          simp [fb, l0_fewest_jumps, bD, fD, bstep, e1, hlt, hlt']
    · rintro ρ H ⟨x3, x4, rfl, rfl⟩
      simp [best]
    · simp [ordD])
  obtain ⟨q, e1, rfl⟩ := this
  exact e1
end
end J
set_option maxRecDepth 10000
namespace J
section
variable {p : Prg} {o : List Nat}
theorem foI_way (fo : Option Nat) (l : Nat) : (decide ((l : Int) ≠ foI fo)) = decide (fo ≠ some l) := by
  have := foI_eq fo l
  simp [this]
theorem law_jumps_ok (hn : 1 ≤ p.bl.length) (hs : p.bl.length ≤ 5) (h : isOrd p.bl.length o) : Pu 1 f_law_jumps [.d p.d, .d (.t (natD o))] (.i (cnt p o)) := by
  intro j hj hh
  obtain ⟨j, rfl⟩ : ∃ i, j = i + 1 := ⟨j - 1, by omega⟩
  have hol := h.1
  have hlt := h.2.2.2.1
  have L : ∀ k (hk : k < o.length), fol o o[k] = o[k + 1]? := by
    intro k hk
    have hsp := take_split hk
    have hnk : o[k] ∉ o.take k := by
      intro hx
      have h2 := h.2.1
      rw [hsp] at h2
      exact (List.nodup_append.1 h2).2.2 _ hx _ List.mem_cons_self rfl
    have := fol_at (o.take k) (o2 := o.drop (k + 1)) (b := o[k]) hnk
    rw [← hsp] at this
    rw [this, List.head?_drop]
  have := pw (f := f_law_jumps) (ws := [.d p.d, .d (.t (natD o))]) (j := j) (h := hh) (Q := fun q => q = (.d (.i (cnt p o)), hh)) b_law_jumps rfl rfl (by
    have hr := range_nat o.length
    have hR := inR_nat o.length (by omega)
    simp [b_law_jumps, hR, hr]
    refine wp_items (g := fun (k : Nat) => W.d (.i k)) (fun pre ρ H => ∃ x3 x4 x5 x6, ρ = [some (.d p.d), some (.d (.t (natD o))), some (.d (.i (((o.take pre.length).filter (nd p o)).length : Nat))), x3, x4, x5, x6] ∧ H = hh) (xs := List.range o.length) [] ?_ ?_ ?_
    · exact ⟨none, none, none, none, by simp, rfl⟩
    · rintro pre k post e ρ H ⟨x3, x4, x5, x6, rfl, hH⟩
      have hk : k = pre.length ∧ k < o.length := by
        have e' : List.range o.length = pre ++ k :: post := by simpa using e
        have h1 : (List.range o.length)[pre.length]? = some k := by rw [e']; simp
        have hlen := congrArg List.length e'
        simp at hlen
        rw [List.getElem?_range (by omega)] at h1
        simp at h1
        omega
      obtain ⟨rfl, hk⟩ := hk
      have hb : o[pre.length] < p.bl.length := hlt _ (List.getElem_mem hk)
      have hbl := List.getElem?_eq_getElem hb
      have i1 : ixN o.length (pre.length : Int) = some pre.length := ixN_nat _ _ hk
      have g1 : ∀ hx, (natD o)[pre.length]'hx = .i o[pre.length] := fun hx => by simp [natD]
      have i2 : ixN (o.length + 1) ((pre.length : Int) + 1) = some (pre.length + 1) := ixN_nat (o.length + 1) (pre.length + 1) (by omega)
      have g2 : (natD o ++ [D.i (-1)])[pre.length + 1]? = some (.i (foI (fol o o[pre.length]))) := by
        rw [L _ hk]
        by_cases hl : pre.length + 1 < o.length
        · rw [List.getElem?_append_left (by simpa using hl), List.getElem?_eq_getElem hl]
          simp [natD, hl, foI]
        · have : pre.length + 1 = o.length := by omega
          rw [List.getElem?_append_right (by simp; omega), List.getElem?_eq_none (show o.length ≤ pre.length + 1 by omega)]
          simp [this, foI]
      have hnd : nd p o o[pre.length] = ndJ p.bl[o[pre.length]].j (fol o o[pre.length]) := by unfold nd; rw [hbl]
      have htk : o.take (pre.length + 1) = o.take pre.length ++ [o[pre.length]] := by rw [List.take_succ_eq_append_getElem hk]
      have hlen2 : (pre ++ [pre.length]).length = pre.length + 1 := by simp
      have hol2 : o.length + 1 ≤ 16777216 := by omega
      rw [hlen2, htk, List.filter_append, List.length_append]
      have g3 : ∀ hx, ((natD o).map W.d ++ [W.d (.i (-1))])[pre.length + 1]'hx = .d (.i (foI (fol o o[pre.length]))) := fun hx => by
        have h2 : ((natD o).map W.d ++ [W.d (.i (-1))])[pre.length + 1]? = some (.d (.i (foI (fol o o[pre.length])))) := by
          rw [show (natD o).map W.d ++ [W.d (.i (-1))] = (natD o ++ [D.i (-1)]).map W.d by simp, List.getElem?_map, g2]; rfl
        rw [List.getElem?_eq_getElem hx] at h2; simpa using h2
      generalize fol o o[pre.length] = fo at *
      generalize hB : p.bl[o[pre.length]] = bl at *
      have hone : ([o[pre.length]].filter (nd p o)).length = if ndJ bl.j fo = true then 1 else 0 := by
        rw [List.filter_cons, hnd]; split <;> simp
      rw [hone]
      cases hj2 : bl.j with
      | fin e =>
        simp [fb, l0_law_jumps, Prg.d, i1, hk, g1, ixN_nat _ _ hb, hb, hB, Blk.d, hj2, Jmp.d, i2, g3, hol2, ndJ, wayJ]
        exact hH
      | goto l =>
        by_cases hf : fo = some l
        · simp [fb, l0_law_jumps, Prg.d, i1, hk, g1, ixN_nat _ _ hb, hb, hB, Blk.d, hj2, Jmp.d, i2, g3, hol2, ndJ, wayJ, foI_eq, hf]
          exact hH
        · simp [fb, l0_law_jumps, Prg.d, i1, hk, g1, ixN_nat _ _ hb, hb, hB, Blk.d, hj2, Jmp.d, i2, g3, hol2, ndJ, wayJ, foI_eq, hf]
          exact hH
      | test e l m =>
        by_cases hf : fo = some l
        · simp [fb, l0_law_jumps, Prg.d, i1, hk, g1, ixN_nat _ _ hb, hb, hB, Blk.d, hj2, Jmp.d, i2, g3, hol2, ndJ, wayJ, foI_eq, hf]
          exact hH
        · simp [fb, l0_law_jumps, Prg.d, i1, hk, g1, ixN_nat _ _ hb, hb, hB, Blk.d, hj2, Jmp.d, i2, g3, hol2, ndJ, wayJ, foI_eq, hf]
          exact hH
    · rintro ρ H ⟨x3, x4, x5, x6, rfl, rfl⟩
      simp [cnt])
  obtain ⟨q, e1, rfl⟩ := this
  exact e1
end
end J
set_option maxRecDepth 10000
namespace J
def isJ : Ins → Bool
  | .jump _ => true
  | _ => false
theorem jumps_in_ok {C : List Ins} (hl : C.length ≤ 1000000) : Pu 1 f_jumps_in [.d (.t (cD C))] (.i (C.filter isJ).length) := by
  refine pu (d := b_jumps_in) rfl rfl fun j hj h => ?_
  have e1 := compF (C := cx j) (e := .c (.i 1)) (cnd := .cmp .eq (.ix (.var 1) (.c (.i 0))) (.c (.s "jump"))) (i := 1) (ρ := [some (.d (.t (cD C))), none]) (h := h) (g := W.d ∘ Ins.d) isJ (fun _ => .d (.i 1)) (xs := C) [] (by
    intro i hi
    constructor
    · cases i <;> simp [Ins.d, wipe, isJ]
    · intro _; simp [wipe]) (by simp; omega)
  have hm : (cD C).map W.d = C.map (W.d ∘ Ins.d) := by simp [cD]
  rw [← hm] at e1
  simp [b_jumps_in, e1]
end J
set_option maxRecDepth 10000
namespace J
def nz : D → D
  | .none => .i (-1)
  | d => d
def flI (o : List Nat) (k : Nat) : List D := (flw o k).map nz
theorem flI_len (o : List Nat) (k : Nat) : (flI o k).length = o.length := by simp [flI, flw_len]
theorem flI_succ (o : List Nat) (k : Nat) : flI o (k + 1) = (flI o k).set (adr o k) (.i (adr o (k + 1))) := by
  simp [flI, flw, List.map_set, nz]
theorem nz_foP (fo : Option Nat) : nz (foP fo) = foL fo := by cases fo <;> simp [nz, foP, foL, foI]
theorem flI_all {n : Nat} {o : List Nat} (h : isOrd n o) (hn : 1 ≤ n) (b : Nat) (hb : b < n) : (flI o (o.length - 1))[b]? = some (foL (fol o b)) := by
  unfold flI
  rw [List.getElem?_map, flw_all h hn b hb]
  simp [nz_foP]
theorem rng_mid {n : Nat} {pre post : List Nat} {k : Nat} (e : List.range n = pre ++ k :: post) : k = pre.length ∧ pre.length < n := by
  have h1 : (List.range n)[pre.length]? = some k := by rw [e]; simp
  have hlen := congrArg List.length e
  simp at hlen
  rw [List.getElem?_range (by omega)] at h1
  simp at h1
  omega
theorem law_laid_f {p : Prg} {o : List Nat} (ok : p.Ok) (few : ∀ b ∈ p.bl, Few b) (hs : p.bl.length ≤ 5) (h : isOrd p.bl.length o) : Pu 10 f_law_laid [.d p.d, .d (.t (natD o)), .d (.b false)] (.t [.t (cD (codeP p (fol o) o)), .t (natD (adP p (fol o) o))]) := by
  intro j hj hh
  obtain ⟨j, rfl⟩ : ∃ i, j = i + 1 := ⟨j - 1, by omega⟩
  have L := ly_of ok few hs h
  have lo := L.lo
  have hol := h.1
  have hne := ok.ne
  have hall := flI_all h hne
  have hflen := flI_len o (o.length - 1)
  have := pw (f := f_law_laid) (ws := [.d p.d, .d (.t (natD o)), .d (.b false)]) (j := j) (h := hh) (Q := fun q => q = (.d (.t [.t (cD (codeP p (fol o) o)), .t (natD (adP p (fol o) o))]), hh)) b_law_laid rfl rfl (by
    have e0 : ∀ (ρ : Env) (H : LH), compItems (turn (.n 10) ρ (evc (cx j) none) (ev (cx j) (.neg (.c (.i 1))))) (p.bl.map (W.d ∘ Blk.d)) [] H = some ((flI o 0).map W.d, H) := by
      intro ρ H
      have := comp_map (C := cx j) (e := .neg (.c (.i 1))) (i := 10) (ρ := ρ) (h := H) (g := W.d ∘ Blk.d) (fun _ => .d (.i (-1))) (xs := p.bl) (by intro x hx; simp) (by omega)
      rw [negs] at this
      rw [this]
      simp [flI, flw, hol, nz]
    have e1 : ∀ (ρ : Env) (H : LH), compItems (turn (.n 10) ρ (evc (cx j) none) (ev (cx j) (.c (.i 0)))) (p.bl.map (W.d ∘ Blk.d)) [] H = some (natl (List.replicate p.bl.length 0), H) := fun ρ H => zeros_comp p (by omega) ρ H
    obtain ⟨m, hm⟩ : ∃ m, o.length = m + 1 := ⟨o.length - 1, by omega⟩
    have hr := range_nat m
    have hR := inR_nat m (by omega)
    simp [b_law_laid, Prg.d, e0, hm, hR, hr]
    refine wp_items (g := fun (k : Nat) => W.d (.i k)) (fun pre ρ H => ∃ x5, ρ = [some (.d p.d), some (.d (.t (natD o))), some (.d (.b false)), some (.d (.t (p.bl.map Blk.d))), some (.l hh.length), x5, none, none, none, none, none] ∧ H = hh ++ [(flI o pre.length).map W.d]) (xs := List.range m) [] ?_ ?_ ?_
    · exact ⟨none, rfl, rfl⟩
    · rintro pre k post e ρ H ⟨x5, rfl, rfl⟩
      obtain ⟨rfl, hkm⟩ := rng_mid (by simpa using e)
      have a1 : pre.length < o.length := by omega
      have a2 : pre.length + 1 < o.length := by omega
      have i1 : ixN o.length (pre.length : Int) = some pre.length := ixN_nat _ _ a1
      have i2 : ixN o.length ((pre.length : Int) + 1) = some (pre.length + 1) := ixN_nat o.length (pre.length + 1) a2
      have g1 : ∀ hh, (natD o)[pre.length]'hh = .i (adr o pre.length) := fun hh => by simp [natD, adr, a1]
      have g2 : ∀ hh, (natD o)[pre.length + 1]'hh = .i (adr o (pre.length + 1)) := fun hh => by simp [natD, adr, a2]
      have hb : adr o pre.length < (flI o pre.length).length := by
        rw [flI_len]
        have : adr o pre.length = o[pre.length] := by simp [adr, a1]
        rw [this, hol]
        exact h.2.2.2.1 _ (List.getElem_mem a1)
      have i3 : ixN (flI o pre.length).length (adr o pre.length : Int) = some (adr o pre.length) := ixN_nat _ _ hb
      simp [fb, l0_law_laid, i1, i2, a1, a2, g1, g2, i3, hb, flI_succ, List.map_set]
    · rintro ρ H ⟨x5, rfl, rfl⟩
      have hm1 : o.length - 1 = m := by omega
      rw [hm1] at hall hflen
      simp only [List.nil_append, List.length_range]
      generalize flI o m = fl at *
      simp [e1]
      rw [natl_d]
      have fget : ∀ b, b < p.bl.length → b < fl.length ∧ ∀ hx, fl[b]'hx = foL (fol o b) := by
        intro b hb
        have h1 := hall b hb
        have h2 := (List.getElem?_eq_some_iff.1 h1).1
        refine ⟨h2, fun hx => ?_⟩
        rw [List.getElem?_eq_getElem h2] at h1; simpa using h1
      refine wp_items (g := fun (k : Nat) => W.d (.i k)) (fun pre ρ H => ∃ x8 K, ρ = [some (.d p.d), some (.d (.t (natD o))), some (.d (.b false)), some (.d (.t (p.bl.map Blk.d))), some (.l hh.length), x5, some (.l (hh.length + 1)), some (.d (.i (adS p (fol o) pre).2)), x8, none, none] ∧ H = hh ++ (fl.map W.d :: natl (adS p (fol o) pre).1 :: K)) (xs := o) [] ?_ ?_ ?_
      · exact ⟨none, [], by simp [adS, Prg.d], by simp [adS]⟩
      · rintro pre b post e ρ H ⟨x8, K, rfl, rfl⟩
        have e' : o = pre ++ b :: post := by simpa using e
        have hb : b < p.bl.length := lo.lt b (by rw [e']; simp)
        obtain ⟨f1, f2⟩ := fget b hb
        have hbb : b < (adS p (fol o) pre).1.length := by rw [adS_len]; exact hb
        obtain ⟨bl, hbl⟩ : ∃ bl, p.bl[b]? = some bl := ⟨_, List.getElem?_eq_getElem hb⟩
        have hbl' : p.bl[b] = bl := by rw [List.getElem?_eq_getElem hb] at hbl; simpa using hbl
        have hmm := List.mem_of_getElem? hbl
        have e2 := fun (H : LH) (w : W) hw => law_block_code_ok (fo := fol o b) (adl := List.replicate p.bl.length 0) (lo.few bl hmm) (lo.ok.bl bl hmm).2.2 (by simp) (w := w) (h := H) hw j (by omega)
        have hlb : lenB p (fol o) b = (bC (fol o b) (adr (List.replicate p.bl.length 0)) bl).length := by
          unfold lenB; rw [hbl]; exact bC_n _ _ _ _
        simp [fb, l1_law_laid, ixN_nat _ _ hbb, hbb, ixN_nat _ _ hb, hb, hbl', ixN_nat _ _ f1, f1, f2, Prg.d, natl_set, e1, e2, adS_app, hlb]
      · rintro ρ H ⟨x8, K, rfl, rfl⟩
        simp
        rw [natl_d]
        refine wp_items (g := fun (k : Nat) => W.d (.i k)) (fun pre ρ H => ∃ x7 x8 K i, ρ = [some (.d p.d), some (.d (.t (natD o))), some (.d (.b false)), some (.d (.t (p.bl.map Blk.d))), some (.l hh.length), x5, some (.l (hh.length + 1)), x7, x8, some (.l (hh.length + (i + 2))), none] ∧ H = hh ++ (fl.map W.d :: natl (adP p (fol o) o) :: K) ∧ K[i]? = some ((cD (pre.flatMap (blC p (fol o) (adr (adP p (fol o) o))))).map .d)) (xs := o) [] ?_ ?_ ?_
        · exact ⟨some (.d (.i (adS p (fol o) o).2)), x8, K ++ [[]], K.length, rfl, by simp [adP], by simp [cD]⟩
        · rintro pre b post e ρ H ⟨x7, x8, K, i, rfl, rfl, hi⟩
          have e' : o = pre ++ b :: post := by simpa using e
          have hb : b < p.bl.length := lo.lt b (by rw [e']; simp)
          obtain ⟨f1, f2⟩ := fget b hb
          obtain ⟨bl, hbl⟩ : ∃ bl, p.bl[b]? = some bl := ⟨_, List.getElem?_eq_getElem hb⟩
          have hbl' : p.bl[b] = bl := by rw [List.getElem?_eq_getElem hb] at hbl; simpa using hbl
          have hmm := List.mem_of_getElem? hbl
          have e2 := law_block_code_ok (fo := fol o b) (adl := adP p (fol o) o) (lo.few bl hmm) (lo.ok.bl bl hmm).2.2 (by simp [adP, adS_len]) (w := .l (hh.length + 1)) (h := hh ++ (fl.map W.d :: natl (adP p (fol o) o) :: K)) (by simp) j (by omega)
          have hi' : i < K.length := (List.getElem?_eq_some_iff.1 hi).1
          have g1 : ∀ X : LH, (K ++ X)[i]? = some ((cD (pre.flatMap (blC p (fol o) (adr (adP p (fol o) o))))).map .d) := fun X => by rw [List.getElem?_append_left hi']; exact hi
          have l0 := code_in_len (fo := fol o) lo.few (adr (adP p (fol o) o)) pre
          have hpl : pre.length < o.length := by rw [e']; simp
          have l1 := bC_len (lo.few bl hmm) (fol o b) (adr (adP p (fol o) o))
          have l2 : (pre.flatMap (blC p (fol o) (adr (adP p (fol o) o)))).length + (bC (fol o b) (adr (adP p (fol o) o)) bl).length ≤ 16777216 := by omega
          have hB : blC p (fol o) (adr (adP p (fol o) o)) b = bC (fol o b) (adr (adP p (fol o) o)) bl := by unfold blC; rw [hbl]
          generalize hX : pre.flatMap (blC p (fol o) (adr (adP p (fol o) o))) = X at *
          simp -implicitDefEqProofs [fb, l2_law_laid, ixN_nat _ _ hb, hb, hbl', ixN_nat _ _ f1, f1, f2, Prg.d, e2, hi, g1, l2, hX, hB]
          exact ⟨_, _, _, _, ⟨rfl, rfl, rfl⟩, rfl, by rw [List.getElem?_append_right (by omega)]; simp [cD_app]⟩
        · rintro ρ H ⟨x7, x8, K, i, rfl, rfl, hi⟩
          have l0 := code_in_len (fo := fol o) lo.few (adr (adP p (fol o) o)) o
          have l1 : (cD (codeP p (fol o) o)).length ≤ 16777216 := by unfold codeP; rw [cD_len]; omega
          have l2 : (adP p (fol o) o).length ≤ 16777216 := by simp [adP, adS_len]; omega
          have hi2 : K[i]? = some ((cD (codeP p (fol o) o)).map .d) := by simpa [codeP] using hi
          rw [cD_len] at l1
          simp -implicitDefEqProofs [hi2, natl_eq, l1, l2])
  obtain ⟨q, e1, rfl⟩ := this
  exact e1
end J
set_option maxRecDepth 10000
namespace J
theorem eqv_foP (fo : Option Nat) (l : Nat) : eqv (.i l) (foP fo) = decide (fo = some l) := by
  cases fo with
  | none => simp [foP]
  | some m =>
    by_cases h : m = l
    · subst h; simp [foP]
    · have : ¬ ((l : Int) = m) := by omega
      simp [foP, h, this]
theorem ne_foP (h : LH) (fo : Option Nat) (l : Nat) : cmpop h .ne (.d (.i l)) (.d (foP fo)) = some (!decide (fo = some l)) := by
  have : eqW h (.d (.i l)) (.d (foP fo)) = some (decide (fo = some l)) := by
    show (if min (depth (.i l)) (depth (foP fo)) ≤ 64 then some (eqv (.i l) (foP fo)) else none) = _
    rw [if_pos (by simp), eqv_foP]
  show (eqW h (.d (.i l)) (.d (foP fo))).map (!·) = _
  rw [this]; rfl
theorem jump_steps_f {fo : Option Nat} {st : List D} {jp : Jmp} (hj : SafeJ st jp) (hl : ∀ e, (∃ l m, jp = .test e l m) ∨ jp = .fin e → (code e).length ≤ 10000) (hn : ∀ e, (∃ l m, jp = .test e l m) ∨ jp = .fin e → e.nest ≤ 40) : Pu 48 f_jump_steps [.d jp.d, .d (foP fo), .d (.t st)] (.i (jS fo st jp)) := by
  refine pu (d := b_jump_steps) rfl rfl fun j hj' h => ?_
  cases jp with
  | goto l => by_cases hf : fo = some l <;> simp [b_jump_steps, Jmp.d, jS, tS, ne_foP, hf]
  | fin e =>
    have e1 := code_ok e (hl e (.inr rfl)) j (by have := hn e (.inr rfl); omega) h
    simp [b_jump_steps, Jmp.d, jS, e1]
  | test e l m =>
    have e1 := code_ok e (hl e (.inl ⟨l, m, rfl⟩)) j (by have := hn e (.inl ⟨l, m, rfl⟩); omega) h
    have e2 := answer_of e l m hj.1 hj.2 j (by omega) h
    simp only [Jmp.d] at e2
    by_cases hz : zeroB (wo st e) = true
    · simp [hz] at e2
      simp [b_jump_steps, Jmp.d, jS, tS, e1, e2, hz]
    · simp [hz] at e2
      by_cases hf : fo = some l <;> simp [b_jump_steps, Jmp.d, jS, tS, e1, e2, hz, ne_foP, hf]
def bSf (p : Prg) (fo : Nat → Option Nat) (q : Nat × List D) : Nat := match p.bl[q.1]? with
  | some bl => bS (fo q.1) bl q.2
  | none => 0
theorem stN_sumf (p : Prg) (fo : Nat → Option Nat) : ∀ (n b : Nat) (st : List D), SafeRun p n b st → stN p fo n b st = ((trace p n b st).map (bSf p fo)).sum
  | 0, b, st, hs => rfl
  | n + 1, b, st, hs => by
    obtain ⟨⟨bl, hb, hsb⟩, hrest⟩ := hs
    rw [stN_succ p fo n b st hb]
    unfold trace
    have hst : stepP p b st = stepB bl st := by unfold stepP; rw [hb]
    rw [hst] at hrest ⊢
    have hB : bSf p fo (b, st) = bS (fo b) bl st := by unfold bSf; rw [hb]
    cases ho : stepB bl st with
    | go b' st' =>
      rw [ho] at hrest
      simp only [List.map_cons, List.sum_cons, hB]
      rw [stN_sumf p fo n b' st' hrest]
    | ended x => simp [hB]
theorem steps_in_f {p : Prg} {fo : Nat → Option Nat} {fl : List D} {st : List D} {most : Nat} (few : ∀ b ∈ p.bl, Few b) (hfl : ∀ b, b < p.bl.length → fl[b]? = some (foP (fo b))) (hm : most ≤ 10000) (hs : SafeRun p most 0 st) (hst : st.length ≤ 1000) : Pu 56 f_steps_in [.d p.d, .d (.t fl), .d (.t st), .d (.i most)] (.i (stN p fo most 0 st)) := by
  intro j hj h
  obtain ⟨j, rfl⟩ : ∃ i, j = i + 1 := ⟨j - 1, by omega⟩
  have := pw (f := f_steps_in) (ws := [.d p.d, .d (.t fl), .d (.t st), .d (.i most)]) (j := j) (h := h) (Q := fun q => q = (.d (.i (stN p fo most 0 st)), h)) b_steps_in rfl rfl (by
    have e0 := gone_ok hm hs j (by omega)
    have hl := trace_len p most 0 st
    have hsf := trace_safe hs
    rw [stN_sumf p fo most 0 st hs]
    generalize trace p most 0 st = T at *
    simp [b_steps_in, e0]
    refine wp_live (g := fun (q : Nat × List D) => W.d (atD q.1 q.2)) (xs := T) (fun pre ρ H => ∃ x5 x6 x7 x8, ρ = [some (.d p.d), some (.d (.t fl)), some (.d (.t st)), some (.d (.i most)), some (.d (.i ((pre.map (bSf p fo)).sum : Nat))), x5, x6, x7, x8] ∧ H = h ++ [(trD T).map .d]) ?_ ?_ ?_ ?_ ?_
    · exact ⟨none, none, none, none, rfl, rfl⟩
    · rintro pre ρ H ⟨x5, x6, x7, x8, rfl, rfl⟩
      simp [trD]
    · rintro pre q post e ρ H ⟨x5, x6, x7, x8, rfl, rfl⟩
      obtain ⟨bl, hb, hsb⟩ := hsf q (by rw [e]; simp)
      have hlt : q.1 < p.bl.length := (List.getElem?_eq_some_iff.1 hb).1
      have hb' : p.bl[q.1] = bl := by rw [List.getElem?_eq_getElem hlt] at hb; simpa using hb
      have few := few bl (List.mem_of_getElem? hb)
      have hfb := hfl q.1 hlt
      have hfb2 : q.1 < fl.length := (List.getElem?_eq_some_iff.1 hfb).1
      have hfb3 : fl[q.1] = foP (fo q.1) := by rw [List.getElem?_eq_getElem hfb2] at hfb; simpa using hfb
      have e1 := store_behind bl.as hsb.1 hsb.2.2 j (by omega) (h ++ [(trD T).map .d])
      have e2 := assigns_ok few.2.1 (by have := few.1; omega) j (by omega) (h ++ [(trD T).map .d])
      have hcl : ∀ e, (∃ l m, bl.j = .test e l m) ∨ bl.j = .fin e → e.nest ≤ 5 := by
        rintro e (⟨l, m, he⟩ | he)
        · exact few.2.2.1 e l m he
        · exact few.2.2.2 e he
      have e3 := jump_steps_f (fo := fo q.1) hsb.2.1 (fun e he => by have := code_364 (hcl e he); omega) (fun e he => by have := hcl e he; omega) j (by omega) (h ++ [(trD T).map .d])
      have hB : bSf p fo q = bS (fo q.1) bl q.2 := by unfold bSf; rw [hb]
      simp [fb, l0_steps_in, atD, Prg.d, ixN_nat _ _ hlt, hlt, hb', Blk.d, e1, e2, ixN_nat _ _ hfb2, hfb2, hfb3, e3, hB, bS]
    · rintro ρ H ⟨x5, x6, x7, x8, rfl, rfl⟩
      simp
    · simp [trD])
  obtain ⟨q, e1, rfl⟩ := this
  exact e1
theorem laid_steps_ok {p : Prg} {o : List Nat} {st : List D} {most : Nat} (hn : 1 ≤ p.bl.length) (few : ∀ b ∈ p.bl, Few b) (hs5 : p.bl.length ≤ 5) (ho : isOrd p.bl.length o) (hm : most ≤ 10000) (hs : SafeRun p most 0 st) (hst : st.length ≤ 1000) : Pu 57 f_laid_steps [.d p.d, .d (.t (natD o)), .d (.t st), .d (.i most)] (.i (stN p (fol o) most 0 st)) := by
  refine pu (d := b_laid_steps) rfl rfl fun j hj h => ?_
  have e1 := follows_ok ho hn hs5 j (by omega) h
  have e2 := steps_in_f few (fl := flw o (o.length - 1)) (flw_all ho hn) hm hs hst j (by omega) h
  simp [b_laid_steps, e1, e2]
theorem bS_le (fo : Option Nat) (bl : Blk) (st : List D) : bS fo bl st ≤ bS none bl st := by
  unfold bS
  cases bl.j with
  | goto l => simp [jS, tS]; split <;> omega
  | test e l m => simp [jS, tS]; split <;> (try split) <;> omega
  | fin e => simp [jS]
theorem stN_le_fo (p : Prg) (fo : Nat → Option Nat) : ∀ (n b : Nat) (st : List D), stN p fo n b st ≤ stN p nof n b st
  | 0, b, st => by simp [stN]
  | n + 1, b, st => by
    cases hb : p.bl[b]? with
    | none => rw [stN, hb]; simp
    | some bl =>
      rw [stN_succ p fo n b st hb, stN_succ p nof n b st hb, show nof b = none from rfl]
      have h1 := bS_le (fo b) bl st
      cases stepB bl st with
      | go b' st' => have := stN_le_fo p fo n b' st'; simp only; omega
      | ended x => simp only; omega
end J
set_option maxRecDepth 10000
namespace J
theorem find_nat {o : List Nat} (hnd : o.Nodup) {k : Nat} (hk : k < o.length) : (natD o).findIdx? (fun z => eqv z (.i (o[k] : Int))) = some k := by
  rw [List.findIdx?_eq_some_iff_getElem]
  refine ⟨by simpa using hk, by simp [natD], fun i hi => ?_⟩
  simp [natD]
  intro e
  have e2 : o[i]'(by omega) = o[k] := by omega
  have := (List.getElem_inj hnd).1 e2
  omega
theorem fol_get {o : List Nat} (hnd : o.Nodup) {k : Nat} (hk : k < o.length) : fol o o[k] = o[k + 1]? := by
  have hsp := take_split hk
  have hnk : o[k] ∉ o.take k := by
    intro hx
    have h2 := hnd
    rw [hsp] at h2
    exact (List.nodup_append.1 h2).2.2 _ hx _ List.mem_cons_self rfl
  have := fol_at (o.take k) (o2 := o.drop (k + 1)) (b := o[k]) hnk
  rw [← hsp] at this
  rw [this, List.head?_drop]
theorem bC_bSf {bl : Blk} (fo : Option Nat) (ad : Nat → Nat) (st : List D) : ((bC fo ad bl).length : Int) - (match bl.j with
    | .test e l _ => if fo = some l then 0 else if zeroB (wo (sb st bl.as) e) = true then 1 else 0
    | _ => 0) = (bS fo bl st : Nat) := by
  unfold bS bC
  cases bl.j with
  | goto l => by_cases hf : fo = some l <;> simp [jC, toC, jS, tS, hf]
  | test e l m =>
    by_cases hf : fo = some l
    · by_cases hz : zeroB (wo (sb st bl.as) e) = true <;> simp [jC, toC, jS, tS, hz, hf]
    · by_cases hz : zeroB (wo (sb st bl.as) e) = true
      · simp [jC, toC, jS, tS, hz, hf]; omega
      · simp [jC, toC, jS, tS, hz, hf]; omega
  | fin e => simp [jC, jS]
def lss_t : List S := l1_law_store_steps.drop 2
theorem lss_eq : l1_law_store_steps = [.asg (.n 10) (.neg (.c (.i 1))), .ife (.and (.not (.var 2)) (.cmp .lt (.bin .add (.meth .index (.var 1) [.var 6]) (.c (.i 1))) (.bi .len [.var 1]))) [.asg (.n 10) (.ix (.var 1) (.bin .add (.meth .index (.var 1) [.var 6]) (.c (.i 1))))] []] ++ lss_t := rfl
theorem lss_tail {p : Prg} {st' : List D} {b f : Nat} {bl : Blk} (fo : Option Nat) (few : Few bl) (ok : bl.Ok p.many p.bl.length) (hsm : p.bl.length ≤ 1000) (hb : p.bl[b]? = some bl) (hsb : SafeB st' bl) {j : Nat} (hj : 55 ≤ j) {h K : LH} {r1 r2 r3 r4 x9 x11 x12 x13 x14 x15 x16 : Option W} {Q : Kt (Fl × Env × LH)}
    (q : match stepB bl st' with
      | .go b' st'' => ∀ x9 x10 x11 x12 x13 x14 x15 x16 K, Q.run (.nxt, [some (.d p.d), r1, r2, r3, r4, some (.d (.t (p.bl.map Blk.d))), some (.d (.i (b' : Nat))), some (.d (.t st'')), some (.d (.i ((f + bS fo bl st' : Nat) : Int))), x9, x10, x11, x12, x13, x14, x15, x16, none], h ++ K)
      | .ended _ => ∀ ρ K, Q.run (.ret (.d (.i ((f + bS fo bl st' : Nat) : Int))), ρ, h ++ K)) :
    @Wp _ (execs (cx j) lss_t [some (.d p.d), r1, r2, r3, r4, some (.d (.t (p.bl.map Blk.d))), some (.d (.i (b : Nat))), some (.d (.t st')), some (.d (.i (f : Nat))), x9, some (.d (.i (foI fo))), x11, x12, x13, x14, x15, x16, none] (h ++ K)) Q := by
  have hlt : b < p.bl.length := (List.getElem?_eq_some_iff.1 hb).1
  have hb' : p.bl[b] = bl := by rw [List.getElem?_eq_getElem hlt] at hb; simpa using hb
  have e0 := fun ρ H => zeros_comp p (C := cx j) (i := 17) (by omega) ρ H
  have e1 := fun (w : W) (H : LH) hw => law_block_code_ok (fo := fo) (adl := List.replicate p.bl.length 0) few ok.2.2 (by simp) (w := w) (h := H) hw j (by omega)
  simp only [foL] at e1
  have e2 := fun H => law_step hb hsb j (by omega) H
  have hst : stepP p b st' = stepB bl st' := by unfold stepP; rw [hb]
  rw [hst] at e2
  have hB := bC_bSf (bl := bl) fo (adr (List.replicate p.bl.length 0)) st'
  have hsl' : st'.length ≤ 16777216 := by have := hsb.2.2; omega
  simp only [Prg.d, Blk.d] at e2 e1
  cases hjj : bl.j with
  | goto l =>
    simp only [hjj] at hB
    simp [stepB, hjj, outL, Jmp.d] at e2 q e1
    have n0 : ¬ ((l : Int) < 0) := by omega
    simp [lss_t, l1_law_store_steps, Prg.d, ixN_nat _ _ hlt, hlt, hb', Blk.d, hjj, Jmp.d, e0, e1, e2, n0]
    rw [show ((f : Int) + (bC fo (adr (List.replicate p.bl.length 0)) bl).length) = (f : Int) + (bS fo bl st' : Nat) by omega]
    exact q _ _ _ _ _ _ _ _ _
  | fin e =>
    simp only [hjj] at hB
    simp [stepB, hjj, outL, Jmp.d] at e2 q e1
    simp [lss_t, l1_law_store_steps, Prg.d, ixN_nat _ _ hlt, hlt, hb', Blk.d, hjj, Jmp.d, e0, e1, e2]
    rw [show ((f : Int) + (bC fo (adr (List.replicate p.bl.length 0)) bl).length) = (f : Int) + (bS fo bl st' : Nat) by omega]
    exact q _ _
  | test e l m =>
    simp only [hjj] at hB
    have hj2 := hsb.2.1
    rw [hjj] at hj2
    by_cases hf : fo = some l
    · simp only [hf] at e1 hB q
      simp at hB
      by_cases hz : zeroB (wo (sb st' bl.as) e) = true
      · simp [stepB, hjj, outL, Jmp.d, hz] at e2 q e1 hB
        have n0 : ¬ ((m : Int) < 0) := by omega
        simp [lss_t, l1_law_store_steps, Prg.d, ixN_nat _ _ hlt, hlt, hb', Blk.d, hjj, Jmp.d, e0, e1, e2, n0, hsl', hf, foI_eq]
        rw [hB]
        exact q _ _ _ _ _ _ _ _ _
      · simp [stepB, hjj, outL, Jmp.d, hz] at e2 q e1 hB
        have n0 : ¬ ((l : Int) < 0) := by omega
        simp [lss_t, l1_law_store_steps, Prg.d, ixN_nat _ _ hlt, hlt, hb', Blk.d, hjj, Jmp.d, e0, e1, e2, n0, hsl', hf, foI_eq]
        rw [hB]
        exact q _ _ _ _ _ _ _ _ _
    · by_cases hz : zeroB (wo (sb st' bl.as) e) = true
      · simp [stepB, hjj, outL, Jmp.d, hz, hf] at e2 q e1 hB
        have n0 : ¬ ((m : Int) < 0) := by omega
        simp [lss_t, l1_law_store_steps, Prg.d, ixN_nat _ _ hlt, hlt, hb', Blk.d, hjj, Jmp.d, e0, e1, e2, n0, hsl', hf, foI_eq]
        refine own_loop_wp hsb (by omega) (h ++ (K ++ [natl (List.replicate p.bl.length 0), (cD (bC fo (adr (List.replicate p.bl.length 0)) bl)).map .d])) (by simp) (by simp) ?_
        intro y15 y16
        have e4 := law_worth e hj2.1 (.l (h.length + (K.length + 2))) (h ++ (K ++ [natl (List.replicate p.bl.length 0), (cD (bC fo (adr (List.replicate p.bl.length 0)) bl)).map .d, (sb st' bl.as).map .d])) (by simp) j (by have := hj2.2; omega)
        have hz' : eqv (wo (sb st' bl.as) e) (.i 0) = true := by simpa [zeroB] using hz
        simp [e4, hz', n0]
        rw [show ((f : Int) + ((bC fo (adr (List.replicate p.bl.length 0)) bl).length - 1)) = (f : Int) + (bS fo bl st' : Nat) by omega]
        exact q _ _ _ _ _ _ _ _ _
      · simp [stepB, hjj, outL, Jmp.d, hz, hf] at e2 q e1 hB
        have n0 : ¬ ((l : Int) < 0) := by omega
        simp [lss_t, l1_law_store_steps, Prg.d, ixN_nat _ _ hlt, hlt, hb', Blk.d, hjj, Jmp.d, e0, e1, e2, n0, hsl', hf, foI_eq]
        refine own_loop_wp hsb (by omega) (h ++ (K ++ [natl (List.replicate p.bl.length 0), (cD (bC fo (adr (List.replicate p.bl.length 0)) bl)).map .d])) (by simp) (by simp) ?_
        intro y15 y16
        have e4 := law_worth e hj2.1 (.l (h.length + (K.length + 2))) (h ++ (K ++ [natl (List.replicate p.bl.length 0), (cD (bC fo (adr (List.replicate p.bl.length 0)) bl)).map .d, (sb st' bl.as).map .d])) (by simp) j (by have := hj2.2; omega)
        have hz' : eqv (wo (sb st' bl.as) e) (.i 0) = false := by simpa [zeroB] using hz
        simp [e4, hz', n0]
        rw [show ((f : Int) + (bC fo (adr (List.replicate p.bl.length 0)) bl).length) = (f : Int) + (bS fo bl st' : Nat) by omega]
        exact q _ _ _ _ _ _ _ _ _
theorem store_steps_f {p : Prg} {o : List Nat} {st : List D} {most : Nat} (ok : p.Ok) (few : ∀ b ∈ p.bl, Few b) (hs5 : p.bl.length ≤ 5) (ho : isOrd p.bl.length o) (hm : most ≤ 10000) (hs : SafeRun p most 0 st) (hst : st.length ≤ 1000) : Pu 56 f_law_store_steps [.d p.d, .d (.t (natD o)), .d (.b false), .d (.t st), .d (.i most)] (.i (stN p (fol o) most 0 st : Nat)) := by
  intro j hj h
  obtain ⟨j, rfl⟩ : ∃ i, j = i + 1 := ⟨j - 1, by omega⟩
  have := pw (f := f_law_store_steps) (ws := [.d p.d, .d (.t (natD o)), .d (.b false), .d (.t st), .d (.i most)]) (j := j) (h := h) (Q := fun q => q = (.d (.i (stN p (fol o) most 0 st : Nat)), h)) b_law_store_steps rfl rfl (by
    have hsl : st.length ≤ 16777216 := by omega
    simp [b_law_store_steps, Prg.d, hsl, inR_nat most (by omega), range_nat]
    refine wp_items (g := fun (k : Nat) => W.d (.i k)) (fun pre ρ H => ∃ b st' f x9 x10 x11 x12 x13 x14 x15 x16 K, ρ = [some (.d p.d), some (.d (.t (natD o))), some (.d (.b false)), some (.d (.t st)), some (.d (.i most)), some (.d (.t (p.bl.map Blk.d))), some (.d (.i (b : Nat))), some (.d (.t st')), some (.d (.i (f : Nat))), x9, x10, x11, x12, x13, x14, x15, x16, none] ∧ H = h ++ K ∧ SafeRun p (most - pre.length) b st' ∧ f + stN p (fol o) (most - pre.length) b st' = stN p (fol o) most 0 st) (xs := List.range most) [] ?_ ?_ ?_
    · exact ⟨0, st, 0, none, none, none, none, none, none, none, none, [], by simp [Prg.d], by simp, by simpa using hs, by simp⟩
    · rintro pre k post e ρ H ⟨b, st', f, x9, x10, x11, x12, x13, x14, x15, x16, K, rfl, rfl, hsr, hsum⟩
      obtain ⟨-, hpl⟩ := rng_mid (by simpa using e)
      obtain ⟨n, hn⟩ : ∃ n, most - pre.length = n + 1 := ⟨most - pre.length - 1, by omega⟩
      have hn2 : most - (pre ++ [k]).length = n := by simp; omega
      rw [hn] at hsr hsum
      rw [hn2]
      obtain ⟨⟨bl, hb, hsb⟩, hrest⟩ := hsr
      rw [stN_succ p (fol o) n b st' hb] at hsum
      have hlt : b < p.bl.length := (List.getElem?_eq_some_iff.1 hb).1
      have hmm := List.mem_of_getElem? hb
      have hst : stepP p b st' = stepB bl st' := by unfold stepP; rw [hb]
      rw [hst] at hrest
      obtain ⟨i, hi, hib⟩ := List.mem_iff_getElem.1 (ho.2.2.1 b hlt)
      have hfd := find_nat ho.2.1 hi
      have hfg := fol_get ho.2.1 hi
      rw [hib] at hfd hfg
      have key : ∀ Q : Kt (Fl × Env × LH), (∀ x9 x11 x12 x13 x14 x15 x16, @Wp _ (execs (cx j) lss_t [some (.d p.d), some (.d (.t (natD o))), some (.d (.b false)), some (.d (.t st)), some (.d (.i most)), some (.d (.t (p.bl.map Blk.d))), some (.d (.i (b : Nat))), some (.d (.t st')), some (.d (.i (f : Nat))), x9, some (.d (.i (foI (fol o b)))), x11, x12, x13, x14, x15, x16, none] (h ++ K)) Q) → @Wp _ (fb (cx j) (.n 9) l1_law_store_steps (.d (.i k)) [some (.d p.d), some (.d (.t (natD o))), some (.d (.b false)), some (.d (.t st)), some (.d (.i most)), some (.d (.t (p.bl.map Blk.d))), some (.d (.i (b : Nat))), some (.d (.t st')), some (.d (.i (f : Nat))), x9, x10, x11, x12, x13, x14, x15, x16, none] (h ++ K)) Q := by
        intro Q main
        by_cases hk1 : i + 1 < o.length
        · have c1 : (i : Int) + 1 < o.length := by omega
          have g2 : ∀ hh, (natD o)[i + 1]'hh = .i (foI (fol o b)) := fun hh => by
            rw [hfg, List.getElem?_eq_getElem hk1]; simp [natD, foI]
          have i2 : ixN o.length ((i : Int) + 1) = some (i + 1) := ixN_nat o.length (i + 1) hk1
          simp [fb, lss_eq, hfd, hk1, i2, g2, c1]
          exact main _ _ _ _ _ _ _
        · have g2 : foI (fol o b) = -1 := by rw [hfg, List.getElem?_eq_none (by omega)]; rfl
          have c1 : ¬ (i : Int) + 1 < o.length := by omega
          rw [g2] at main
          simp [fb, lss_eq, hfd, hk1, c1]
          exact main _ _ _ _ _ _ _
      refine key _ fun x9 x11 x12 x13 x14 x15 x16 => ?_
      refine lss_tail (fol o b) (few bl hmm) (ok.bl bl hmm) (by omega) hb hsb (by omega) ?_
      cases ho2 : stepB bl st' with
      | go b' st'' =>
        rw [ho2] at hrest hsum
        simp only at hrest hsum ⊢
        intro x9 x10 x11 x12 x13 x14 x15 x16 K
        exact ⟨b', st'', f + bS (fol o b) bl st', x9, x10, x11, x12, x13, x14, x15, x16, K, rfl, rfl, hrest, by omega⟩
      | ended x =>
        rw [ho2] at hsum
        simp only at hsum ⊢
        intro ρ K
        rw [show f + bS (fol o b) bl st' = stN p (fol o) most 0 st by omega]
        simp
    · rintro ρ H ⟨b, st', f, x9, x10, x11, x12, x13, x14, x15, x16, K, rfl, rfl, hsr, hsum⟩
      simp [stN] at hsum
      simp [hsum])
  obtain ⟨q, e1, rfl⟩ := this
  exact e1
end J
set_option maxRecDepth 10000
namespace J
/-! jumps of the target -/
def isFin : Jmp → Bool
  | .fin _ => true
  | _ => false
theorem code_noJ : ∀ e : Exp, (code e).filter isJ = []
  | .know x => rfl
  | .of v => rfl
  | .o1 o a => by simp only [code, List.filter_append, code_noJ a]; rfl
  | .o2 o a b => by simp only [code, List.filter_append, code_noJ a, code_noJ b]; rfl
  | .o3 o a b c => by simp only [code, List.filter_append, code_noJ a, code_noJ b, code_noJ c]; rfl
theorem asC_noJ : ∀ as : List (Nat × Exp), (asC as).filter isJ = []
  | [] => rfl
  | a :: r => by
    have := asC_noJ r
    simp only [asC, List.flatMap_cons, List.filter_append, code_noJ] at this ⊢
    rw [this]; rfl
theorem toC_J (fo : Option Nat) (ad : Nat → Nat) (l : Nat) : ((toC fo ad l).filter isJ).length = if fo = some l then 0 else 1 := by
  unfold toC
  by_cases h : fo = some l
  · simp [h]
  · rw [if_neg h, if_neg h]; rfl
theorem bC_J (fo : Option Nat) (ad : Nat → Nat) (b : Blk) : ((bC fo ad b).filter isJ).length = if ndJ b.j fo = true then 1 else 0 := by
  unfold bC
  rw [List.filter_append, asC_noJ, List.nil_append]
  cases b.j with
  | goto l => simp only [jC, toC_J, ndJ, wayJ]; by_cases h : fo = some l <;> simp [h]
  | test e l m =>
    simp only [jC, List.filter_append, code_noJ, List.nil_append, List.length_append, toC_J, ndJ, wayJ]
    by_cases h : fo = some l <;> simp [h, isJ]
  | fin e => simp [jC, List.filter_append, code_noJ, isJ, ndJ, wayJ]
theorem sum_ite {α : Type} (f : α → Bool) : ∀ xs : List α, (xs.map fun x => if f x = true then 1 else 0).sum = (xs.filter f).length
  | [] => rfl
  | x :: r => by
    have := sum_ite f r
    cases h : f x <;> simp [h, this] ; omega
theorem codeP_J {p : Prg} (o : List Nat) (h : ∀ b ∈ o, b < p.bl.length) : ((codeP p (fol o) o).filter isJ).length = cnt p o := by
  unfold codeP cnt
  rw [List.filter_flatMap, List.length_flatMap, ← sum_ite]
  congr 1
  refine List.map_congr_left fun b hb => ?_
  unfold blC nd
  rw [List.getElem?_eq_getElem (h b hb)]
  exact bC_J _ _ _
theorem range_map_get {α β : Type} (xs : List α) (g : α → β) (f : Nat → β) (h : ∀ b (hb : b < xs.length), f b = g xs[b]) : (List.range xs.length).map f = xs.map g := by
  apply List.ext_getElem
  · simp
  · intro i h1 h2
    simp at h1 h2
    simp [h i h1]
theorem target_J (p : Prg) : ((codeP p nof (List.range p.bl.length)).filter isJ).length = (p.bl.filter fun b => !isFin b.j).length := by
  unfold codeP
  rw [List.filter_flatMap, List.length_flatMap, ← sum_ite]
  congr 1
  refine range_map_get p.bl _ _ fun b hb => ?_
  unfold blC
  rw [List.getElem?_eq_getElem hb]
  simp only
  rw [bC_J]
  cases p.bl[b].j <;> simp [ndJ, wayJ, isFin]
theorem lay_len {p : Prg} {o : List Nat} (few : ∀ b ∈ p.bl, Few b) (hs : p.bl.length ≤ 5) (h : isOrd p.bl.length o) : (codeP p (fol o) o).length ≤ 30000 := by
  have := code_in_len (fo := fol o) few (adr (adP p (fol o) o)) o
  have := h.1
  unfold codeP
  omega
theorem is_laid_ok {p : Prg} {o : List Nat} (s : Sml p) (hs : p.bl.length ≤ 5) (h : isOrd p.bl.length o) : Pu 20 f_law_is_laid [.d p.d, .d (.t (natD o))] (.b true) := by
  intro j hj hh
  obtain ⟨j, rfl⟩ : ∃ i, j = i + 1 := ⟨j - 1, by omega⟩
  have L := ly_of s.ok s.few hs h
  have hlen := lay_len s.few hs h
  have wh := wh_lay L
  have hin := codeP_in s.ok (fol o) o
  have laid := law_laid_f s.ok s.few hs h j (by omega)
  have lo := laid_out_ok s.ok s.few hs h j (by omega)
  have d1 := same (cD_dt s.ok (fol o) o (by omega)) j (by omega)
  have tg := target_ok s j (by omega)
  have tlen := s.len
  obtain ⟨RF, hf, iv⟩ := hfin_ex wh (3 * (codeP p (fol o) o).length + 1) (List.replicate (codeP p (fol o) o).length none) [(0, 0)] (by simp [mu, nones]) (by
    refine ⟨by simp, ?_, ?_, ?_, ?_⟩
    · intro q hq
      simp at hq
      subst hq
      exact ⟨wh.ne, wh.z.symm⟩
    · intro a h e
      rw [List.getElem?_replicate] at e
      split at e <;> simp at e
    · right; simp
    · rintro a i ⟨h, e⟩
      rw [List.getElem?_replicate] at e
      split at e <;> simp at e)
  have ck := check_code_ok (M := p.many) wh hlen (fun i hi => (hin i hi).2) hf j (by omega)
  have j1 := jumps_in_ok (C := codeP p (fol o) o) (by omega) j (by omega)
  have j2 := jumps_in_ok (C := codeP p nof (List.range p.bl.length)) (by omega) j (by omega)
  rw [target_J] at j2
  generalize codeP p (fol o) o = C at *
  have hs2 := s.small
  have := pw (f := f_law_is_laid) (ws := [.d p.d, .d (.t (natD o))]) (j := j) (h := hh) (Q := fun q => q = (.d (.b true), hh)) b_law_is_laid rfl rfl (by
    have c1 : ∀ (r0 r1 r3 r4 : Option W) (H : LH), compItems (turn (.n 3) [r0, r1, some (.d (.t (cD C))), r3, r4] (evc (cx j) (some (.cmp .eq (.ix (.var 3) (.c (.i 0))) (.c (.s "jump"))))) (ev (cx j) (.c (.i 1)))) ((cD C).map .d) [] H = some ((C.filter isJ).map fun _ => .d (.i 1), H) := by
      intro r0 r1 r3 r4 H
      have e1 := compF (C := cx j) (e := .c (.i 1)) (cnd := .cmp .eq (.ix (.var 3) (.c (.i 0))) (.c (.s "jump"))) (i := 3) (ρ := [r0, r1, some (.d (.t (cD C))), r3, r4]) (h := H) (g := W.d ∘ Ins.d) isJ (fun _ => .d (.i 1)) (xs := C) [] (by
        intro i hi
        constructor
        · cases i <;> simp [Ins.d, wipe, isJ]
        · intro _; simp [wipe]) (by simp; omega)
      have hm : (cD C).map W.d = C.map (W.d ∘ Ins.d) := by simp [cD]
      rw [hm, e1]; rfl
    have c2 : ∀ (r0 r1 r2 r3 r4 : Option W) (H : LH), compItems (turn (.n 4) [r0, r1, r2, r3, r4] (evc (cx j) (some (.cmp .ne (.ix (.ix (.var 4) (.c (.i 1))) (.c (.i 0))) (.c (.s "end"))))) (ev (cx j) (.c (.i 1)))) (p.bl.map (W.d ∘ Blk.d)) [] H = some ((p.bl.filter fun b => !isFin b.j).map fun _ => .d (.i 1), H) := by
      intro r0 r1 r2 r3 r4 H
      have e1 := compF (C := cx j) (e := .c (.i 1)) (cnd := .cmp .ne (.ix (.ix (.var 4) (.c (.i 1))) (.c (.i 0))) (.c (.s "end"))) (i := 4) (ρ := [r0, r1, r2, r3, r4]) (h := H) (g := W.d ∘ Blk.d) (fun b => !isFin b.j) (fun _ => .d (.i 1)) (xs := p.bl) [] (by
        intro b hb
        constructor
        · cases hj : b.j <;> simp [Blk.d, hj, Jmp.d, wipe, isFin]
        · intro _; simp [wipe]) (by simp; omega)
      rw [e1]; rfl
    have d2 := fun n : Nat => same (dt_i 1 (n : Int)) j (by omega)
    simp only [Prg.d] at laid lo tg
    simp [b_law_is_laid, Prg.d, laid, lo, d1, ck, j1, tg, j2, c1, c2, d2])
  obtain ⟨q, e1, rfl⟩ := this
  exact e1
theorem order_of_perm {n : Nat} {o : List Nat} (hp : o.Perm (List.range n)) (hh : o.head? = some 0) : isOrd n o :=
  ⟨by simpa using hp.length_eq, hp.nodup_iff.2 List.nodup_range, fun b hb => hp.mem_iff.2 (List.mem_range.2 hb), fun b hb => List.mem_range.1 (hp.mem_iff.1 hb), hh⟩
theorem erase_perm {α : Type} {L : List α} {i : Nat} (hi : i < L.length) : ([L[i]] ++ L.eraseIdx i).Perm L := by
  have e : L.take i ++ L[i] :: L.drop (i + 1) = L := by rw [← List.drop_eq_getElem_cons hi, List.take_append_drop]
  rw [List.eraseIdx_eq_take_drop_succ]
  conv => rhs; rw [← e]
  exact (List.perm_middle (l₁ := L.take i) (l₂ := L.drop (i + 1)) (a := L[i])).symm
theorem map_erase {α β : Type} (g : α → β) (L : List α) (i : Nat) : (L.map g).eraseIdx i = (L.eraseIdx i).map g := by
  rw [List.eraseIdx_eq_take_drop_succ, List.eraseIdx_eq_take_drop_succ, List.map_append, List.map_take, List.map_drop]
theorem law_order {n : Nat} (h1 : 1 ≤ n) (h5 : n ≤ 1000) : Pd 9 f_law_order [.d (.i n)] (fun r => ∃ o, r = .t (natD o) ∧ isOrd n o) := by
  refine Pd.of b_law_order rfl rfl fun j hj a H ds ha => ?_
  obtain ⟨m, rfl⟩ : ∃ m, n = m + 1 := ⟨n - 1, by omega⟩
  have hR1 := inR_nat 1 (by omega)
  have hR2 := inR_nat (m + 1) (by omega)
  have hR3 := inR_nat m (by omega)
  have hr := range_1 m
  simp at hR1 hR2 hR3 hr
  have hr2 := range_nat m
  have l1 : m ≤ 16777216 := by omega
  simp [b_law_order, hR1, hR2, hR3, hr, hr2, l1]
  refine wp_items (g := fun (k : Nat) => W.d (.i k)) (fun pre ρ h => ∃ (L F ds : List _) (y4 : Option W), ρ = [some (.l a), some (.d (.i (m + 1 : Nat))), some (.l H.length), some (.l (H.length + 1)), y4] ∧ h = hp H a ds [(natD L).map .d, (natD F).map .d] ∧ (F ++ L).Perm (List.range (m + 1)) ∧ F.head? = some 0 ∧ F.length = pre.length + 1) (xs := List.range m) [] ?_ ?_ ?_
  · refine ⟨(List.range m).map (· + 1), [0], ds, none, by simp, ?_, ?_, rfl, rfl⟩
    · have : (fun k : Nat => W.d (.i ((k : Int) + 1))) = (W.d ∘ (fun v : Nat => D.i v) ∘ fun x => x + 1) := by funext k; simp
      simp [natD, this]
    · rw [List.range_succ_eq_map]; exact List.Perm.refl _
  · rintro pre k post e ρ h ⟨L, F, ds, y4, rfl, rfl, hp', hh, hl⟩
    obtain ⟨rfl, hk⟩ := rng_mid (by simpa using e)
    have hlen := hp'.length_eq
    simp at hlen
    have hpos : 1 ≤ L.length := by omega
    simp [fb, l0_law_order]
    refine (take L.length (by omega)).wp (by omega) ha ?_
    rintro _ d1 ⟨x, rfl, h0, hx1⟩
    obtain ⟨i, rfl⟩ := nat_of h0
    have hi : i < L.length := by omega
    have hi2 : (i : Int) ≤ 16777216 := by omega
    have hF : F.length < 16777216 := by omega
    simp [hi, hi2, hF]
    refine ⟨L.eraseIdx i, F ++ [L[i]], ?_, ?_, ?_, ?_⟩
    · exact ⟨d1, by simp [natD, map_erase]⟩
    · refine List.Perm.trans ?_ hp'
      rw [List.append_assoc]
      refine List.Perm.append_left F ?_
      exact erase_perm hi
    · rw [List.head?_append]; rw [hh]; rfl
    · simp [hl]
  · rintro ρ h ⟨L, F, ds, y4, rfl, rfl, hp', hh, hl⟩
    simp at hl
    have hlen := hp'.length_eq
    simp at hlen
    have hL : L = [] := List.length_eq_zero_iff.1 (by omega)
    subst hL
    have hF : F.length ≤ 16777216 := by omega
    simp [hF]
    exact ⟨_, ⟨F, rfl, order_of_perm (by simpa using hp') hh⟩, rfl, _, rfl⟩
end J
set_option maxRecDepth 10000
namespace J
theorem bS_zero {fo : Option Nat} {bl : Blk} {st : List D} (h : bS fo bl st = 0) : ∃ l, fo = some l ∧ bl.j = .goto l := by
  unfold bS at h
  cases hj : bl.j with
  | goto l =>
    rw [hj] at h
    simp only [jS, tS] at h
    by_cases hf : fo = some l
    · exact ⟨l, hf, rfl⟩
    · simp [hf] at h
  | test e l m => rw [hj] at h; simp only [jS] at h; omega
  | fin e => rw [hj] at h; simp only [jS] at h; omega
theorem stN_pos {p : Prg} {fo : Nat → Option Nat} {order : List Nat} (L : Ly p fo order) : ∀ (n b : Nat) (st : List D) (o1 o2 : List Nat), order = o1 ++ b :: o2 → stN p fo n b st = 0 → n ≤ o2.length
  | 0, b, st, o1, o2, e, h => by omega
  | n + 1, b, st, o1, o2, e, h => by
    obtain ⟨hlt, _⟩ := L.out e
    rw [stN_succ p fo n b st (List.getElem?_eq_getElem hlt)] at h
    obtain ⟨l, h1, h2⟩ := bS_zero (show bS (fo b) p.bl[b] st = 0 by omega)
    have hs : stepB p.bl[b] st = .go l (sb st p.bl[b].as) := by unfold stepB; rw [h2]
    rw [hs] at h
    simp only at h
    have hn := L.nx o1 b o2 e
    rw [h1] at hn
    cases o2 with
    | nil => cases hn
    | cons c o2 =>
      simp at hn
      subst hn
      have := stN_pos L n l (sb st p.bl[b].as) (o1 ++ [b]) o2 (by rw [e]; simp) (by omega)
      simp; omega
theorem is_run_f {p : Prg} {o : List Nat} {st : List D} {most : Nat} (s : Sml p) (hs5 : p.bl.length ≤ 5) (ho : isOrd p.bl.length o) (hm : most ≤ 40) (hm2 : 6 ≤ most) (hs : SafeRun p most 0 st) (hst : st.length ≤ 1000) : Pu 70 f_law_is_run_v2 [.d p.d, .d (.t (natD o)), .d (.t st), .d (.i most)] (.b true) := by
  refine pu (d := b_law_is_run_v2) rfl rfl fun j hj h => ?_
  have ra : ∀ k x, runP p most 0 st = some (k, x) → Dt 60 x := fun k x e => ((run_thing hs e).dt (by omega)).up (by omega)
  have L := ly_of s.ok s.few hs5 ho
  have e1 := laid_out_ok s.ok s.few hs5 ho j (by omega) h
  have e2 := law_run_ok (p := p) (st := st) (most := most) (by omega) hst hs j (by omega) h
  have e3 := store_steps_f s.ok s.few hs5 ho (by omega) hs hst j (by omega) h
  have e4 := target_steps_ok s (by omega) hs hst j (by omega) h
  have e8 := laid_steps_ok s.ok.ne s.few hs5 ho (by omega) hs hst j (by omega) h
  have e5 := same (dt_i 1 (stN p (fol o) most 0 st)) j (by omega) h
  have e6 := run_ok (p := p) (st := st) (most := most) (by omega) hs j (by omega) h
  have e7 := same_res most (runP p most 0 st) ra j (by omega) h
  obtain ⟨S1, S2⟩ := sim_run L.laid most 0 st hs
  rw [L.zero] at S1 S2
  have hle := stN_le s.few most 0 st
  have hle2 := stN_le_fo p (fol o) most 0 st
  have hpos : 1 ≤ stN p (fol o) most 0 st := by
    rcases Nat.eq_zero_or_pos (stN p (fol o) most 0 st) with h0 | h0
    · obtain ⟨r, er⟩ : ∃ r, o = 0 :: r := by
        have := L.z
        cases o with
        | nil => cases this
        | cons a r => simp at this; exact ⟨r, by rw [this]⟩
      have := stN_pos L most 0 st [] r er h0
      have h2 := ho.1
      rw [er] at h2
      simp at h2
      omega
    · exact h0
  generalize stN p (fol o) most 0 st = N at *
  generalize stN p nof most 0 st = NT at *
  generalize hC : codeP p (fol o) o = C at *
  have rc : ∀ n : Nat, n ≤ N → call JP j f_run_code [.d (.t (cD C)), .d (.t st), .d (.i n)] h = some (.d (resD n (runM C n 0 [] st)), h) := fun n hn => run_code_ok (by omega) (S1.le hn) j (by omega) h
  have so := fun n : Nat => same_res n none (fun k x e => by cases e) j (by omega) h
  have cN : ¬ ((NT : Int) < N) := by omega
  simp only [resD] at so
  cases hp : runP p most 0 st with
  | none =>
    rw [hp] at e2 e6 e7 S2
    simp only [resD, Option.map_none] at e2 e6 e7 S2
    by_cases h4 : 400 < N
    · have h4' : (400 : Int) < N := by omega
      have r4 := rc 400 (by omega)
      rw [runM_none S2 (by omega)] at r4
      have so4 := so 400
      simp [resD] at r4 so4
      simp [b_law_is_run_v2, e1, e2, e3, e4, e5, e6, e7, e8, cN, hle2, h4', h4, r4, so4]
    · have h4' : ¬ (400 : Int) < N := by omega
      have r4 := rc N (by omega)
      rw [S2] at r4
      have so4 := so N
      simp [resD] at r4 so4
      have hmx : builtin h .max2 [.d (.i 1), .d (.i N)] = some (.d (.i N), h) := by
        show some (W.d (.i (if (N : Int) > 1 then (N : Int) else 1)), h) = _
        rw [show (if (N : Int) > 1 then (N : Int) else 1) = N by split <;> omega]
      simp [b_law_is_run_v2, e1, e2, e3, e4, e5, e6, e7, e8, cN, hle2, h4', h4, hmx, r4, so4]
  | some r =>
    obtain ⟨k, x⟩ := r
    rw [hp] at e2 e6 e7 S2
    simp only [resD, Option.map_some] at e2 e6 e7 S2
    by_cases h4 : 400 < N
    · have h4' : (400 : Int) < N := by omega
      have r4 := rc 400 (by omega)
      rw [runM_less S2 h4] at r4
      have so4 := so 400
      simp [resD] at r4 so4
      simp [b_law_is_run_v2, e1, e2, e3, e4, e5, e6, e7, e8, cN, hle2, h4', h4, r4, so4]
    · have h4' : ¬ (400 : Int) < N := by omega
      have r4 := rc N (by omega)
      rw [S2] at r4
      have so4 := same_res N (some (N, x)) (fun k' x' e => by cases e; exact ra k x hp) j (by omega) h
      simp [resD] at r4 so4
      simp [b_law_is_run_v2, e1, e2, e3, e4, e5, e6, e7, e8, cN, hle2, h4', h4, r4, so4]
/-! the best of the law -/
section
variable {p : Prg}
def bL (acc : Option (List Nat × Nat)) : D := match acc with
  | none => .t [.i 0]
  | some (b, _) => .t (natD b)
def fL (acc : Option (List Nat × Nat)) : Int := match acc with
  | none => -1
  | some (_, f) => f
theorem best_of : ∀ (os : List (List Nat)) (acc : Option (List Nat × Nat)), (acc = none → os ≠ []) → (∀ q, acc = some q → q.2 = cnt p q.1 ∧ q.1 ∈ ords p.bl.length) → (∀ o ∈ os, o ∈ ords p.bl.length) → ∃ b, os.foldl (bstep p) acc = some (b, cnt p b) ∧ b ∈ ords p.bl.length
  | [], acc, h1, h2, h3 => by
    cases acc with
    | none => exact absurd rfl (h1 rfl)
    | some q => obtain ⟨b, f⟩ := q; obtain ⟨e, m⟩ := h2 _ rfl; simp only at e m; subst e; exact ⟨b, rfl, m⟩
  | o :: os, acc, h1, h2, h3 => by
    rw [List.foldl_cons]
    have ho := h3 o (by simp)
    refine best_of os _ ?_ ?_ (fun x hx => h3 x (List.mem_cons_of_mem _ hx))
    · intro h; unfold bstep at h; split at h
      · cases h
      · split at h <;> cases h
    · intro q hq
      unfold bstep at hq
      split at hq
      · cases hq; exact ⟨rfl, ho⟩
      · rename_i b f
        split at hq
        · cases hq; exact ⟨rfl, ho⟩
        · cases hq; exact h2 _ rfl
theorem best_some (h1 : 1 ≤ p.bl.length) (h5 : p.bl.length ≤ 5) : ∃ b, best p = some (b, cnt p b) ∧ b ∈ ords p.bl.length := best_of _ _ (fun _ => ords_ne h1 h5) (fun q h => by cases h) (fun o h => h)
end
end J
set_option maxRecDepth 100000
namespace J
def turn82 : D := .t [.t [.t [.t [.i 0, .t [.s "minus", .t [.s "of", .i 0], .t [.s "know", .i 1]]]], .t [.s "goto", .i 2]], .t [.t [], .t [.s "end", .t [.s "of", .i 0]]], .t [.t [], .t [.s "test", .t [.s "of", .i 0], .i 0, .i 1]]]
def prog82 : D := .t [.i 1, turn82]
def ord82 : D := .t [.i 0, .i 2, .i 1]
def code82 : D := .t [.t [.s "load", .i 0], .t [.s "push", .i 1], .t [.s "do", .s "minus"], .t [.s "keep", .i 0], .t [.s "load", .i 0], .t [.s "unless", .i 7], .t [.s "jump", .i 0], .t [.s "load", .i 0], .t [.s "halt"]]
theorem k82a : ∀ h, call JP 80 f_fewest_jumps [.d prog82] h = some (.d ord82, h) := closedB (xs := [prog82]) ord82 (by decide +kernel)
theorem k82b : ∀ h, call JP 80 f_law_same [.d ord82, .d ord82] h = some (.d (.b true), h) := closedB (xs := [ord82, ord82]) (.b true) (by decide +kernel)
theorem k82c : ∀ h, call JP 80 f_laid_out [.d prog82, .d ord82] h = some (.d code82, h) := closedB (xs := [prog82, ord82]) code82 (by decide +kernel)
theorem k82d : ∀ h, call JP 80 f_jumps_in [.d code82] h = some (.d (.i 1), h) := closedB (xs := [code82]) (.i 1) (by decide +kernel)
theorem k82e : ∀ h, call JP 80 f_law_same [.d (.i 1), .d (.i 1)] h = some (.d (.b true), h) := closedB (xs := [.i 1, .i 1]) (.b true) (by decide +kernel)
theorem k82f : ∀ h, call JP 80 f_law_is_laid [.d prog82, .d ord82] h = some (.d (.b true), h) := closedB (xs := [prog82, ord82]) (.b true) (by decide +kernel)
theorem k82g : ∀ h, call JP 80 f_law_same [.d code82, .d code82] h = some (.d (.b true), h) := closedB (xs := [code82, code82]) (.b true) (by decide +kernel)
theorem k82h : ∀ h, call JP 80 f_law_is_run_v2 [.d prog82, .d ord82, .d (.t [.i 2]), .d (.i 9)] h = some (.d (.b true), h) := closedB (xs := [prog82, ord82, .t [.i 2], .i 9]) (.b true) (by decide +kernel)
theorem k82i : ∀ h, call JP 80 f_laid_steps [.d prog82, .d ord82, .d (.t [.i 2]), .d (.i 9)] h = some (.d (.i 15), h) := closedB (xs := [prog82, ord82, .t [.i 2], .i 9]) (.i 15) (by decide +kernel)
theorem k82j : ∀ h, call JP 80 f_law_same [.d (.i 15), .d (.i 15)] h = some (.d (.b true), h) := closedB (xs := [.i 15, .i 15]) (.b true) (by decide +kernel)
theorem k82k : ∀ h, call JP 80 f_law_is_run_v2 [.d prog82, .d (.t [.i 0, .i 1, .i 2]), .d (.t [.i 3]), .d (.i 9)] h = some (.d (.b true), h) := closedB (xs := [prog82, .t [.i 0, .i 1, .i 2], .t [.i 3], .i 9]) (.b true) (by decide +kernel)
end J
set_option maxRecDepth 10000
namespace J
theorem own_ord (n : Nat) (h : 1 ≤ n) : isOrd n (List.range n) := by
  refine order_of_perm (List.Perm.refl _) ?_
  obtain ⟨m, rfl⟩ : ∃ m, n = m + 1 := ⟨n - 1, by omega⟩
  rw [List.range_succ_eq_map]; rfl
set_option maxHeartbeats 4000000 in
theorem law82 (ns : List Int) (hns : ns.length ≤ 63) : ∃ h', call JP 81 f_law_v7 [.d (.fl (ns.map .i))] [] = some (.d (.b true), h') := by
  have main : @Wp _ (call JP 81 f_law_v7 [.d (.fl (ns.map .i))] []) ⟨fun p => p.1 = .d (.b true)⟩ := by
    rw [call_def (d := b_law_v7) rfl rfl, Wp_ret]
    obtain ⟨H, a, ds, ha, e0⟩ : ∃ H a ds, a < H.length ∧ call JP 80 f_law_draws [.d (.fl (ns.map .i)), .d (.i 200)] [] = some (.l a, hp H a ds []) := by
      obtain ⟨ds, e⟩ := draws 200 (by omega) ns (by omega) 80 (by omega) []
      exact ⟨[[]], 0, ds, by simp, by rw [show (200 : Int) = ((200 : Nat) : Int) from rfl, e]; rfl⟩
    obtain ⟨c, hc⟩ := cell ns (by omega)
    have hc' := fun h => hc 80 (by omega) h
    simp -implicitDefEqProofs [b_law_v7, e0, hc']
    refine (take 3 (by omega)).wp (by omega) ha ?_
    rintro _ d1 ⟨x1, rfl, hx0, hx1⟩
    obtain ⟨F, hF⟩ : ∃ F : Nat, 1 + x1 = F := ⟨(1 + x1).toNat, by omega⟩
    simp -implicitDefEqProofs [hF]
    refine (take 2 (by omega)).wp (by omega) ha ?_
    rintro _ d2 ⟨x2, rfl, hy0, hy1⟩
    obtain ⟨M, hM⟩ : ∃ M : Nat, (F : Int) + x2 = M := ⟨(F + x2).toNat, by omega⟩
    simp -implicitDefEqProofs [hM]
    refine (take 5 (by omega)).wp (by omega) ha ?_
    rintro _ d4 ⟨x4, rfl, hz0, hz1⟩
    obtain ⟨size, hs⟩ : ∃ n : Nat, 1 + x4 = n := ⟨(1 + x4).toNat, by omega⟩
    simp -implicitDefEqProofs [hs]
    refine (law_program F M size (by omega) (by omega) (by omega) (by omega) (by omega) c).wp (by omega) ha ?_
    rintro _ d5 ⟨p, rfl, hpl, mild⟩
    have sm := sml_of mild (by omega) (by omega)
    have hn1 := sm.ok.ne
    have h5 : p.bl.length ≤ 5 := by omega
    have hok := ords_ok hn1 h5
    obtain ⟨b, hb, hbm⟩ := best_some hn1 h5
    have ho := hok b hbm
    have fj := fun h => fewest_jumps_ok hn1 h5 h
    have lo := fun h => laid_out_ok sm.ok sm.few h5 ho 80 (by omega) h
    have ln := lay_len sm.few h5 ho
    have ji := fun h => jumps_in_ok (C := codeP p (fol b) b) (by omega) 80 (by omega) h
    rw [codeP_J b ho.2.2.2.1] at ji
    have lord := fun h => law_orders_ok hn1 h5 h
    have d1' := fun h => same (natD_dt b (by rw [ho.1]; omega)) 80 (by omega) h
    have d2' := fun h => same (dt_i 1 (cnt p b : Int)) 80 (by omega) h
    have hr := range_nat p.bl.length
    have hn := natl_d (List.range p.bl.length)
    rw [← hn] at hr
    have hR := inR_nat p.bl.length (by omega)
    have l4 : p.bl.length ≤ 16777216 := by omega
    simp -implicitDefEqProofs [Prg.d, lord]
    refine wp_live (g := fun o => W.d (.t (natD o))) (xs := ords p.bl.length) (fun pre ρ h => ∃ x9 x10, ρ = [some (.d (.fl (ns.map .i))), some (.l a), some (.d (.i c)), some (.d (.i F)), some (.d (.i M)), some (.d p.d), some (.d (.i p.bl.length)), some (.d (bL (pre.foldl (bstep p) none))), some (.d (.i (fL (pre.foldl (bstep p) none)))), x9, x10, none, none] ∧ h = hp H a d5 [(ordD p.bl.length).map .d]) ?_ ?_ ?_ ?_ ?_
    · exact ⟨none, none, rfl, rfl⟩
    · rintro pre ρ H ⟨x3, x4, rfl, rfl⟩
      simp [ordD]
    · rintro pre o post e ρ h ⟨x9, x10, rfl, rfl⟩
      have hoo := hok o (by rw [e]; simp)
      have e1 := fun h => law_jumps_ok hn1 h5 hoo 80 (by omega) h
      rw [List.foldl_append]
      simp only [List.foldl_cons, List.foldl_nil]
      simp only [Prg.d] at e1
      cases hacc : pre.foldl (bstep p) none with
      | none => simp [fb, l0_law_v7, bL, fL, bstep, Prg.d, e1]
      | some q =>
        obtain ⟨b', f⟩ := q
        have hf0 : ¬ ((f : Int) < 0) := by omega
        by_cases hlt : cnt p o < f
        · have hlt' : (cnt p o : Int) < f := by omega
          simp [fb, l0_law_v7, bL, fL, bstep, Prg.d, e1, hlt, hlt', hf0]
        · have hlt' : ¬ (cnt p o : Int) < f := by omega
          simp [fb, l0_law_v7, bL, fL, bstep, Prg.d, e1, hlt, hlt', hf0]
    · rintro ρ h ⟨x9, x10, rfl, rfl⟩
      have hb2 : (ords p.bl.length).foldl (bstep p) none = some (b, cnt p b) := hb
      rw [hb2]
      rw [hb] at fj
      simp only [bD, bL, fL] at fj ⊢
      simp only [Prg.d] at fj lo
      simp -implicitDefEqProofs [Prg.d, fj, lo, ji, d1', d2', hr, hR, l4]
      refine (law_order (n := p.bl.length) hn1 (by omega)).wp (by omega) ha ?_
      rintro _ d6 ⟨o3, rfl, ho3⟩
      simp -implicitDefEqProofs
      refine wp_live (g := fun o => W.d (.t (natD o))) (xs := [b, List.range p.bl.length, o3]) (a := H.length + 1) (fun pre ρ h => ∃ x9 ds K, ρ = [some (.d (.fl (ns.map .i))), some (.l a), some (.d (.i c)), some (.d (.i F)), some (.d (.i M)), some (.d p.d), some (.d (.i p.bl.length)), some (.d (.t (natD b))), some (.d (.i (cnt p b))), x9, x10, none, none] ∧ h = hp H a ds ([(ordD p.bl.length).map .d, [.d (.t (natD b)), .d (.t (natD (List.range p.bl.length))), .d (.t (natD o3))]] ++ K)) ?_ ?_ ?_ ?_ ?_
      · exact ⟨x9, d6, [], by simp [Prg.d], by simp⟩
      · rintro pre ρ h ⟨x9, ds, K, rfl, rfl⟩
        simp
      · rintro pre o post e ρ h ⟨x9, ds, K, rfl, rfl⟩
        have hoo : isOrd p.bl.length o := by
          have : o ∈ [b, List.range p.bl.length, o3] := by rw [e]; simp
          simp at this
          rcases this with rfl | rfl | rfl
          · exact ho
          · exact own_ord _ hn1
          · exact ho3
        have e1 := fun h => is_laid_ok sm h5 hoo 80 (by omega) h
        simp -implicitDefEqProofs [fb, l1_law_v7, e1]
        refine (law_store c M (by omega)).wp (by omega) ha ?_
        rintro _ d9 ⟨st, rfl, hsl, hst⟩
        have sf := mild_safe mild (by omega) (by omega) hsl hst
        have e2 := fun h => is_run_f sm h5 hoo (most := 16) (by omega) (by omega) (sf 16 (by omega)) (by omega) 80 (by omega) h
        simp at e2
        simp -implicitDefEqProofs [e2]
        exact ⟨_, _, rfl⟩
      · rintro ρ h ⟨x9, ds, K, rfl, rfl⟩
        have y1 := k82a
        have y2 := k82b
        have y3 := k82c
        have y4 := k82d
        have y5 := k82e
        have y6 := k82f
        have y7 := k82g
        have y8 := k82h
        have y9 := k82i
        have y10 := k82j
        have y11 := k82k
        simp only [prog82, turn82, code82, ord82] at y1 y2 y3 y4 y5 y6 y7 y8 y9 y10 y11
        simp -implicitDefEqProofs [y1, y2, y3, y4, y5, y6, y7, y8, y9, y10, y11]
      · simp
    · simp [ordD]
  obtain ⟨⟨w, h'⟩, e, rfl⟩ := main
  exact ⟨h', e⟩
end J
set_option maxRecDepth 100000
namespace J
def top (i : Nat) : PySem.Stmt := PySem.Challenge.pw_justtherest_k82_whole_layouts.main.body.getD i (.Pass ⟨0, 0, 0, 0⟩)
def rowOf (x name : PySem.Str) (i : Nat) (N : List PySem.Str) (st : PySem.Stmt) : FRow := ⟨x, name, name, i, (L2.defArgs st).args, L2.defBody st, L2.defScope st, N⟩
def lay : Lay where
  rows := [rowOf "arity" "arity" 1 ["name"] (top 6),
    rowOf "items_of" "items_of" 2 ["thing"] (top 7),
    rowOf "number_of" "number_of" 3 ["thing"] (top 8),
    rowOf "item_of" "item_of" 4 ["number", "row"] (top 9),
    rowOf "with_item" "with_item" 5 ["number", "row", "thing"] (top 10),
    rowOf "place_of" "place_of" 6 ["thing", "row", "k"] (top 11),
    rowOf "look" "look" 8 ["name", "thing", "row"] (top 12),
    rowOf "compare" "compare" 10 ["name", "one", "other"] (top 13),
    rowOf "combine" "combine" 11 ["name", "one", "other"] (top 14),
    rowOf "is_expression_code" "is_expression_code" 13 ["thing", "kind", "part"] (top 15),
    rowOf "is_fixed" "is_fixed" 14 ["code", "mask", "part"] (top 16),
    rowOf "told_by" "told_by" 15 ["code", "store", "name", "part"] (top 17),
    rowOf "lessened_by" "lessened_by" 16 ["code", "mask", "store", "part"] (top 18),
    rowOf "reflect" "reflect" 17 ["name", "things"] (top 19),
    rowOf "applied" "applied" 18 ["name", "things"] (top 20),
    rowOf "worth" "worth" 19 ["e", "store", "kind", "part"] (top 22),
    rowOf "arguments_of" "arguments_of" 20 ["e"] (top 23),
    rowOf "goes_to" "goes_to" 25 ["jump"] (top 25),
    rowOf "first_state" "first_state" 214 ["store"] (top 27),
    rowOf "with_thing" "with_thing" 37 ["store", "v", "thing"] (top 28),
    rowOf "store_behind" "store_behind" 215 ["assigns", "store", "v", "e"] (top 29),
    rowOf "answer_of" "answer_of" 38 ["jump", "store"] (top 30),
    rowOf "block_behind" "block_behind" 39 ["jump", "store"] (top 31),
    rowOf "next_state" "next_state" 216 ["program", "state", "assigns", "jump", "store"] (top 32),
    rowOf "states_of" "states_of" 290 ["program", "store", "most", "states"] (top 33),
    rowOf "run" "run" 217 ["program", "store", "most", "state", "k"] (top 34),
    rowOf "gone_through" "gone_through" 291 ["program", "store", "most", "state"] (top 35),
    rowOf "takes" "takes" 294 ["instruction"] (top 40),
    rowOf "goes_on_to" "goes_on_to" 295 ["code", "at", "name"] (top 41),
    rowOf "heights_or_none" "heights_or_none" 296 ["code", "heights", "edge", "at", "height", "behind", "instruction", "way"] (top 42),
    rowOf "are_variables_there" "are_variables_there" 297 ["code", "many", "own"] (top 43),
    rowOf "check_code" "check_code" 298 ["code", "many"] (top 44),
    rowOf "code_of" "code_of" 299 ["e", "found", "part"] (top 45),
    rowOf "assigns_code" "assigns_code" 300 ["assigns", "found", "v", "e"] (top 46),
    rowOf "jump_to" "jump_to" 301 ["block", "follow", "addresses"] (top 47),
    rowOf "jump_code" "jump_code" 34 ["jump", "follow", "addresses"] (top 48),
    rowOf "code_of_block" "code_of_block" 302 ["block", "follow", "addresses"] (top 49),
    rowOf "addresses_in" "addresses_in" 303 ["program", "order", "follows", "found", "at", "number", "block"] (top 50),
    rowOf "code_in" "code_in" 304 ["program", "order", "follows", "addresses", "found", "number"] (top 51),
    rowOf "none_follow" "none_follow" 305 ["program", "block"] (top 52),
    rowOf "own_order" "own_order" 306 ["program"] (top 53),
    rowOf "target_of" "target_of" 307 ["program"] (top 54),
    rowOf "goes_by" "goes_by" 308 ["code", "at", "pile", "name"] (top 55),
    rowOf "pile_behind" "pile_behind" 309 ["instruction", "store", "pile", "many"] (top 56),
    rowOf "run_code" "run_code" 310 ["code", "store", "most", "at", "pile", "k", "later"] (top 57),
    rowOf "jump_steps" "jump_steps" 311 ["jump", "follow", "store", "goes"] (top 58),
    rowOf "steps_in" "steps_in" 312 ["program", "follows", "store", "most", "found", "state", "assigns", "jump", "behind"] (top 59),
    rowOf "target_steps" "target_steps" 313 ["program", "store", "most"] (top 60),
    rowOf "follows_in" "follows_in" 341 ["order", "found", "at", "number"] (top 62),
    rowOf "laid_out" "laid_out" 342 ["program", "order"] (top 63),
    rowOf "jumps_in" "jumps_in" 343 ["code", "instruction"] (top 64),
    rowOf "first_way" "first_way" 344 ["jump"] (top 65),
    rowOf "needs_jump" "needs_jump" 345 ["block", "follow", "way"] (top 66),
    rowOf "jumps_by" "jumps_by" 346 ["program", "order", "follows", "number"] (top 67),
    rowOf "all_orders" "all_orders" 347 ["many", "found", "_", "order", "number"] (top 68),
    rowOf "fewest_jumps" "fewest_jumps" 348 ["program", "best", "fewest", "order", "many"] (top 69),
    rowOf "laid_steps" "laid_steps" 349 ["program", "order", "store", "most"] (top 70),
    rowOf "_law_draws" "_law_draws" 143 ["script", "many", "cells", "rest", "draws", "k", "at", "once", "cell"] (top 72),
    rowOf "_law_take" "_law_take" 144 ["draws", "many"] (top 73),
    rowOf "_law_cell" "_law_cell" 145 ["script", "cell"] (top 74),
    rowOf "_law_thing" "_law_thing" 218 ["draws", "cell", "pick", "row", "k", "j"] (top 75),
    rowOf "_law_names" "_law_names" 146 [] (top 76),
    rowOf "_law_arities" "_law_arities" 147 [] (top 77),
    rowOf "_law_row" "_law_row" 148 ["thing"] (top 78),
    rowOf "_law_item" "_law_item" 149 ["number", "row"] (top 79),
    rowOf "_law_of_one" "_law_of_one" 150 ["name", "a"] (top 80),
    rowOf "_law_of_two" "_law_of_two" 151 ["name", "a", "b", "k", "one", "other"] (top 81),
    rowOf "_law_of_three" "_law_of_three" 152 ["name", "a", "b", "c"] (top 82),
    rowOf "_law_is_code" "_law_is_code" 153 ["code", "part"] (top 83),
    rowOf "_law_is_fixed" "_law_is_fixed" 154 ["code", "mask", "part"] (top 84),
    rowOf "_law_told" "_law_told" 155 ["code", "store", "name", "part"] (top 85),
    rowOf "_law_less_code" "_law_less_code" 156 ["code", "mask", "store", "part"] (top 86),
    rowOf "_law_apply" "_law_apply" 157 ["name", "things"] (top 87),
    rowOf "_law_worth" "_law_worth" 158 ["e", "store", "part"] (top 88),
    rowOf "_law_step" "_law_step" 159 ["program", "block", "store", "row", "pair", "jump"] (top 89),
    rowOf "_law_run" "_law_run" 160 ["program", "store", "most", "at", "k"] (top 90),
    rowOf "_law_simple" "_law_simple" 222 ["draws", "falls", "cell"] (top 91),
    rowOf "_law_fall" "_law_fall" 223 ["draws", "falls", "many", "cell", "pick", "one", "heap", "name"] (top 92),
    rowOf "_law_build" "_law_build" 224 ["draws", "falls", "many", "cell", "heap", "pick"] (top 93),
    rowOf "_law_program" "_law_program" 225 ["draws", "falls", "many", "size", "cell", "blocks", "k", "assigns", "j", "v", "pick", "jump"] (top 94),
    rowOf "_law_store" "_law_store" 226 ["draws", "many", "cell", "k"] (top 95),
    rowOf "_law_same" "_law_same" 161 ["actual", "due", "k"] (top 96),
    rowOf "_law_code_of" "_law_code_of" 321 ["e", "found", "part"] (top 97),
    rowOf "_law_block_code" "_law_block_code" 322 ["block", "follow", "addresses", "found", "v", "e", "jump", "way"] (top 98),
    rowOf "_law_laid" "_law_laid" 323 ["program", "order", "keeps_jumps", "blocks", "after", "k", "addresses", "at", "number", "code", "block"] (top 99),
    rowOf "_law_store_steps" "_law_store_steps" 338 ["program", "order", "keeps_jumps", "store", "most", "blocks", "at", "row", "found", "step", "follow", "many", "jump", "later", "own", "v", "e", "block"] (top 100),
    rowOf "_law_order" "_law_order" 350 ["draws", "many", "left", "found", "k"] (top 101),
    rowOf "_law_is_laid" "_law_is_laid" 351 ["program", "order", "due", "own", "block"] (top 102),
    rowOf "_law_orders" "_law_orders" 352 ["many", "found", "step", "longer", "order", "k"] (top 103),
    rowOf "_law_jumps" "_law_jumps" 353 ["program", "order", "found", "k", "jump", "follow", "way"] (top 104),
    rowOf "_law_is_run" "_law_is_run" 237 ["program", "order", "store", "most", "due", "steps", "code"] (top 105),
    rowOf "law" "law" 183 ["script", "draws", "cell", "falls", "many", "program", "size", "best", "fewest", "order", "jumps", "turn", "due"] (top 106)]
  gs := [("NAMES", 0, c_NAMES), ("ABOUT_VARIABLES", 10, c_ABOUT_VARIABLES)]
  ts := [("ARITIES", 1, [("first", 1), ("rest", 1), ("join", 2), ("more", 2), ("item", 2), ("put", 3), ("length", 1), ("place", 2), ("same", 2), ("less", 2), ("some", 1), ("listed", 1), ("plus", 2), ("minus", 2), ("choose", 3), ("fixed", 2), ("told", 2), ("lessened", 3)]), ("TAKES", 11, [("push", 0), ("load", 0), ("keep", 1), ("jump", 0), ("unless", 1), ("halt", 1)]), ("PUTS", 12, [("push", 1), ("load", 1), ("keep", 0), ("do", 1), ("jump", 0), ("unless", 0), ("halt", 0)])]
  bs := ["all", "bool", "int", "isinstance", "len", "list", "max", "range", "str", "tuple"]
end J
set_option maxRecDepth 100000
set_option maxHeartbeats 0
namespace J
open PySem
theorem fit_sc : lay.rows.all scopeB = true := by decide +kernel
theorem fit_tr : lay.rows.map (fun r => (trSs (trS 40 (r.sx lay.T)) r.body, r.as.length, r.N.length)) = lay.rows.map fun r => (match JP.F r.i with
    | some d => (some d.body, d.np, d.ns)
    | none => (trSs (trS 40 (r.sx lay.T)) r.body, r.as.length, r.N.length)) := by kernel_rfl
end J
set_option maxRecDepth 100000
set_option maxHeartbeats 0
namespace J
open PySem PySem.Spec PyProof.Rows L2
def loose0 : List Str := ["RestError", "InvalidCode", "NAMES", "ARITIES", "arity", "items_of", "number_of", "item_of", "with_item", "place_of", "look", "compare", "combine", "is_expression_code", "is_fixed", "told_by", "lessened_by", "reflect", "applied", "worth", "arguments_of", "goes_to", "first_state", "with_thing", "store_behind", "answer_of", "block_behind", "next_state", "states_of", "run"]
def loose1 : List Str := ["gone_through", "TAKES", "PUTS", "ABOUT_VARIABLES", "takes", "goes_on_to", "heights_or_none", "are_variables_there", "check_code", "code_of", "assigns_code", "jump_to", "jump_code", "code_of_block", "addresses_in", "code_in", "none_follow", "own_order", "target_of", "goes_by", "pile_behind", "run_code", "jump_steps", "steps_in", "target_steps", "follows_in", "laid_out", "jumps_in", "first_way", "needs_jump"]
def loose2 : List Str := ["jumps_by", "all_orders", "fewest_jumps", "laid_steps", "_law_draws", "_law_take", "_law_cell", "_law_thing", "_law_names", "_law_arities", "_law_row", "_law_item", "_law_of_one", "_law_of_two", "_law_of_three", "_law_is_code", "_law_is_fixed", "_law_told", "_law_less_code", "_law_apply", "_law_worth", "_law_step", "_law_run", "_law_simple", "_law_fall", "_law_build", "_law_program", "_law_store", "_law_same", "_law_code_of"]
def loose3 : List Str := ["_law_block_code", "_law_laid", "_law_store_steps", "_law_order", "_law_is_laid", "_law_orders", "_law_jumps", "_law_is_run"]
def loose : List Str := loose0 ++ loose1 ++ loose2 ++ loose3
abbrev R : PySem.W.OpenRow := PySem.W.OpenLaw.row PySem.Challenge.rw_justtherest_k82_whole_layouts
abbrev hk : PySem.W.Hook := hookJ 2 lay
def ob (s : PySem.W.SharedT) : AlJ := obsJG 2 lay (HandSHeadRun.getT s)
theorem ob_eq (s : PySem.W.SharedT) : ob s = hk.obs s.abs := obsJG_eq (HandSHeadRun.getT_eq s)
theorem run_false (w : World) : HandSHeadRun.RunEq R (PySem.W.view R.prog [106]) hk ob 4000 loose (w.withFollow "special-get-raises" false) := by
  intro os
  kernel_rfl
theorem run_true (w : World) : HandSHeadRun.RunEq R (PySem.W.view R.prog [106]) hk ob 4000 loose (w.withFollow "special-get-raises" true) := by
  intro os
  kernel_rfl
theorem run (w : World) : HandSHeadRun.RunEq R (PySem.W.view R.prog [106]) hk ob 4000 loose w :=
  PySem.W.byRow2 "special-get-raises" (P := fun w => HandSHeadRun.RunEq R (PySem.W.view R.prog [106]) hk ob 4000 loose w) run_false run_true w
end J
set_option maxRecDepth 100000
set_option maxHeartbeats 0
namespace J
theorem fits : Fits lay JP 40 where
  sc := fit_sc
  tr := fit_tr
  g := by
    intro g hg c hc
    simp only [lay, List.mem_cons, List.not_mem_nil, or_false] at hg
    (repeat' (first | (rcases hg with rfl | hg) | (subst hg))) <;> exact Option.some.inj hc
  t := by
    intro t ht s c hc
    simp only [lay, List.mem_cons, List.not_mem_nil, or_false] at ht
    (repeat' (first | (rcases ht with rfl | ht) | (subst ht))) <;>
    (change Tb _ s = some c at hc
     unfold Tb at hc
     split at hc <;> first
        | (rename_i hq; exact absurd hq (by decide))
        | (cases hc; done)
        | (cases hc; exact ⟨_, by simp, rfl⟩)
        | (simp_all; done))
end J
open PySem PySem.W PySem.Calls PyProof.Rows
theorem PySem.Challenge.cw_justtherest_k82_whole_layouts_holds : PySem.Challenge.rw_justtherest_k82_whole_layouts.Holds := by
  w_on; o_law
  refine HandSHeadRun.head_any (r := J.R) (q := view J.R.prog [106]) (H := J.hk) (ob := J.ob) (M := 4000) (loose := J.loose) (d := HandSHeadRun.topDef J.R.prog 106) (kwd := []) J.ob_eq
    (by kernel_rfl) (fun s => by kernel_rfl) J.run (by kernel_rfl) (by kernel_rfl) (by kernel_rfl) (by rfl) (by first | assumption | decide +kernel) (by decide +kernel) ⟨rfl, rfl, rfl, rfl, rfl, by decide +kernel⟩ ?hw ?hc
  case hw => w_witness2
  case hc =>
    exact J.law_end (l := J.lay) (J := J.JP) (k := 80) (i := 183) (px := default) J.fits rfl (by kernel_rfl) ⟨rfl, by decide, by decide⟩ (by kernel_rfl) J.lay.rows[91] (List.getElem_mem _) rfl rfl (by kernel_rfl) ⟨_, rfl⟩ J.law82
